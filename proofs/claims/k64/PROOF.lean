import PyProof.Rows.All
import Wide.All
import OpenK.AllK
import Wide.FinOn
import PyProof.EqAt
import PyProof.EqKinds
import PyProof.TupleCall
import HandS.ForMost
import HandS.ForExc
import HandS.Lambda
import HandS.HeadHook4
import HandS.ExcInit
import KE.KDictCopyH
import HandS.Style
import HandS.Conv
import HandS.Wide
import HandS.TupAny
import HandS.IsInst
import HandS.Defaults
import HandS.HotCalls
import PyProof.ReprBulk
import PyProof.ReprRoads
import HandS.RaiseMore
import KE.KTupSum
import HandS.Head0
import HandS.Head1
import HandS.Head2
import HandS.HeadEnd
import HandS.HeadHook1
import HandS.HeadHook2
import KE.GoesMore
import KE.KIndexOf
import HandS.ReCall
import HandS.ExcField
import KE.KExcInit
import HandS.Codes
import HandS.ExcIs
import KE.KExcIs
import PyProof.P3In
import PyProof.FactsAll.dict
import HandS.TupMul
import PyProof.NeKinds
import KE.SortData
import HandS.SortInts
import HandS.GenYield
import HandS.GenList
import HandS.GenCall
import KE.SortKeyHeap
import HandS.Nested
import HandS.SortKw
import HandS.ExcValue
import HandS.Iter
import HandS.EndTab
import KE.DataMinMax
import KE.GoesZip
import KE.GoesEnum
import KE.GoesEnumKw
import HandS.DictComp
import PyProof.DictDisplay
import PyProof.Rows.RowBridgeK
import KE.GoesComp
import KE.KAsSuite
import HandS.SetFor
import HandS.Strs
import KE.KStar
import HandS.Star
import HandS.TupLe
import HandS.Text
import KE.KUnpack
import PySem.Challenge.RW_twobenches_k64_texts_of_books
set_option Elab.async false
set_option linter.all false
set_option maxRecDepth 100000
set_option maxHeartbeats 4000000
section
namespace Dm
open PySem L2
inductive D where
  | non | bl (b : Bool) | int (i : Int) | str (x : Str) | tup (xs : List D) | lst (xs : List D) | ro (xs : List D) | edt | dtx (x : Str) (i : Int) | ref (i : Nat)
inductive DK where
  | n | i (k : Int) | t (ks : List (Option Int))
  deriving DecidableEq
structure LamD where
  q : Str
  params : Arguments
  body : Expr
  scope : Scope
  ns : List Str
  ps : List Str
inductive O where
  | lst (xs : List D)
    | tab (x : Str)
    | dic (ps : List (DK × D))
    | ins (x : Str) (fs : List (Str × D))
    | exn (x : Str) (fs : List (Str × D))
    | clo (L : LamD) (cs : List D)
  | dead
abbrev Hd := List O
inductive Sl where
  | no | val (d : D) | own (xs : List D)
abbrev Sd := List Sl
structure C where
  r : List Addr
  n : List Addr
  z : List Addr
def C.out (c : C) (a : Addr) : Prop := a ∉ c.r ∧ a ∉ c.n ∧ a ∉ c.z
def KTup (K : PySem.W.Frag) (a : Addr) (vs : List V) : Prop :=
  ∃ (o : Obj) (its : Array Value) (n : Nat), K.lookup a = some o ∧ o.cls = .type "tuple" ∧
    o.data = .seq its n ∧ its.size ≤ sizeLine ∧ Vals vs its.toList
def KnT (H : Hp) (a : Addr) (vs : List V) : Prop := ∃ o : Obj, H a = some (.frz o (.tup vs)) ∧ o.dict = none
theorem KnT.rd {H : Hp} {a : Addr} {vs : List V} (k : KnT H a vs) : Rd H a (.tup vs) := k.elim fun o z => .inr ⟨o, z.1⟩
def TupAt (K : PySem.W.Frag) (c : C) (H : Hp) (a : Addr) (vs : List V) : Prop := (c.out a ∧ KnT H a vs) ∨ (KTup K a vs ∧ ∀ o, K.lookup a = some o → o.dict = none)
def KLst (K : PySem.W.Frag) (a : Addr) (vs : List V) : Prop :=
  ∃ (o : Obj) (its : Array Value) (n : Nat), K.lookup a = some o ∧ o.cls = .type "list" ∧ o.dict = none ∧
    o.data = .seq its n ∧ its.size ≤ sizeLine ∧ Vals vs its.toList
def RoAt (K : PySem.W.Frag) (c : C) (H : Hp) (a : Addr) (vs : List V) : Prop := (c.out a ∧ Rd H a (.lst vs)) ∨ KLst K a vs
mutual
def Rel (K : PySem.W.Frag) (c : C) (H : Hp) : D → V → Prop
  | .non, v => v = .non
  | .bl b, v => v = .bl b
  | .int i, v => v = .int i
  | .str x, v => v = .str x
  | .tup ds, v => ∃ a vs, v = .ref a ∧ TupAt K c H a vs ∧ RelL K c H ds vs
  | .lst ds, v => ∃ a vs, v = .ref a ∧ c.out a ∧ H a = some (.lst vs) ∧ RelL K c H ds vs
  | .ro ds, v => ∃ a vs, v = .ref a ∧ RoAt K c H a vs ∧ RelL K c H ds vs
  | .edt, v => ∃ a, v = .ref a ∧ c.out a ∧ H a = some (.dK [])
  | .dtx k n, v => ∃ a, v = .ref a ∧ c.out a ∧ H a = some (.dK [(.inr k, .int n)])
  | .ref i, v => ∃ a, v = .ref a ∧ c.r[i]? = some a
def RelL (K : PySem.W.Frag) (c : C) (H : Hp) : List D → List V → Prop
  | [], vs => vs = []
  | d :: ds, vs => ∃ v r, vs = v :: r ∧ Rel K c H d v ∧ RelL K c H ds r
end
def tK (x : Str) : Str × Option Str := match x.cps.toList.span (fun c => c != 46) with
  | (_, []) => (x, none)
  | (a, _ :: b) => (⟨a.toArray⟩, some ⟨b.toArray⟩)
def lamQ (x : Str) : Str := x ++ ".<locals>." ++ "<lambda>"
def TabR (c : C) (H : Hp) (q : Str) (ps : Array Value) : Prop := TriplesOk ps.toList ∧ ∀ (pos : Pos) (cv : Value), codeAmong pos ps.toList = some cv → ∃ k, cv = .ref k ∧ c.out k ∧ H k = some (LamX.CodeO k q)
def opN : Option Int → NestedKey
  | none => .none
  | some k => .num k
def opD : Option Int → D
  | none => .non
  | some k => .int k
def DK.nk : DK → NestedKey
  | .n => .none
  | .i k => .num k
  | .t ks => .tup (ks.map opN)
def DK.d : DK → D
  | .n => .non
  | .i k => .int k
  | .t ks => .tup (ks.map opD)
def dX (a : Addr) (kvs : List (DK × V × V)) : HO := .ext fun h => kvs.length ≤ sizeLine ∧ (a == sysModules) = false ∧ ∃ (o : Obj) (es : Array DictEntry) (ep : Nat) (w : World),
  h.get? a = some o ∧ o.ExactDict ∧ o.data = .dict es ep ∧ Paired (fun (p : DK × V × V) (e : DictEntry) => e.hash = p.1.nk.hash w ∧ RelV p.2.1 e.key ∧ RelV p.2.2 e.val) kvs es.toList ∧ (kvs.map (·.1)).Nodup ∧ ep = kvs.length
def RelKV (K : PySem.W.Frag) (c : C) (H : Hp) : List (DK × D) → List (DK × V × V) → Prop
  | [], vs => vs = []
  | p :: ps, vs => ∃ v r, vs = v :: r ∧ p.1 = v.1 ∧ Rel K c H p.1.d v.2.1 ∧ Rel K c H p.2 v.2.2 ∧ RelKV K c H ps r
def RelF (K : PySem.W.Frag) (c : C) (H : Hp) : List (Str × D) → List (Str × V) → Prop
  | [], vs => vs = []
  | d :: ds, vs => ∃ v r, vs = v :: r ∧ d.1 = v.1 ∧ Rel K c H d.2 v.2 ∧ RelF K c H ds r
def LamO (f : Addr) (q : Str) (params : Arguments) (body : Expr) (scope : Scope) (cl : List (Str × Addr)) (k : Addr) : HO :=
  .ext fun h => ∃ (pm ctv : Value), h.get? f = some (PySem.W.kla_obj "<lambda>" q params body scope cl pm k ctv)
def RelC (K : PySem.W.Frag) (c : C) (H : Hp) (f : Addr) (cl : List (Str × Addr)) : List Str → List D → Prop
  | [], ds => ds = []
  | y :: ys, ds => ∃ d r z ob u v, ds = d :: r ∧ cl.lookup y = some z ∧ c.out z ∧ H z = some (.frz ob (.own f)) ∧ ob.data = .cell (some u) ∧ RelV v u ∧ Rel K c H d v ∧ RelC K c H f cl ys r
def RelO (K : PySem.W.Frag) (c : C) (H : Hp) (a : Addr) : O → Prop
  | .clo L cs => ∃ cl k fo, H a = some (.frz fo (LamO a L.q L.params L.body L.scope cl k)) ∧ c.out k ∧ H k = some (LamX.CodeO k L.q) ∧ (∀ y z, cl.lookup y = some z → y ∈ L.ns) ∧ (∀ x y z, cl.lookup x = some z → cl.lookup y = some z → x = y) ∧ RelC K c H a cl L.ns cs
  | .dead => ∃ u, H a = some u
  | .dic ps => ∃ kvs, H a = some (dX a kvs) ∧ RelKV K c H ps kvs
  | .ins x fs => ∃ dx vs, H a = some (.ins (He.ga K x) dx vs) ∧ c.out dx ∧ H dx = some (.own a) ∧ RelF K c H fs vs
  | .exn x fs => ∃ d, H a = some (exo a (He.ga K x) d) ∧ (fs ≠ [] → ∃ dd vs, d = some dd ∧ c.out dd ∧ H dd = some (exd dd vs) ∧ RelF K c H fs vs)
  | .lst ds => ∃ vs, H a = some (.lst vs) ∧ RelL K c H ds vs
  | .tab x => a = (He.cT K (tK x)).2 ∧ ∃ ps, H a = some (.tbl ps) ∧ TabR c H (lamQ x) ps
structure RelH (K : PySem.W.Frag) (c : C) (H : Hp) (h : Hd) : Prop where
  len : c.r.length = h.length
  nd : c.r.Nodup
  rn : ∀ a ∈ c.r, a ∉ c.n ∧ a ∉ c.z
  hid : ∀ a, a ∈ c.n ∨ a ∈ c.z → ∃ u, H a = some u
  obj : ∀ (i : Nat) (o : O) (a : Addr), h[i]? = some o → c.r[i]? = some a → RelO K c H a o
def RelSl (K : PySem.W.Frag) (c : C) (H : Hp) : Sl → Option V → Prop
  | .no, _ => True
  | .val d, o => ∃ v, o = some v ∧ Rel K c H d v
  | .own xs, o => ∃ p vs, o = some (.ref p) ∧ p ∈ c.z ∧ p ∉ c.n ∧ H p = some (.lst vs) ∧ RelL K c H xs vs
structure RelS (K : PySem.W.Frag) (c : C) (H : Hp) (sd : Sd) (s : L2.St) : Prop where
  len : sd.length = s.length
  sl : ∀ (i : Nat) (x : Sl) (o : Option V), sd[i]? = some x → s[i]? = some o → RelSl K c H x o
  inj : ∀ (i j : Nat) (xs ys : List D) (p : Addr), sd[i]? = some (.own xs) → sd[j]? = some (.own ys) → s[i]? = some (some (.ref p)) → s[j]? = some (some (.ref p)) → i = j
structure Ext (c : C) (H : Hp) (c' : C) (H' : Hp) : Prop where
  r : ∃ l, c'.r = c.r ++ l ∧ ∀ a ∈ l, H a = none
  n : c'.n = c.n
  z : ∀ a ∈ c'.z, a ∈ c.z ∨ H a = none
  old : ∀ a o, a ∉ c.r → a ∉ c.z → H a = some o → H' a = some o
  dom : ∀ a o, H a = some o → ∃ o', H' a = some o'
theorem Ext.refl (c : C) (H : Hp) : Ext c H c H := ⟨⟨[], by simp⟩, rfl, fun a h => .inl h, fun _ _ _ _ e => e, fun _ o e => ⟨o, e⟩⟩
theorem none_back {H H' : Hp} (dom : ∀ a o, H a = some o → ∃ o', H' a = some o') {a : Addr} (e : H' a = none) : H a = none := by
  cases q : H a with
  | none => rfl
  | some o =>
    obtain ⟨o', z⟩ := dom a o q
    rw [z] at e
    cases e
theorem Ext.trans {c c1 c2 : C} {H H1 H2 : Hp} (a : Ext c H c1 H1) (b : Ext c1 H1 c2 H2) : Ext c H c2 H2 := by
  obtain ⟨l1, e1, f1⟩ := a.r
  obtain ⟨l2, e2, f2⟩ := b.r
  refine ⟨⟨l1 ++ l2, by rw [e2, e1, List.append_assoc], fun x hx => ?_⟩, b.n.trans a.n, fun x hx => ?_, fun x o hr hz e => ?_, fun x o e => ?_⟩
  · rcases List.mem_append.mp hx with h | h
    · exact f1 x h
    · exact none_back a.dom (f2 x h)
  · rcases b.z x hx with h | h
    · exact a.z x h
    · exact .inr (none_back a.dom h)
  · refine b.old x o ?_ ?_ (a.old x o hr hz e)
    · rw [e1]
      intro q
      rcases List.mem_append.mp q with q | q
      · exact hr q
      · rw [f1 x q] at e; cases e
    · intro q
      rcases a.z x q with q | q
      · exact hz q
      · rw [q] at e; cases e
  · obtain ⟨o1, e1⟩ := a.dom x o e
    exact b.dom x o1 e1
theorem Ext.keep {c c' : C} {H H' : Hp} (x : Ext c H c' H') {a : Addr} {o : HO} (h : c.out a) (e : H a = some o) : c'.out a ∧ H' a = some o := by
  obtain ⟨l, e1, f1⟩ := x.r
  refine ⟨⟨?_, ?_, ?_⟩, x.old a o h.1 h.2.2 e⟩
  · rw [e1]
    intro q
    rcases List.mem_append.mp q with q | q
    · exact h.1 q
    · rw [f1 a q] at e; cases e
  · rw [x.n]; exact h.2.1
  · intro q
    rcases x.z a q with q | q
    · exact h.2.2 q
    · rw [q] at e; cases e
theorem Ext.rd {c c' : C} {H H' : Hp} (x : Ext c H c' H') {a : Addr} {o : HO} (h : c.out a) (e : Rd H a o) : c'.out a ∧ Rd H' a o := by
  rcases e with e | ⟨u, e⟩
  · exact ⟨(x.keep h e).1, .inl (x.keep h e).2⟩
  · exact ⟨(x.keep h e).1, .inr ⟨u, (x.keep h e).2⟩⟩
section
variable {K : PySem.W.Frag} {c c' : C} {H H' : Hp}
structure Car (c : C) (H : Hp) (c' : C) (H' : Hp) : Prop where
  out : ∀ a o, c.out a → H a = some o → c'.out a ∧ H' a = some o
  ref : ∀ (i : Nat) a, c.r[i]? = some a → c'.r[i]? = some a
theorem Car.rd (x : Car c H c' H') {a : Addr} {o : HO} (h : c.out a) (e : Rd H a o) : c'.out a ∧ Rd H' a o := by
  rcases e with e | ⟨u, e⟩
  · exact ⟨(x.out a _ h e).1, .inl (x.out a _ h e).2⟩
  · exact ⟨(x.out a _ h e).1, .inr ⟨u, (x.out a _ h e).2⟩⟩
theorem Car.kn (x : Car c H c' H') {a : Addr} {vs : List V} (h : c.out a) (k : KnT H a vs) : c'.out a ∧ KnT H' a vs := by
  obtain ⟨o, e, d⟩ := k
  exact ⟨(x.out a _ h e).1, o, (x.out a _ h e).2, d⟩
theorem Ext.car (x : Ext c H c' H') : Car c H c' H' := ⟨fun a o h e => x.keep h e, fun i a e => by
  obtain ⟨l, e1, _⟩ := x.r
  rw [e1, List.getElem?_append_left (List.getElem?_eq_some_iff.mp e).1]
  exact e⟩
mutual
theorem Rel.car (x : Car c H c' H') : ∀ {d : D} {v : V}, Rel K c H d v → Rel K c' H' d v
  | .non, v, h => h
  | .bl b, v, h => h
  | .int i, v, h => h
  | .str s, v, h => h
  | .tup ds, v, h => by
    obtain ⟨a, vs, e, t, r⟩ := (show ∃ a vs, v = .ref a ∧ TupAt K c H a vs ∧ RelL K c H ds vs from h)
    refine ⟨a, vs, e, ?_, RelL.car x r⟩
    rcases t with ⟨t1, t2⟩ | t
    · exact .inl (x.kn t1 t2)
    · exact .inr t
  | .lst ds, v, h => by
    obtain ⟨a, vs, e, t, t2, r⟩ := (show ∃ a vs, v = .ref a ∧ c.out a ∧ H a = some (.lst vs) ∧ RelL K c H ds vs from h)
    exact ⟨a, vs, e, (x.out a _ t t2).1, (x.out a _ t t2).2, RelL.car x r⟩
  | .ro ds, v, h => by
    obtain ⟨a, vs, e, t, r⟩ := (show ∃ a vs, v = .ref a ∧ RoAt K c H a vs ∧ RelL K c H ds vs from h)
    refine ⟨a, vs, e, ?_, RelL.car x r⟩
    rcases t with ⟨t1, t2⟩ | t
    · exact .inl (x.rd t1 t2)
    · exact .inr t
  | .edt, v, h => by
    obtain ⟨a, e, t, t2⟩ := (show ∃ a, v = .ref a ∧ c.out a ∧ H a = some (.dK []) from h)
    exact ⟨a, e, (x.out a _ t t2).1, (x.out a _ t t2).2⟩
  | .dtx k n, v, h => by
    obtain ⟨a, e, t, t2⟩ := (show ∃ a, v = .ref a ∧ c.out a ∧ H a = some (.dK [(.inr k, .int n)]) from h)
    exact ⟨a, e, (x.out a _ t t2).1, (x.out a _ t t2).2⟩
  | .ref i, v, h => by
    obtain ⟨a, e, t⟩ := (show ∃ a, v = .ref a ∧ c.r[i]? = some a from h)
    exact ⟨a, e, x.ref i a t⟩
theorem RelL.car (x : Car c H c' H') : ∀ {ds : List D} {vs : List V}, RelL K c H ds vs → RelL K c' H' ds vs
  | [], vs, h => h
  | d :: ds, vs, h => by
    obtain ⟨v, r, e, h1, h2⟩ := (show ∃ v r, vs = v :: r ∧ Rel K c H d v ∧ RelL K c H ds r from h)
    exact ⟨v, r, e, Rel.car x h1, RelL.car x h2⟩
end
theorem RelF.car (x : Car c H c' H') : ∀ {fs : List (Str × D)} {vs : List (Str × V)}, RelF K c H fs vs → RelF K c' H' fs vs
  | [], vs, h => h
  | f :: fs, vs, h => by
    obtain ⟨v, r, e, e1, h1, h2⟩ := (show ∃ v r, vs = v :: r ∧ f.1 = v.1 ∧ Rel K c H f.2 v.2 ∧ RelF K c H fs r from h)
    exact ⟨v, r, e, e1, h1.car x, RelF.car x h2⟩
theorem RelKV.car (x : Car c H c' H') : ∀ {fs : List (DK × D)} {vs : List (DK × V × V)}, RelKV K c H fs vs → RelKV K c' H' fs vs
  | [], vs, h => h
  | f :: fs, vs, h => by
    obtain ⟨v, r, e, e1, h1, h2, h3⟩ := (show ∃ v r, vs = v :: r ∧ f.1 = v.1 ∧ Rel K c H f.1.d v.2.1 ∧ Rel K c H f.2 v.2.2 ∧ RelKV K c H fs r from h)
    exact ⟨v, r, e, e1, h1.car x, h2.car x, RelKV.car x h3⟩
theorem RelC.car (x : Car c H c' H') {f : Addr} {cl : List (Str × Addr)} : ∀ {ys : List Str} {ds : List D}, RelC K c H f cl ys ds → RelC K c' H' f cl ys ds
  | [], ds, h => h
  | y :: ys, ds, h => by
    obtain ⟨d, r, z, ob, u, v, e, e1, h1, h2, h3, h4, h5, h6⟩ := h
    exact ⟨d, r, z, ob, u, v, e, e1, (x.out z _ h1 h2).1, (x.out z _ h1 h2).2, h3, h4, h5.car x, RelC.car x h6⟩
theorem RelO.car (x : Car c H c' H') {a : Addr} (hk : ∀ u, H a = some u → H' a = some u) : ∀ {o : O}, RelO K c H a o → RelO K c' H' a o
  | .lst ds, h => by
    obtain ⟨vs, e, r⟩ := h
    exact ⟨vs, hk _ e, r.car x⟩
  | .dic ps, h => by
    obtain ⟨kvs, e, r⟩ := h
    exact ⟨kvs, hk _ e, r.car x⟩
  | .ins y fs, h => by
    obtain ⟨dx, vs, e, o, e2, r⟩ := h
    exact ⟨dx, vs, hk _ e, (x.out dx _ o e2).1, (x.out dx _ o e2).2, r.car x⟩
  | .exn y fs, h => by
    obtain ⟨d, e, f⟩ := h
    refine ⟨d, hk _ e, fun ne => ?_⟩
    obtain ⟨dd, vs, e1, o, e2, r⟩ := f ne
    exact ⟨dd, vs, e1, (x.out dd _ o e2).1, (x.out dd _ o e2).2, r.car x⟩
  | .clo L cs, h => by
    obtain ⟨cl, k, fo, h1, h2, h3, h4, h5, h6⟩ := h
    exact ⟨cl, k, fo, hk _ h1, (x.out k _ h2 h3).1, (x.out k _ h2 h3).2, h4, h5, h6.car x⟩
  | .dead, h => by
    obtain ⟨u, h⟩ := h
    exact ⟨u, hk _ h⟩
  | .tab y, h => by
    obtain ⟨e, ps, e1, t, f⟩ := h
    refine ⟨e, ps, hk _ e1, t, fun pos cv hc => ?_⟩
    obtain ⟨k, g1, g2, g3⟩ := f pos cv hc
    exact ⟨k, g1, x.out k _ g2 g3⟩
theorem RelL.len : ∀ {ds : List D} {vs : List V}, RelL K c H ds vs → ds.length = vs.length
  | [], vs, h => by cases h; rfl
  | d :: ds, vs, h => by
    obtain ⟨v, r, e, h1, h2⟩ := (show ∃ v r, vs = v :: r ∧ Rel K c H d v ∧ RelL K c H ds r from h)
    subst e
    simp [RelL.len h2]
theorem RelL.get : ∀ {ds : List D} {vs : List V} {i : Nat} {d : D}, RelL K c H ds vs → ds[i]? = some d → ∃ v, vs[i]? = some v ∧ Rel K c H d v
  | [], vs, i, d, h, e => by simp at e
  | d0 :: ds, vs, i, d, h, e => by
    obtain ⟨v, r, e1, h1, h2⟩ := (show ∃ v r, vs = v :: r ∧ Rel K c H d0 v ∧ RelL K c H ds r from h)
    subst e1
    cases i with
    | zero => simp at e; subst e; exact ⟨v, rfl, h1⟩
    | succ i => exact RelL.get (i := i) h2 (by simpa using e)
theorem RelL.app : ∀ {ds es : List D} {vs ws : List V}, RelL K c H ds vs → RelL K c H es ws → RelL K c H (ds ++ es) (vs ++ ws)
  | [], es, vs, ws, h, g => by cases h; exact g
  | d :: ds, es, vs, ws, h, g => by
    obtain ⟨v, r, e, h1, h2⟩ := (show ∃ v r, vs = v :: r ∧ Rel K c H d v ∧ RelL K c H ds r from h)
    subst e
    exact ⟨v, r ++ ws, rfl, h1, RelL.app h2 g⟩
theorem RelL.take : ∀ {ds : List D} {vs : List V} (n : Nat), RelL K c H ds vs → RelL K c H (ds.take n) (vs.take n)
  | [], vs, n, h => by cases h; simp [RelL]
  | d :: ds, vs, 0, h => by simp [RelL]
  | d :: ds, vs, n + 1, h => by
    obtain ⟨v, r, e, h1, h2⟩ := (show ∃ v r, vs = v :: r ∧ Rel K c H d v ∧ RelL K c H ds r from h)
    subst e
    exact ⟨v, r.take n, rfl, h1, RelL.take n h2⟩
theorem RelL.drop : ∀ {ds : List D} {vs : List V} (n : Nat), RelL K c H ds vs → RelL K c H (ds.drop n) (vs.drop n)
  | [], vs, n, h => by cases h; simp [RelL]
  | d :: ds, vs, 0, h => h
  | d :: ds, vs, n + 1, h => by
    obtain ⟨v, r, e, h1, h2⟩ := (show ∃ v r, vs = v :: r ∧ Rel K c H d v ∧ RelL K c H ds r from h)
    subst e
    exact RelL.drop n h2
theorem RelL.set {d : D} {v : V} (h0 : Rel K c H d v) : ∀ {ds : List D} {vs : List V} (i : Nat), RelL K c H ds vs → RelL K c H (ds.set i d) (vs.set i v)
  | [], vs, i, h => by cases h; simp [RelL]
  | d0 :: ds, vs, 0, h => by
    obtain ⟨v0, r, e, h1, h2⟩ := (show ∃ v r, vs = v :: r ∧ Rel K c H d0 v ∧ RelL K c H ds r from h)
    subst e
    exact ⟨v, r, rfl, h0, h2⟩
  | d0 :: ds, vs, i + 1, h => by
    obtain ⟨v0, r, e, h1, h2⟩ := (show ∃ v r, vs = v :: r ∧ Rel K c H d0 v ∧ RelL K c H ds r from h)
    subst e
    exact ⟨v0, r.set i v, rfl, h1, RelL.set h0 i h2⟩
theorem RelL.one {d : D} {v : V} (h : Rel K c H d v) : RelL K c H [d] [v] := ⟨v, [], rfl, h, rfl⟩
end
end Dm
end
section
namespace Dm
open PySem L2
inductive Res (A : Type) where
  | ok (a : A) (s : Sd) (h : Hd)
  | exc (x : Str) (fs : List (Str × D)) (s : Sd) (h : Hd)
  | bad
abbrev M (A : Type) := Sd → Hd → Res A
def Res.bind {A B : Type} (m : Res A) (f : A → Sd → Hd → Res B) : Res B := match m with
  | .ok a s h => f a s h
  | .exc x fs s h => .exc x fs s h
  | .bad => .bad
section
variable {K : PySem.W.Frag} {c c' : C} {H H' : Hp} {h : Hd} {sd : Sd} {s : L2.St} {p : Addr} {o : HO}
abbrev Grow (H H' : Hp) : Prop := ∀ a o, H a = some o → H' a = some o
theorem grow_new (hp : H p = none) : Grow H (upd H p o) := fun a u e => by
  rw [upd_ne (ne_of_none e hp)]
  exact e
theorem Car.grow (g : Grow H H') : Car c H c H' := ⟨fun a o h e => ⟨h, g a o e⟩, fun _ _ e => e⟩
theorem Ext.grow (g : Grow H H') : Ext c H c H' := ⟨⟨[], by simp⟩, rfl, fun a h => .inl h, fun a o _ _ e => g a o e, fun a o e => ⟨o, g a o e⟩⟩
theorem RelH.grow (g : Grow H H') (x : RelH K c H h) : RelH K c H' h := ⟨x.len, x.nd, x.rn, fun a ha => (x.hid a ha).elim fun u e => ⟨u, g a u e⟩, fun i o a e1 e2 => (x.obj i o a e1 e2).car (Car.grow g) fun u q => g a u q⟩
theorem RelSl.car (x : Car c H c' H') (own : ∀ q u, q ∈ c.z → q ∉ c.n → H q = some u → q ∈ c'.z ∧ q ∉ c'.n ∧ H' q = some u) : ∀ {y : Sl} {o : Option V}, RelSl K c H y o → RelSl K c' H' y o
  | .no, o, h => trivial
  | .val d, o, ⟨v, e, r⟩ => ⟨v, e, r.car x⟩
  | .own xs, o, ⟨q, vs, e, h1, h2, h3, r⟩ => by
    obtain ⟨g1, g2, g3⟩ := own q _ h1 h2 h3
    exact ⟨q, vs, e, g1, g2, g3, r.car x⟩
theorem RelS.car (x : Car c H c' H') (own : ∀ q u, q ∈ c.z → q ∉ c.n → H q = some u → q ∈ c'.z ∧ q ∉ c'.n ∧ H' q = some u) (r : RelS K c H sd s) : RelS K c' H' sd s :=
  ⟨r.len, fun i y o e1 e2 => (r.sl i y o e1 e2).car x own, r.inj⟩
theorem RelS.grow (g : Grow H H') (x : RelS K c H sd s) : RelS K c H' sd s := x.car (Car.grow g) fun q u h1 h2 e => ⟨h1, h2, g q u e⟩
def C.hide (c : C) (p : Addr) : C := { c with z := p :: c.z }
def C.lock (c : C) (p : Addr) : C := { c with n := p :: c.n }
def C.hand (c : C) (p : Addr) : C := { c with r := c.r ++ [p] }
theorem Car.hide (hp : H p = none) : Car c H (c.hide p) (upd H p o) := ⟨fun a u h e => ⟨⟨h.1, h.2.1, fun q => by
    rcases List.mem_cons.mp q with q | q
    · subst q; rw [hp] at e; cases e
    · exact h.2.2 q⟩, grow_new hp a u e⟩, fun _ _ e => e⟩
theorem Car.lock (hp : H p = none) : Car c H (c.lock p) (upd H p o) := ⟨fun a u h e => ⟨⟨h.1, fun q => by
    rcases List.mem_cons.mp q with q | q
    · subst q; rw [hp] at e; cases e
    · exact h.2.1 q, h.2.2⟩, grow_new hp a u e⟩, fun _ _ e => e⟩
theorem Car.hand (hp : H p = none) : Car c H (c.hand p) (upd H p o) := ⟨fun a u h e => ⟨⟨fun q => (List.mem_append.mp q).elim (fun q => h.1 q) (fun q => by
    rw [List.mem_singleton.mp q, hp] at e; cases e), h.2.1, h.2.2⟩, grow_new hp a u e⟩, fun i a e => by
    show (c.r ++ [p])[i]? = some a
    rw [List.getElem?_append_left (List.getElem?_eq_some_iff.mp e).1]
    exact e⟩
theorem Ext.hide (hp : H p = none) : Ext c H (c.hide p) (upd H p o) := ⟨⟨[], by simp [C.hide]⟩, rfl, fun a q => by
    rcases List.mem_cons.mp q with q | q
    · subst q; exact .inr hp
    · exact .inl q, fun a u _ _ e => grow_new hp a u e, fun a u e => ⟨u, grow_new hp a u e⟩⟩
theorem Ext.hand (hp : H p = none) : Ext c H (c.hand p) (upd H p o) := ⟨⟨[p], rfl, fun a q => by rw [List.mem_singleton.mp q]; exact hp⟩, rfl, fun a q => .inl q, fun a u _ _ e => grow_new hp a u e, fun a u e => ⟨u, grow_new hp a u e⟩⟩
theorem RelH.there (x : RelH K c H h) {a : Addr} (e : a ∈ c.r) : ∃ u, H a = some u := by
  obtain ⟨i, hi, e⟩ := List.getElem_of_mem e
  have e1 : c.r[i]? = some a := by rw [List.getElem?_eq_getElem hi, e]
  have hi2 : i < h.length := by rw [← x.len]; exact hi
  have q := x.obj i h[i] a (List.getElem?_eq_getElem hi2) e1
  cases q2 : h[i] with
  | lst ds =>
    rw [q2] at q
    obtain ⟨vs, e3, _⟩ := q
    exact ⟨_, e3⟩
  | tab x =>
    rw [q2] at q
    obtain ⟨_, ps, e3, _⟩ := q
    exact ⟨_, e3⟩
  | dic ps =>
    rw [q2] at q
    obtain ⟨kvs, e3, _⟩ := q
    exact ⟨_, e3⟩
  | ins x fs =>
    rw [q2] at q
    obtain ⟨dx, vs, e3, _⟩ := q
    exact ⟨_, e3⟩
  | exn x fs =>
    rw [q2] at q
    obtain ⟨dx, e3, _⟩ := q
    exact ⟨_, e3⟩
  | clo L cs =>
    rw [q2] at q
    obtain ⟨cl, k, fo, e3, _⟩ := q
    exact ⟨_, e3⟩
  | dead =>
    rw [q2] at q
    exact q
theorem RelH.hide (hp : H p = none) (x : RelH K c H h) : RelH K (c.hide p) (upd H p o) h := ⟨x.len, x.nd, fun a ha => ⟨(x.rn a ha).1, fun q => by
    rcases List.mem_cons.mp q with q | q
    · subst q
      obtain ⟨u, e⟩ := x.there ha
      rw [hp] at e; cases e
    · exact (x.rn a ha).2 q⟩, fun a ha => by
    by_cases hb : a = p
    · subst hb; exact ⟨_, upd_same⟩
    · obtain ⟨u, e⟩ := x.hid a (ha.imp id fun q => (List.mem_cons.mp q).resolve_left hb)
      exact ⟨u, grow_new hp a u e⟩, fun i u a e1 e2 => (x.obj i u a e1 e2).car (Car.hide hp) fun u q => grow_new hp a u q⟩
theorem RelH.lock (hp : H p = none) (x : RelH K c H h) : RelH K (c.lock p) (upd H p o) h := ⟨x.len, x.nd, fun a ha => ⟨fun q => by
    rcases List.mem_cons.mp q with q | q
    · subst q
      obtain ⟨u, e⟩ := x.there ha
      rw [hp] at e; cases e
    · exact (x.rn a ha).1 q, (x.rn a ha).2⟩, fun a ha => by
    by_cases hb : a = p
    · subst hb; exact ⟨_, upd_same⟩
    · obtain ⟨u, e⟩ := x.hid a (ha.imp (fun q => (List.mem_cons.mp q).resolve_left hb) id)
      exact ⟨u, grow_new hp a u e⟩, fun i u a e1 e2 => (x.obj i u a e1 e2).car (Car.lock hp) fun u q => grow_new hp a u q⟩
theorem RelH.handO {ob : O} (hp : H p = none) (x : RelH K c H h) (r : RelO K (c.hand p) (upd H p o) p ob) : RelH K (c.hand p) (upd H p o) (h ++ [ob]) := by
  have hpr : p ∉ c.r := fun q => by
    obtain ⟨u, e⟩ := x.there q
    rw [hp] at e; cases e
  have hnz : ∀ a, H a = none → a ∉ c.n ∧ a ∉ c.z := fun a e => ⟨fun q => (by obtain ⟨u, z⟩ := x.hid a (.inl q); rw [e] at z; cases z), fun q => by obtain ⟨u, z⟩ := x.hid a (.inr q); rw [e] at z; cases z⟩
  obtain ⟨hn, hz⟩ := hnz p hp
  refine ⟨by simp [C.hand, x.len], ?_, fun a ha => ?_, fun a ha => (x.hid a ha).elim fun u e => ⟨u, grow_new hp a u e⟩, fun i u a e1 e2 => ?_⟩
  · show (c.r ++ [p]).Nodup
    rw [List.nodup_append]
    refine ⟨x.nd, by simp, fun a ha b hb e => ?_⟩
    rw [List.mem_singleton.mp hb] at e
    subst e
    exact hpr ha
  · rcases List.mem_append.mp ha with q | q
    · exact x.rn a q
    · rw [List.mem_singleton.mp q]; exact ⟨hn, hz⟩
  · by_cases hi : i < c.r.length
    · have e2' : c.r[i]? = some a := by
        have z : (c.r ++ [p])[i]? = some a := e2
        rw [List.getElem?_append_left hi] at z
        exact z
      have e1' : h[i]? = some u := by
        rw [List.getElem?_append_left (by rw [← x.len]; exact hi)] at e1
        exact e1
      exact (x.obj i u a e1' e2').car (Car.hand hp) fun u q => grow_new hp a u q
    · have hi2 : i < (c.r ++ [p]).length := (List.getElem?_eq_some_iff.mp e2).1
      have ei : i = c.r.length := by simp at hi2; omega
      have z : (c.r ++ [p])[i]? = some a := e2
      rw [ei, List.getElem?_append_right (Nat.le_refl _)] at z
      simp at z
      subst z
      rw [ei, x.len, List.getElem?_append_right (Nat.le_refl _)] at e1
      simp at e1
      subst e1
      exact r
theorem RelH.hand {ds : List D} {vs : List V} (hp : H p = none) (x : RelH K c H h) (r : RelL K c H ds vs) : RelH K (c.hand p) (upd H p (.lst vs)) (h ++ [.lst ds]) := x.handO hp ⟨vs, upd_same, r.car (Car.hand hp)⟩
theorem RelS.hide (hp : H p = Option.none) (x : RelS K c H sd s) : RelS K (c.hide p) (upd H p o) sd s := x.car (Car.hide hp) fun q u h1 h2 e => ⟨List.mem_cons_of_mem _ h1, h2, grow_new hp q u e⟩
theorem RelS.lock (hp : H p = Option.none) (x : RelS K c H sd s) : RelS K (c.lock p) (upd H p o) sd s := x.car (Car.lock hp) fun q u h1 h2 e => ⟨h1, fun z => by
    rcases List.mem_cons.mp z with z | z
    · subst z; rw [hp] at e; cases e
    · exact h2 z, grow_new hp q u e⟩
theorem RelS.hand (hp : H p = Option.none) (x : RelS K c H sd s) : RelS K (c.hand p) (upd H p o) sd s := x.car (Car.hand hp) fun q u h1 h2 e => ⟨h1, h2, grow_new hp q u e⟩
theorem Car.write (hz : p ∈ c.z) : Car c H c (upd H p o) := ⟨fun a u h e => ⟨h, by rw [upd_ne (fun z => h.2.2 (by rw [z]; exact hz))]; exact e⟩, fun _ _ e => e⟩
theorem Car.writeR (hz : p ∈ c.r) : Car c H c (upd H p o) := ⟨fun a u h e => ⟨h, by rw [upd_ne (fun z => h.1 (by rw [z]; exact hz))]; exact e⟩, fun _ _ e => e⟩
theorem Car.writeN (hz : p ∈ c.n) : Car c H c (upd H p o) := ⟨fun a u h e => ⟨h, by rw [upd_ne (fun z => h.2.1 (by rw [z]; exact hz))]; exact e⟩, fun _ _ e => e⟩
theorem Ext.write (hz : p ∈ c.r ∨ p ∈ c.z) : Ext c H c (upd H p o) := ⟨⟨[], by simp⟩, rfl, fun a q => .inl q, fun a u h1 h2 e => by
    rw [upd_ne (fun z => by subst z; exact hz.elim h1 h2)]; exact e, fun a u e => by
    by_cases hb : a = p
    · subst hb; exact ⟨_, upd_same⟩
    · exact ⟨u, by rw [upd_ne hb]; exact e⟩⟩
theorem hid_upd {a : Addr} (e : ∃ u, H a = some u) : ∃ u, (upd H p o) a = some u := by
  by_cases hb : a = p
  · subst hb; exact ⟨_, upd_same⟩
  · obtain ⟨u, e⟩ := e
    exact ⟨u, by rw [upd_ne hb]; exact e⟩
theorem RelH.write (hz : p ∈ c.z) (x : RelH K c H h) : RelH K c (upd H p o) h := ⟨x.len, x.nd, x.rn, fun a ha => hid_upd (x.hid a ha), fun i u a e1 e2 => (x.obj i u a e1 e2).car (Car.write hz) fun u q => by
    rw [upd_ne (fun z => (x.rn a (List.mem_of_getElem? e2)).2 (by rw [z]; exact hz))]; exact q⟩
theorem RelH.writeN (hz : p ∈ c.n) (x : RelH K c H h) : RelH K c (upd H p o) h := ⟨x.len, x.nd, x.rn, fun a ha => hid_upd (x.hid a ha), fun i u a e1 e2 => (x.obj i u a e1 e2).car (Car.writeN hz) fun u q => by
    rw [upd_ne (fun z => (x.rn a (List.mem_of_getElem? e2)).1 (by rw [z]; exact hz))]; exact q⟩
theorem RelS.writeN (hz : p ∈ c.n) (x : RelS K c H sd s) : RelS K c (upd H p o) sd s := x.car (Car.writeN hz) fun q u h1 h2 e => ⟨h1, h2, by rw [upd_ne (fun z => h2 (by rw [z]; exact hz))]; exact e⟩
theorem RelH.writeRO {ob : O} {i : Nat} (hi : c.r[i]? = some p) (x : RelH K c H h) (r : RelO K c (upd H p o) p ob) : RelH K c (upd H p o) (h.set i ob) := by
  have hm : p ∈ c.r := List.mem_of_getElem? hi
  refine ⟨by rw [List.length_set]; exact x.len, x.nd, x.rn, fun a ha => hid_upd (x.hid a ha), fun j u a e1 e2 => ?_⟩
  by_cases hj : j = i
  · subst hj
    rw [hi] at e2
    cases e2
    have hl : j < h.length := by rw [← x.len]; exact (List.getElem?_eq_some_iff.mp hi).1
    rw [List.getElem?_set_self hl] at e1
    cases e1
    exact r
  · rw [List.getElem?_set_ne (Ne.symm hj)] at e1
    have ne : a ≠ p := fun z => by
      subst z
      exact hj (nd_ix x.nd e2 hi)
    exact (x.obj j u a e1 e2).car (Car.writeR hm) fun u q => by rw [upd_ne ne]; exact q
theorem RelH.writeR {ds : List D} {vs : List V} {i : Nat} (hi : c.r[i]? = some p) (x : RelH K c H h) (r : RelL K c H ds vs) : RelH K c (upd H p (.lst vs)) (h.set i (.lst ds)) := x.writeRO hi ⟨vs, upd_same, r.car (Car.writeR (List.mem_of_getElem? hi))⟩
theorem RelS.writeR (hp : p ∈ c.r) (x : RelS K c H sd s) (y : RelH K c H h) : RelS K c (upd H p o) sd s := x.car (Car.writeR hp) fun q u h1 h2 e => ⟨h1, h2, by
    rw [upd_ne (fun z => (y.rn p hp).2 (by rw [← z]; exact h1))]; exact e⟩
theorem RelS.writeO {i : Nat} {ys xs : List D} {vs : List V} (hi : sd[i]? = some (.own ys)) (hs : s[i]? = some (some (.ref p))) (x : RelS K c H sd s) (r : RelL K c H xs vs) : RelS K c (upd H p (.lst vs)) (sd.set i (.own xs)) s := by
  obtain ⟨q, ws, e, hz, hn, hq, _⟩ := x.sl i _ _ hi hs
  have e' : p = q := by injection e with e; injection e
  subst e'
  refine ⟨by rw [List.length_set]; exact x.len, fun j y o e1 e2 => ?_, fun j k as bs q e1 e2 f1 f2 => ?_⟩
  · by_cases hj : j = i
    · subst hj
      rw [List.getElem?_set_self (List.getElem?_eq_some_iff.mp hi).1] at e1
      cases e1
      rw [hs] at e2
      cases e2
      exact ⟨p, vs, rfl, hz, hn, upd_same, r.car (Car.write hz)⟩
    · rw [List.getElem?_set_ne (Ne.symm hj)] at e1
      have t := x.sl j y o e1 e2
      cases y with
      | no => trivial
      | val d =>
        obtain ⟨v, e3, r3⟩ := t
        exact ⟨v, e3, r3.car (Car.write hz)⟩
      | own as =>
        obtain ⟨q, us, e3, g1, g2, g3, r3⟩ := t
        subst e3
        have ne : q ≠ p := fun z => by
          subst z
          exact hj (x.inj j i _ _ _ e1 hi e2 hs)
        exact ⟨q, us, rfl, g1, g2, by rw [upd_ne ne]; exact g3, r3.car (Car.write hz)⟩
  · have back : ∀ (j : Nat) (as : List D), (sd.set i (.own xs))[j]? = some (.own as) → ∃ bs, sd[j]? = some (.own bs) := fun j as e => by
      by_cases hj : j = i
      · subst hj; exact ⟨_, hi⟩
      · rw [List.getElem?_set_ne (Ne.symm hj)] at e
        exact ⟨_, e⟩
    obtain ⟨_, g1⟩ := back j as e1
    obtain ⟨_, g2⟩ := back k bs e2
    exact x.inj j k _ _ q g1 g2 f1 f2
theorem RelS.set {i : Nat} {d : D} {v : V} (x : RelS K c H sd s) (r : Rel K c H d v) : RelS K c H (sd.set i (.val d)) (s.set i (some v)) := by
  refine ⟨by simp [x.len], fun j y o e1 e2 => ?_, fun j k as bs q e1 e2 f1 f2 => ?_⟩
  · by_cases hj : j = i
    · subst hj
      have hl : j < sd.length := by have := (List.getElem?_eq_some_iff.mp e1).1; simpa using this
      rw [List.getElem?_set_self hl] at e1
      rw [List.getElem?_set_self (by rw [← x.len]; exact hl)] at e2
      cases e1; cases e2
      exact ⟨v, rfl, r⟩
    · rw [List.getElem?_set_ne (Ne.symm hj)] at e1 e2
      exact x.sl j y o e1 e2
  · have ne : ∀ (j : Nat) (as : List D), (sd.set i (.val d))[j]? = some (.own as) → j ≠ i := fun j as e z => by
      subst z
      have hl : j < sd.length := by have := (List.getElem?_eq_some_iff.mp e).1; simpa using this
      rw [List.getElem?_set_self hl] at e
      cases e
    have n1 := ne j as e1
    have n2 := ne k bs e2
    rw [List.getElem?_set_ne (Ne.symm n1)] at e1 f1
    rw [List.getElem?_set_ne (Ne.symm n2)] at e2 f2
    exact x.inj j k as bs q e1 e2 f1 f2
theorem RelS.none {i : Nat} (x : RelS K c H sd s) (o : Option V) : RelS K c H (sd.set i .no) (s.set i o) := by
  refine ⟨by simp [x.len], fun j y u e1 e2 => ?_, fun j k as bs q e1 e2 f1 f2 => ?_⟩
  · by_cases hj : j = i
    · subst hj
      have hl : j < sd.length := by have := (List.getElem?_eq_some_iff.mp e1).1; simpa using this
      rw [List.getElem?_set_self hl] at e1
      cases e1
      trivial
    · rw [List.getElem?_set_ne (Ne.symm hj)] at e1 e2
      exact x.sl j y u e1 e2
  · have ne : ∀ (j : Nat) (as : List D), (sd.set i .no)[j]? = some (.own as) → j ≠ i := fun j as e z => by
      subst z
      have hl : j < sd.length := by have := (List.getElem?_eq_some_iff.mp e).1; simpa using this
      rw [List.getElem?_set_self hl] at e
      cases e
    have n1 := ne j as e1
    have n2 := ne k bs e2
    rw [List.getElem?_set_ne (Ne.symm n1)] at e1 f1
    rw [List.getElem?_set_ne (Ne.symm n2)] at e2 f2
    exact x.inj j k as bs q e1 e2 f1 f2
theorem RelS.setO {i : Nat} {xs : List D} {vs : List V} (x : RelS K c H sd s) (hz : p ∈ c.z) (hn : p ∉ c.n) (hp : H p = some (.lst vs)) (r : RelL K c H xs vs) (fr : ∀ (j : Nat) as, sd[j]? = some (.own as) → s[j]? ≠ some (some (.ref p))) : RelS K c H (sd.set i (.own xs)) (s.set i (some (.ref p))) := by
  refine ⟨by simp [x.len], fun j y o e1 e2 => ?_, fun j k as bs q e1 e2 f1 f2 => ?_⟩
  · by_cases hj : j = i
    · subst hj
      have hl : j < sd.length := by have := (List.getElem?_eq_some_iff.mp e1).1; simpa using this
      rw [List.getElem?_set_self hl] at e1
      rw [List.getElem?_set_self (by rw [← x.len]; exact hl)] at e2
      cases e1; cases e2
      exact ⟨p, vs, rfl, hz, hn, hp, r⟩
    · rw [List.getElem?_set_ne (Ne.symm hj)] at e1 e2
      exact x.sl j y o e1 e2
  · by_cases hj : j = i
    · by_cases hk : k = i
      · rw [hj, hk]
      · subst hj
        have hl : j < s.length := by have := (List.getElem?_eq_some_iff.mp f1).1; simpa using this
        rw [List.getElem?_set_self hl] at f1
        rw [List.getElem?_set_ne (Ne.symm hk)] at e2 f2
        have e : p = q := by injection f1 with f1; injection f1 with f1; injection f1
        subst e
        exact absurd f2 (fr k bs e2)
    · by_cases hk : k = i
      · subst hk
        have hl : k < s.length := by have := (List.getElem?_eq_some_iff.mp f2).1; simpa using this
        rw [List.getElem?_set_self hl] at f2
        rw [List.getElem?_set_ne (Ne.symm hj)] at e1 f1
        have e : p = q := by injection f2 with f1; injection f1 with f1; injection f1
        subst e
        exact absurd f1 (fr j as e1)
      · rw [List.getElem?_set_ne (Ne.symm hj)] at e1 f1
        rw [List.getElem?_set_ne (Ne.symm hk)] at e2 f2
        exact x.inj j k as bs q e1 e2 f1 f2
end
end Dm
end
section
namespace Dm
open PySem L2
def ExR (K : PySem.W.Frag) (mg : Str → Option Value) (c : C) (H : Hp) (x : Str) (fs : List (Str × D)) (cls : Value) (dx : Option Addr) : Prop :=
  ∃ T, mg x = some (.ref T) ∧ cls = .ref T ∧ (fs ≠ [] → ∃ a vs, dx = some a ∧ c.out a ∧ H a = some (.xd vs) ∧ RelF K c H fs vs)
def Out (K : PySem.W.Frag) (mg : Str → Option Value) {A B : Type} (R : C → Hp → A → B → Prop) (c : C) (H : Hp) (s : L2.St) (Q : B → Hp → Prop) (W : WX) : Res A → Prop
  | .ok a sd h => ∀ b c' H', Ext c H c' H' → RelS K c' H' sd s → RelH K c' H' h → R c' H' a b → Q b H'
  | .exc x fs sd h => ∀ cls dx c' H', Ext c H c' H' → RelS K c' H' sd s → RelH K c' H' h → ExR K mg c' H' x fs cls dx → W cls dx s H'
  | .bad => False
def lift (K : PySem.W.Frag) (mg : Str → Option Value) (W : WX) {A B : Type} (R : C → Hp → A → B → Prop) (m : M A) : L2.St → Hp → (B → Hp → Prop) → Prop := fun s H Q =>
  ∃ c sd h, RelS K c H sd s ∧ RelH K c H h ∧ Out K mg R c H s Q W (m sd h)
abbrev lE (K : PySem.W.Frag) (mg : Str → Option Value) (W : WX) (m : M D) : TE := lift K mg W (Rel K) m
abbrev lA (K : PySem.W.Frag) (mg : Str → Option Value) (W : WX) (m : M (List D)) : TA := lift K mg W (RelL K) m
def eqR {A : Type} (_ : C) (_ : Hp) (a b : A) : Prop := a = b
abbrev lT (K : PySem.W.Frag) (mg : Str → Option Value) (W : WX) (m : M Bool) : TT := lift K mg W eqR m
abbrev lO (K : PySem.W.Frag) (mg : Str → Option Value) (W : WX) (m : M (Option Int)) : TO := lift K mg W eqR m
section
variable {K : PySem.W.Frag} {mg : Str → Option Value} {A B A' B' : Type} {R : C → Hp → A → B → Prop} {R' : C → Hp → A' → B' → Prop} {c c1 : C} {H H1 : Hp} {s : L2.St} {W : WX}
theorem Out.imp {Q Q' : B → Hp → Prop} {m : Res A} (h : Out K mg R c H s Q W m) (i : ∀ b H', Q b H' → Q' b H') : Out K mg R c H s Q' W m := by
  cases m with
  | ok a sd h' => exact fun b c' H' x1 x2 x3 x4 => i b H' (h b c' H' x1 x2 x3 x4)
  | exc x fs sd h' => exact h
  | bad => exact h
theorem Out.shift {Q : B → Hp → Prop} {m : Res A} (h : Out K mg R c H s Q W m) (x : Ext c H c1 H1) : Out K mg R c1 H1 s Q W m := by
  cases m with
  | ok a sd h' => exact fun b c' H' x1 x2 x3 x4 => h b c' H' (x.trans x1) x2 x3 x4
  | exc y fs sd h' => exact fun cls dx c' H' x1 x2 x3 x4 => h cls dx c' H' (x.trans x1) x2 x3 x4
  | bad => exact h
def Then (K : PySem.W.Frag) (mg : Str → Option Value) (R : C → Hp → A → B → Prop) (s : L2.St) (P : A → Sd → Hd → C → Hp → Prop) (b : B) (H1 : Hp) : Prop :=
  ∃ c1 a sd h, RelS K c1 H1 sd s ∧ RelH K c1 H1 h ∧ R c1 H1 a b ∧ P a sd h c1 H1
theorem Out.bind {Q : B' → Hp → Prop} {m : Res A} {f : A → Sd → Hd → Res A'} (h : Out K mg R' c H s Q W (m.bind f)) :
    Out K mg R c H s (Then K mg R s fun a sd h' c1 H1 => Ext c H c1 H1 ∧ Out K mg R' c1 H1 s Q W (f a sd h')) W m := by
  cases m with
  | ok a sd h' => exact fun b c' H' x1 x2 x3 x4 => ⟨c', a, sd, h', x2, x3, x4, x1, Out.shift (m := f a sd h') h x1⟩
  | exc x fs sd h' => exact h
  | bad => exact h
end
section
variable {X : Cx}
theorem pe_imp {e : Expr} {t t' : TE} (h : PE X e t) (i : ∀ s H Q, t' s H Q → t s H Q) : PE X e t' := ⟨fun pins st s H Q I q => h.run pins st s H Q I (i s H Q q)⟩
theorem pt_imp {e : Expr} {t t' : TT} (h : PT X e t) (i : ∀ s H Q, t' s H Q → t s H Q) : PT X e t' := ⟨fun pins st s H Q I q => h.run pins st s H Q I (i s H Q q)⟩
theorem pw_imp {e : Expr} {t t' : TT} (h : PW X e t) (i : ∀ s H Q, t' s H Q → t s H Q) : PW X e t' := ⟨fun wh pins st s H Q I q => h.run wh pins st s H Q I (i s H Q q)⟩
theorem pa_imp {e : List Expr} {t t' : TA} (h : PA X e t) (i : ∀ s H Q, t' s H Q → t s H Q) : PA X e t' := ⟨fun p pins st s H Q I q => h.run p pins st s H Q I (i s H Q q)⟩
theorem po_imp {e : Option Expr} {t t' : TO} (h : PO X e t) (i : ∀ s H Q, t' s H Q → t s H Q) : PO X e t' := ⟨fun pins st s H Q I q => h.run pins st s H Q I (i s H Q q)⟩
theorem ps_imp {e : Stmt} {t t' : TS} (h : PS X e t) (i : ∀ D s H, t' D s H → t D s H) : PS X e t' := ⟨fun pins st s H D I q => h.run pins st s H D I (i D s H q)⟩
theorem pss_imp {e : List Stmt} {t t' : TS} (h : PSs X e t) (i : ∀ D s H, t' D s H → t D s H) : PSs X e t' := ⟨fun pins st s H D I q => h.run pins st s H D I (i D s H q)⟩
end
def mC (d : D) : M D := fun s h => .ok d s h
def mVar (i : Nat) : M D := fun s h => match s[i]? with
  | some (.val d) => .ok d s h
  | _ => .bad
def mOf {A : Type} (o : Option A) : M A := fun s h => match o with
  | some a => .ok a s h
  | none => .bad
def mUn (f : Hd → D → Option D) (a : M D) : M D := fun s h => (a s h).bind fun x s h => mOf (f h x) s h
def mBin (f : Hd → D → D → Option D) (a b : M D) : M D := fun s h => (a s h).bind fun x s h => (b s h).bind fun y s h => mOf (f h x y) s h
def mChain (f g : Hd → D → D → Option D) (a b e : M D) : M D := fun s h => (a s h).bind fun x s h => (b s h).bind fun y s h => match f h x y with
  | some (.bl true) => (e s h).bind fun z s h => mOf (g h y z) s h
  | some (.bl false) => .ok (.bl false) s h
  | _ => .bad
def mNil : M (List D) := fun s h => .ok [] s h
def mCons (a : M D) (b : M (List D)) : M (List D) := fun s h => (a s h).bind fun x s h => (b s h).bind fun xs s h => .ok (x :: xs) s h
def mTup (a : M (List D)) : M D := fun s h => (a s h).bind fun xs s h => if xs.length ≤ 100000 then .ok (.tup xs) s h else .bad
def mAndV (a b : M D) : M D := fun s h => (a s h).bind fun x s h => match x with
  | .bl true => b s h
  | .bl false => .ok (.bl false) s h
  | _ => .bad
def mOrV (a b : M D) : M D := fun s h => (a s h).bind fun x s h => match x with
  | .bl true => .ok (.bl true) s h
  | .bl false => b s h
  | _ => .bad
def mNotV (a : M D) : M D := fun s h => (a s h).bind fun x s h => match x with
  | .bl b => .ok (.bl !b) s h
  | _ => .bad
def mTest (a : M D) : M Bool := fun s h => (a s h).bind fun x s h => match x with
  | .bl b => .ok b s h
  | _ => .bad
def mAnd (a b : M Bool) : M Bool := fun s h => (a s h).bind fun x s h => bif x then b s h else .ok false s h
def mOr (a b : M Bool) : M Bool := fun s h => (a s h).bind fun x s h => bif x then .ok true s h else b s h
def mNot (a : M Bool) : M Bool := fun s h => (a s h).bind fun x s h => .ok (!x) s h
def mIf {A : Type} (t : M Bool) (a b : M A) : M A := fun s h => (t s h).bind fun x s h => bif x then a s h else b s h
def mCall (f : List D → Hd → Res D) (a : M (List D)) : M D := fun s h => (a s h).bind fun xs s h => match f xs h with
  | .ok d _ h => .ok d s h
  | .exc x fs _ h => .exc x fs s h
  | .bad => .bad
def mCB (f : Hd → List D → Option D) (a : M (List D)) : M D := fun s h => (a s h).bind fun xs s h => mOf (f h xs) s h
def mNoP : M (Option Int) := fun s h => .ok none s h
def mPart (a : M D) : M (Option Int) := fun s h => (a s h).bind fun x s h => match x with
  | .int i => .ok (some i) s h
  | _ => .bad
def DOp (K : PySem.W.Frag) (f : Hd → D → D → Option D) : R2 := fun x y H Q => ∃ c h a b d, RelH K c H h ∧ Rel K c H a x ∧ Rel K c H b y ∧ f h a b = some d ∧ ∀ v H', Grow H H' → Rel K c H' d v → Q v H'
def DUn (K : PySem.W.Frag) (f : Hd → D → Option D) : V → Hp → VK → Prop := fun x H Q => ∃ c h a d, RelH K c H h ∧ Rel K c H a x ∧ f h a = some d ∧ ∀ v H', Grow H H' → Rel K c H' d v → Q v H'
def DCl (K : PySem.W.Frag) (f : Hd → List D → Option D) : List V → Hp → VK → Prop := fun xs H Q => ∃ c h as d, RelH K c H h ∧ RelL K c H as xs ∧ f h as = some d ∧ ∀ v H', Grow H H' → Rel K c H' d v → Q v H'
section
variable {X : Cx} {W : WX} {K : PySem.W.Frag} {mg : Str → Option Value}
theorem opr_imp {f : Value → Value → Sem Value} {r r' : R2} (h : OpR X f r) (i : ∀ x y H Q, r' x y H Q → r x y H Q) : OpR X f r' := fun pins s σ H x y v u Q I rx ry q => h pins s σ H x y v u Q I rx ry (i _ _ _ _ q)
theorem unr_imp {f : Value → Sem Value} {r r' : V → Hp → VK → Prop} (h : UnR X f r) (i : ∀ x H Q, r' x H Q → r x H Q) : UnR X f r' := fun pins s σ H x v Q I rx q => h pins s σ H x v Q I rx (i _ _ _ q)
theorem clr_imp {f : Value} {r r' : List V → Hp → VK → Prop} (h : CallR X f r) (i : ∀ x H Q, r' x H Q → r x H Q) : CallR X f r' := by
  intro pins s σ H x v Q I rx q
  exact h pins s σ H x v Q I rx (i _ _ _ q)
theorem ixr_imp {r r' : R2} (h : IxR X r) (i : ∀ x y H Q, r' x y H Q → r x y H Q) : IxR X r' := by
  intro e1 e2 pins s σ H x y v u Q I rx ry q hs
  exact h e1 e2 pins s σ H x y v u Q I rx ry (i _ _ _ _ q) hs
variable {a b e : Expr} {ma mb me : M D} {pos : Pos}
theorem out_pure {c : C} {H : Hp} {s : L2.St} {Q : VK} {sd : Sd} {h : Hd} {d : D} (rs : RelS K c H sd s) (rh : RelH K c H h) (q : Out K mg (Rel K) c H s Q W (.ok d sd h)) : ∀ v H', Grow H H' → Rel K c H' d v → Q v H' :=
  fun v H' g r => q v c H' (Ext.grow g) (rs.grow g) (rh.grow g) r
theorem e_var (i : Nat) {x : Str} (hN : X.N[i]? = some x := by rfl) (hv : Vis X.env.scope x := by first | exact Or.inl rfl | exact Or.inr (Or.inl rfl) | exact Or.inr (Or.inr rfl)) (hd : (x == ("__debug__" : Str)) = false := by decide)
    (hcd : (x == ("__classdict__" : Str)) = false := by decide) : PE X (.Name x pos) (lE X.K X.mg W (mVar i)) := pe_imp (pe_var hN hv hd hcd) fun s H Q ⟨c, sd, h, rs, rh, q⟩ => by
  unfold mVar at q
  cases e : sd[i]? with
  | none => rw [e] at q; exact q.elim
  | some y =>
    rw [e] at q
    cases y with
    | no => exact q.elim
    | own xs => exact q.elim
    | val d =>
      have hi : i < s.length := by rw [← rs.len]; exact (List.getElem?_eq_some_iff.mp e).1
      obtain ⟨v, e2, r⟩ := rs.sl i _ _ e (List.getElem?_eq_getElem hi)
      exact ⟨v, by rw [List.getElem?_eq_getElem hi, e2], q v c H (Ext.refl c H) rs rh r⟩
theorem lift_c {v : V} {d : D} (hr : ∀ c H, Rel K c H d v) (s : L2.St) (H : Hp) (Q : VK) : lE K mg W (mC d) s H Q → tC v s H Q := fun ⟨c, sd, h, rs, rh, q⟩ => q v c H (Ext.refl c H) rs rh (hr c H)
theorem e_int {i : Int} {j : Nat} : PE X (.Constant (.int i) j pos) (lE X.K X.mg W (mC (.int i))) := pe_imp pe_int (lift_c fun _ _ => rfl)
theorem e_bl {i : Bool} {j : Nat} : PE X (.Constant (.bool i) j pos) (lE X.K X.mg W (mC (.bl i))) := pe_imp pe_bl (lift_c fun _ _ => rfl)
theorem e_non {j : Nat} : PE X (.Constant .none j pos) (lE X.K X.mg W (mC .non)) := pe_imp pe_non (lift_c fun _ _ => rfl)
theorem e_str {x : Str} {j : Nat} : PE X (.Constant (.str x) j pos) (lE X.K X.mg W (mC (.str x))) := pe_imp pe_str (lift_c fun _ _ => rfl)
theorem e_glo {x : Str} {i : Int} (hm : ∃ t, X.mg x = some (.int i t)) (hg : Gl X x := by rfl) (hd : (x == ("__debug__" : Str)) = false := by decide) : PE X (.Name x pos) (lE X.K X.mg W (mC (.int i))) := by
  obtain ⟨t, hm⟩ := hm
  exact pe_imp (pe_glob (v := .int i) hg hm ⟨t, rfl⟩ hd) (lift_c fun _ _ => rfl)
theorem lift_bin {f : Hd → D → D → Option D} (s : L2.St) (H : Hp) (Q : VK) : lE K mg W (mBin f ma mb) s H Q → tOp (DOp K f) (lE K mg W ma) (lE K mg W mb) s H Q := fun ⟨c, sd, h, rs, rh, q⟩ =>
  ⟨c, sd, h, rs, rh, (Out.bind (R := Rel K) q).imp fun x H1 ⟨c1, d1, sd1, h1, rs1, rh1, r1, _, q1⟩ =>
    ⟨c1, sd1, h1, rs1, rh1, (Out.bind (R := Rel K) q1).imp fun y H2 ⟨c2, d2, sd2, h2, rs2, rh2, r2, x2, q2⟩ => by
      unfold mOf at q2
      cases e : f h2 d1 d2 with
      | none => rw [e] at q2; exact q2.elim
      | some d =>
        rw [e] at q2
        exact ⟨c2, h2, d1, d2, d, rh2, r1.car x2.car, r2, e, out_pure rs2 rh2 q2⟩⟩⟩
theorem e_bin {op : Operator} {f : Hd → D → D → Option D} (ho : OpR X (binaryOp op) (DOp X.K f)) (ha : PE X a (lE X.K X.mg W ma)) (hb : PE X b (lE X.K X.mg W mb)) : PE X (.BinOp a op b pos) (lE X.K X.mg W (mBin f ma mb)) :=
  pe_imp (pe_op ho ha hb) lift_bin
theorem e_cmp {op : CmpOp} {f : Hd → D → D → Option D} (ho : OpR X (compareOp op) (DOp X.K f)) (ha : PE X a (lE X.K X.mg W ma)) (hb : PE X b (lE X.K X.mg W mb)) (hm : behindInMarks op b = false := by rfl) : PE X (.Compare a [op] [b] pos) (lE X.K X.mg W (mBin f ma mb)) :=
  pe_imp (pe_cmpR ho ha hb hm) lift_bin
theorem e_ix {f : Hd → D → D → Option D} (ho : IxR X (DOp X.K f)) (ha : PE X a (lE X.K X.mg W ma)) (hb : PE X b (lE X.K X.mg W mb)) (hs : PlainIx b := by exact fun _ _ => rfl) : PE X (.Subscript a b pos) (lE X.K X.mg W (mBin f ma mb)) :=
  pe_imp (pe_ix ho ha hb hs) lift_bin
theorem e_un {op : UnaryOp} {f : Hd → D → Option D} (ho : UnR X (unaryOp op) (DUn X.K f)) (ha : PE X a (lE X.K X.mg W ma)) : PE X (.UnaryOp op a pos) (lE X.K X.mg W (mUn f ma)) :=
  pe_imp (pe_un ho ha) fun s H Q ⟨c, sd, h, rs, rh, q⟩ => ⟨c, sd, h, rs, rh, (Out.bind (R := Rel X.K) q).imp fun x H1 ⟨c1, d1, sd1, h1, rs1, rh1, r1, _, q1⟩ => by
    unfold mOf at q1
    cases e : f h1 d1 with
    | none => rw [e] at q1; exact q1.elim
    | some d =>
      rw [e] at q1
      exact ⟨c1, h1, d1, d, rh1, r1, e, out_pure rs1 rh1 q1⟩⟩
theorem lift_chain {f g : Hd → D → D → Option D} (s : L2.St) (H : Hp) (Q : VK) : lE K mg W (mChain f g ma mb me) s H Q → tChain (DOp K f) (DOp K g) (lE K mg W ma) (lE K mg W mb) (lE K mg W me) s H Q := fun ⟨c, sd, h, rs, rh, q⟩ =>
  ⟨c, sd, h, rs, rh, (Out.bind (R := Rel K) q).imp fun x H1 ⟨c1, d1, sd1, h1, rs1, rh1, r1, _, q1⟩ =>
    ⟨c1, sd1, h1, rs1, rh1, (Out.bind (R := Rel K) q1).imp fun y H2 ⟨c2, d2, sd2, h2, rs2, rh2, r2, x2, q2⟩ => by
      cases e : f h2 d1 d2 with
      | none => rw [e] at q2; exact q2.elim
      | some d =>
        rw [e] at q2
        cases d with
        | bl k =>
          refine ⟨c2, h2, d1, d2, _, rh2, r1.car x2.car, r2, e, fun v H3 g3 r3 => ⟨k, r3, ?_⟩⟩
          cases k with
          | false => exact q2 _ c2 H3 (Ext.grow g3) (rs2.grow g3) (rh2.grow g3) rfl
          | true =>
            refine ⟨c2, sd2, h2, rs2.grow g3, rh2.grow g3, (Out.bind (R := Rel K) (Out.shift q2 (Ext.grow g3))).imp fun z H4 ⟨c4, d4, sd4, h4, rs4, rh4, r4, x4, q4⟩ => ?_⟩
            unfold mOf at q4
            cases e4 : g h4 d2 d4 with
            | none => rw [e4] at q4; exact q4.elim
            | some d =>
              rw [e4] at q4
              exact ⟨c4, h4, d2, d4, d, rh4, (r2.car (Car.grow g3)).car x4.car, r4, e4, out_pure rs4 rh4 q4⟩
        | _ => exact q2.elim⟩⟩
theorem e_chain {op op' : CmpOp} {f g : Hd → D → D → Option D} (ho : OpR X (compareOp op) (DOp X.K f)) (ho' : OpR X (compareOp op') (DOp X.K g)) (ha : PE X a (lE X.K X.mg W ma)) (hb : PE X b (lE X.K X.mg W mb)) (hc : PE X e (lE X.K X.mg W me))
    (hm : lastMarks [op, op'] [b, e] = false := by with_unfolding_all rfl) : PE X (.Compare a [op, op'] [b, e] pos) (lE X.K X.mg W (mChain f g ma mb me)) := pe_imp (pe_chain ho ho' ha hb hc hm) lift_chain
theorem lift_test {t : TE} (i : ∀ s H Q, lE K mg W ma s H Q → t s H Q) (s : L2.St) (H : Hp) (Q : Bool → Hp → Prop) : lT K mg W (mTest ma) s H Q → tTest t s H Q := fun ⟨c, sd, h, rs, rh, q⟩ =>
  i s H _ ⟨c, sd, h, rs, rh, (Out.bind (R := Rel K) q).imp fun x H1 ⟨c1, d1, sd1, h1, rs1, rh1, r1, _, q1⟩ => by
    cases d1 with
    | bl b => exact ⟨b, r1, q1 b c1 H1 (Ext.refl _ _) rs1 rh1 rfl⟩
    | _ => exact q1.elim⟩
theorem t_cmp {op : CmpOp} {f : Hd → D → D → Option D} (ho : OpR X (compareOp op) (DOp X.K f)) (ha : PE X a (lE X.K X.mg W ma)) (hb : PE X b (lE X.K X.mg W mb)) (hm : behindInMarks op b = false := by rfl) : PT X (.Compare a [op] [b] pos) (lT X.K X.mg W (mTest (mBin f ma mb))) :=
  pt_imp (pt_cmpR ho ha hb hm) (lift_test lift_bin)
theorem t_chain {op op' : CmpOp} {f g : Hd → D → D → Option D} (ho : OpR X (compareOp op) (DOp X.K f)) (ho' : OpR X (compareOp op') (DOp X.K g)) (ha : PE X a (lE X.K X.mg W ma)) (hb : PE X b (lE X.K X.mg W mb)) (hc : PE X e (lE X.K X.mg W me))
    (hm : lastMarks [op, op'] [b, e] = false := by with_unfolding_all rfl) : PT X (.Compare a [op, op'] [b, e] pos) (lT X.K X.mg W (mTest (mChain f g ma mb me))) := pt_imp (pt_chain ho ho' ha hb hc hm) (lift_test lift_chain)
theorem t_val (ha : PE X a (lE X.K X.mg W ma)) (he : ∀ whole, isTrue a X.env whole = (do let v ← whole; standAt a.pos; holding [v] (truthy v)) := by intro _; rfl) : PT X a (lT X.K X.mg W (mTest ma)) :=
  pt_imp (pt_val ha he) (lift_test fun _ _ _ q => q)
variable {ta tb : M Bool} {rest : List Expr}
theorem w_one_and (ha : PT X a (lT X.K X.mg W ta)) : PW X (.BoolOp .And [a] pos) (lT X.K X.mg W ta) := pw_and1 ha
theorem w_one_or (ha : PT X a (lT X.K X.mg W ta)) : PW X (.BoolOp .Or [a] pos) (lT X.K X.mg W ta) := pw_or1 ha
theorem w_and (ha : PT X a (lT X.K X.mg W ta)) (hb : PW X (.BoolOp .And (b :: rest) pos) (lT X.K X.mg W tb)) : PW X (.BoolOp .And (a :: b :: rest) pos) (lT X.K X.mg W (mAnd ta tb)) :=
  pw_imp (pw_and ha hb) fun s H Q ⟨c, sd, h, rs, rh, q⟩ => ⟨c, sd, h, rs, rh, (Out.bind (R := eqR) q).imp fun x H1 ⟨c1, d1, sd1, h1, rs1, rh1, r1, _, q1⟩ => by
    cases r1
    cases x with
    | true => exact ⟨c1, sd1, h1, rs1, rh1, q1⟩
    | false => exact q1 false c1 H1 (Ext.refl _ _) rs1 rh1 rfl⟩
theorem w_or (ha : PT X a (lT X.K X.mg W ta)) (hb : PW X (.BoolOp .Or (b :: rest) pos) (lT X.K X.mg W tb)) : PW X (.BoolOp .Or (a :: b :: rest) pos) (lT X.K X.mg W (mOr ta tb)) :=
  pw_imp (pw_or ha hb) fun s H Q ⟨c, sd, h, rs, rh, q⟩ => ⟨c, sd, h, rs, rh, (Out.bind (R := eqR) q).imp fun x H1 ⟨c1, d1, sd1, h1, rs1, rh1, r1, _, q1⟩ => by
    cases r1
    cases x with
    | true => exact q1 true c1 H1 (Ext.refl _ _) rs1 rh1 rfl
    | false => exact ⟨c1, sd1, h1, rs1, rh1, q1⟩⟩
theorem t_not (ha : PT X a (lT X.K X.mg W ta)) : PT X (.UnaryOp .Not a pos) (lT X.K X.mg W (mNot ta)) :=
  pt_imp (pt_not ha) fun s H Q ⟨c, sd, h, rs, rh, q⟩ => ⟨c, sd, h, rs, rh, (Out.bind (R := eqR) q).imp fun x H1 ⟨c1, d1, sd1, h1, rs1, rh1, r1, _, q1⟩ => by
    cases r1
    exact q1 _ c1 H1 (Ext.refl _ _) rs1 rh1 rfl⟩
theorem e_one {op} (h : PE X a (lE X.K X.mg W ma)) : PE X (.BoolOp op [a] pos) (lE X.K X.mg W ma) := pe_one h
theorem e_and (ha : PE X a (lE X.K X.mg W ma)) (hb : PE X (.BoolOp .And (b :: rest) pos) (lE X.K X.mg W mb)) : PE X (.BoolOp .And (a :: b :: rest) pos) (lE X.K X.mg W (mAndV ma mb)) :=
  pe_imp (pe_and ha hb) fun s H Q ⟨c, sd, h, rs, rh, q⟩ => ⟨c, sd, h, rs, rh, (Out.bind (R := Rel X.K) q).imp fun x H1 ⟨c1, d1, sd1, h1, rs1, rh1, r1, _, q1⟩ => by
    cases d1 with
    | bl k =>
      refine ⟨k, r1, ?_⟩
      cases k with
      | true => exact ⟨c1, sd1, h1, rs1, rh1, q1⟩
      | false => exact q1 _ c1 H1 (Ext.refl _ _) rs1 rh1 rfl
    | _ => exact q1.elim⟩
theorem e_or (ha : PE X a (lE X.K X.mg W ma)) (hb : PE X (.BoolOp .Or (b :: rest) pos) (lE X.K X.mg W mb)) : PE X (.BoolOp .Or (a :: b :: rest) pos) (lE X.K X.mg W (mOrV ma mb)) :=
  pe_imp (pe_or ha hb) fun s H Q ⟨c, sd, h, rs, rh, q⟩ => ⟨c, sd, h, rs, rh, (Out.bind (R := Rel X.K) q).imp fun x H1 ⟨c1, d1, sd1, h1, rs1, rh1, r1, _, q1⟩ => by
    cases d1 with
    | bl k =>
      refine ⟨k, r1, ?_⟩
      cases k with
      | true => exact q1 _ c1 H1 (Ext.refl _ _) rs1 rh1 rfl
      | false => exact ⟨c1, sd1, h1, rs1, rh1, q1⟩
    | _ => exact q1.elim⟩
theorem e_not (ha : PE X a (lE X.K X.mg W ma)) : PE X (.UnaryOp .Not a pos) (lE X.K X.mg W (mNotV ma)) :=
  pe_imp (pe_not ha) fun s H Q ⟨c, sd, h, rs, rh, q⟩ => ⟨c, sd, h, rs, rh, (Out.bind (R := Rel X.K) q).imp fun x H1 ⟨c1, d1, sd1, h1, rs1, rh1, r1, _, q1⟩ => by
    cases d1 with
    | bl k => exact ⟨k, r1, q1 _ c1 H1 (Ext.refl _ _) rs1 rh1 rfl⟩
    | _ => exact q1.elim⟩
theorem e_if (hc : PT X e (lT X.K X.mg W ta)) (ha : PE X a (lE X.K X.mg W ma)) (hb : PE X b (lE X.K X.mg W mb)) : PE X (.IfExp e a b pos) (lE X.K X.mg W (mIf ta ma mb)) :=
  pe_imp (pe_ifExp hc ha hb) fun s H Q ⟨c, sd, h, rs, rh, q⟩ => ⟨c, sd, h, rs, rh, (Out.bind (R := eqR) q).imp fun x H1 ⟨c1, d1, sd1, h1, rs1, rh1, r1, _, q1⟩ => by
    cases r1
    cases x with
    | true => exact ⟨c1, sd1, h1, rs1, rh1, q1⟩
    | false => exact ⟨c1, sd1, h1, rs1, rh1, q1⟩⟩
variable {es : List Expr} {ms : M (List D)}
theorem a_nil : PA X [] (lA X.K X.mg W mNil) := pa_imp pa_nil fun s H Q ⟨c, sd, h, rs, rh, q⟩ => q [] c H (Ext.refl _ _) rs rh rfl
theorem a_cons (ha : PE X a (lE X.K X.mg W ma)) (hr : PA X es (lA X.K X.mg W ms)) (hs : starEach (a :: es) X.env = (false, eval a X.env) :: starEach es X.env := by rfl) : PA X (a :: es) (lA X.K X.mg W (mCons ma ms)) :=
  pa_imp (pa_cons ha hr hs) fun s H Q ⟨c, sd, h, rs, rh, q⟩ => ⟨c, sd, h, rs, rh, (Out.bind (R := Rel X.K) q).imp fun x H1 ⟨c1, d1, sd1, h1, rs1, rh1, r1, _, q1⟩ =>
    ⟨c1, sd1, h1, rs1, rh1, (Out.bind (R := RelL X.K) q1).imp fun y H2 ⟨c2, d2, sd2, h2, rs2, rh2, r2, x2, q2⟩ => q2 _ c2 H2 (Ext.refl _ _) rs2 rh2 ⟨x, y, rfl, r1.car x2.car, r2⟩⟩⟩
theorem line5 {n : Nat} (h : n ≤ 100000) : n ≤ sizeLine := Nat.le_trans h (by decide)
theorem RelH.out {c : C} {H : Hp} {h : Hd} (x : RelH K c H h) {p : Addr} (e : H p = none) : c.out p := ⟨fun q => (by
    obtain ⟨u, z⟩ := x.there q
    rw [e] at z; cases z), fun q => (by
    obtain ⟨u, z⟩ := x.hid p (.inl q)
    rw [e] at z; cases z), fun q => (by
    obtain ⟨u, z⟩ := x.hid p (.inr q)
    rw [e] at z; cases z)⟩
theorem pe_tupF {x1 : Nat} {t : TA} (h : PA X es t) : PE X (.Tuple es x1 pos) (fun σ H Q => t σ H fun xs H1 => xs.length ≤ sizeLine ∧ ∀ (p : Addr) (o : Obj), H1 p = none → o.dict = none → Q (.ref p) (upd H1 p (.frz o (.tup xs)))) := by
  refine ⟨fun pins s σ H Q I hq => wpAny_Tuple_spliced (thn (h.run pos pins s σ H _ I hq) fun us s1 ⟨xs, H1, I1, r, z, q⟩ => ⟨by rw [← r.length]; exact z, ?_⟩)⟩
  exact ⟨.ref s1.heap.objs.size, _, I1.laid (t' := s1.toks) (o := .frz { cls := .type "tuple", data := .seq us.toArray } (.tup xs)) (fun b u e => Heap.get?_push_of_some _ e) (Nat.le_refl _) ⟨Heap.get?_push_size _ rfl, z, us, r, ⟨_, Heap.get?_push_size _ rfl, rfl, _, rfl⟩⟩, rfl, q _ _ (I1.hok.fresh (Nat.le_refl _)) rfl⟩
theorem e_tup {k} (h : PA X es (lA X.K X.mg W ms)) : PE X (.Tuple es k pos) (lE X.K X.mg W (mTup ms)) :=
  pe_imp (pe_tupF h) fun s H Q ⟨c, sd, h, rs, rh, q⟩ => ⟨c, sd, h, rs, rh, (Out.bind (R := RelL X.K) q).imp fun x H1 ⟨c1, d1, sd1, h1, rs1, rh1, r1, _, q1⟩ => by
    by_cases hl : d1.length ≤ 100000
    · rw [if_pos hl] at q1
      refine ⟨line5 (by rw [← r1.len]; exact hl), fun p o hp ho => ?_⟩
      have g := grow_new (o := .frz o (.tup x)) hp
      exact q1 _ c1 _ (Ext.grow g) (rs1.grow g) (rh1.grow g) ⟨p, x, rfl, .inl ⟨rh1.out hp, o, upd_same, ho⟩, r1.car (Car.grow g)⟩
    · rw [if_neg hl] at q1
      exact q1.elim⟩
theorem lift_cb {f : Hd → List D → Option D} (s : L2.St) (H : Hp) (Q : VK) : lE K mg W (mCB f ms) s H Q → tCB (DCl K f) (lA K mg W ms) s H Q := fun ⟨c, sd, h, rs, rh, q⟩ =>
  ⟨c, sd, h, rs, rh, (Out.bind (R := RelL K) q).imp fun x H1 ⟨c1, d1, sd1, h1, rs1, rh1, r1, _, q1⟩ => by
    unfold mOf at q1
    cases e : f h1 d1 with
    | none => rw [e] at q1; exact q1.elim
    | some d =>
      rw [e] at q1
      exact ⟨c1, h1, d1, d, rh1, r1, e, out_pure rs1 rh1 q1⟩⟩
theorem e_callB {f : Hd → List D → Option D} {x : Str} {id : String} {p : Pos} (hc : CallR X (.builtin id) (DCl X.K f)) (hm : X.mg x = none) (hv : bootBuiltins x = some (.builtin id)) (ha : PA X (a :: es) (lA X.K X.mg W ms)) (hg : Gl X x := by rfl) (hn : x ≠ "__name__" := by decide) (hdb : (x == ("__debug__" : Str)) = false := by decide)
    (he : starEach (a :: es) X.env = (false, eval a X.env) :: starEach es X.env := by rfl) (hpl : (backTo pos (starEach es X.env)).any (·.1) = false := by rfl) : PE X (.Call (.Name x p) (a :: es) [] pos) (lE X.K X.mg W (mCB f ms)) :=
  pe_imp (pe_callB hc hg hm hv ha hn hdb he hpl) lift_cb
theorem e_callTy {f : Hd → List D → Option D} {x : Str} {T : String} {p : Pos} (hc : CallR X (.type T) (DCl X.K f)) (hm : X.mg x = none) (hv : bootBuiltins x = some (.type T)) (ha : PA X (a :: es) (lA X.K X.mg W ms)) (hg : Gl X x := by rfl) (hn : x ≠ "__name__" := by decide) (hdb : (x == ("__debug__" : Str)) = false := by decide)
    (he : starEach (a :: es) X.env = (false, eval a X.env) :: starEach es X.env := by rfl) (hpl : (backTo pos (starEach es X.env)).any (·.1) = false := by rfl) : PE X (.Call (.Name x p) (a :: es) [] pos) (lE X.K X.mg W (mCB f ms)) :=
  pe_imp (pe_callTy hc hg hm hv ha hn hdb he hpl) lift_cb
theorem o_none : PO X none (lO X.K X.mg W mNoP) := po_imp po_none fun s H Q ⟨c, sd, h, rs, rh, q⟩ => q none c H (Ext.refl _ _) rs rh rfl
theorem o_some (ha : PE X a (lE X.K X.mg W ma)) : PO X (some a) (lO X.K X.mg W (mPart ma)) := po_imp (po_some ha) fun s H Q ⟨c, sd, h, rs, rh, q⟩ => ⟨c, sd, h, rs, rh, (Out.bind (R := Rel X.K) q).imp fun x H1 ⟨c1, d1, sd1, h1, rs1, rh1, r1, _, q1⟩ => by
    cases d1 with
    | int i => exact ⟨i, r1, q1 _ c1 H1 (Ext.refl _ _) rs1 rh1 rfl⟩
    | _ => exact q1.elim⟩
end
end Dm
end
section
namespace Dm
open PySem L2
def OutF (K : PySem.W.Frag) (mg : Str → Option Value) (c : C) (H : Hp) (s : L2.St) (Q : VK) (W : WX) : Res (List D) → Prop
  | .ok ds sd h => ∀ p vs c' H', Ext c H c' H' → RelS K c' H' sd s → RelH K c' H' h → RelL K c' H' ds vs → H' p = none → Q (.ref p) (upd H' p (.lst vs))
  | .exc x fs sd h => ∀ cls dx c' H', Ext c H c' H' → RelS K c' H' sd s → RelH K c' H' h → ExR K mg c' H' x fs cls dx → W cls dx s H'
  | .bad => False
def lF (K : PySem.W.Frag) (mg : Str → Option Value) (W : WX) (m : M (List D)) : TE := fun s H Q => ∃ c sd h, RelS K c H sd s ∧ RelH K c H h ∧ OutF K mg c H s Q W (m sd h)
def mVal (m : M (List D)) : M D := fun s h => (m s h).bind fun xs s h => .ok (.lst xs) s h
def mMat (m : M (List D)) : M D := fun s h => (m s h).bind fun xs s h => .ok (.ref h.length) s (h ++ [.lst xs])
def mLst (m : M (List D)) : M (List D) := fun s h => (m s h).bind fun xs s h => if xs.length ≤ 100000 then .ok xs s h else .bad
section
variable {X : Cx} {W : WX} {K : PySem.W.Frag} {mg : Str → Option Value} {e : Expr} {m : M (List D)} {pos : Pos}
theorem e_val (h : PE X e (lF X.K X.mg W m)) : PE X e (lE X.K X.mg W (mVal m)) := pe_imp h fun s H Q ⟨c, sd, h, rs, rh, q⟩ => ⟨c, sd, h, rs, rh, by
  unfold mVal at q
  cases e1 : m sd h with
  | ok ds sd1 h1 =>
    rw [e1] at q
    intro p vs c' H' x1 r1 r2 r3 hp
    have g := grow_new (o := .lst vs) hp
    exact q _ c' _ (x1.trans (Ext.grow g)) (r1.grow g) (r2.grow g) ⟨p, vs, rfl, r2.out hp, upd_same, r3.car (Car.grow g)⟩
  | exc x fs sd1 h1 => rw [e1] at q; exact q
  | bad => rw [e1] at q; exact q⟩
theorem e_mat (h : PE X e (lF X.K X.mg W m)) : PE X e (lE X.K X.mg W (mMat m)) := pe_imp h fun s H Q ⟨c, sd, h, rs, rh, q⟩ => ⟨c, sd, h, rs, rh, by
  unfold mMat at q
  cases e1 : m sd h with
  | ok ds sd1 h1 =>
    rw [e1] at q
    intro p vs c' H' x1 r1 r2 r3 hp
    refine q _ (c'.hand p) _ (x1.trans (Ext.hand hp)) (r1.hand hp) (r2.hand hp r3) ⟨p, rfl, ?_⟩
    show (c'.r ++ [p])[h1.length]? = some p
    rw [← r2.len, List.getElem?_append_right (Nat.le_refl _)]
    simp
  | exc x fs sd1 h1 => rw [e1] at q; exact q
  | bad => rw [e1] at q; exact q⟩
theorem f_lst {es : List Expr} {ms : M (List D)} (h : PA X es (lA X.K X.mg W ms)) : PE X (.List es pos) (lF X.K X.mg W (mLst ms)) :=
  pe_imp (pe_lst h) fun s H Q ⟨c, sd, h, rs, rh, q⟩ => ⟨c, sd, h, rs, rh, by
    unfold mLst at q
    cases e1 : ms sd h with
    | ok ds sd1 h1 =>
      rw [e1] at q
      have q' : OutF X.K X.mg c H s Q W (if ds.length ≤ 100000 then .ok ds sd1 h1 else .bad) := q
      by_cases hl : ds.length ≤ 100000
      · rw [if_pos hl] at q'
        intro vs c' H' x1 r1 r2 r3
        exact ⟨line5 (by rw [← r3.len]; exact hl), fun p hp => q' p vs c' H' x1 r1 r2 r3 hp⟩
      · rw [if_neg hl] at q'
        exact q'.elim
    | exc x fs sd1 h1 => rw [e1] at q; exact q
    | bad => rw [e1] at q; exact q⟩
end
inductive Fl where
  | nx | rt (d : D) | bk | ct
def OutS (K : PySem.W.Frag) (mg : Str → Option Value) (c : C) (H : Hp) (E : Ends) (W : WX) : Res Fl → Prop
  | .ok .nx sd h => ∀ s' c' H', Ext c H c' H' → RelS K c' H' sd s' → RelH K c' H' h → E.nx s' H'
  | .ok (.rt d) sd h => ∀ v c' H', Ext c H c' H' → RelH K c' H' h → Rel K c' H' d v → E.rt v H'
  | .ok .bk sd h => ∀ s' c' H', Ext c H c' H' → RelS K c' H' sd s' → RelH K c' H' h → E.bk s' H'
  | .ok .ct sd h => ∀ s' c' H', Ext c H c' H' → RelS K c' H' sd s' → RelH K c' H' h → E.ct s' H'
  | .exc x fs sd h => ∀ s' cls dx c' H', Ext c H c' H' → RelS K c' H' sd s' → RelH K c' H' h → ExR K mg c' H' x fs cls dx → W cls dx s' H'
  | .bad => False
def lS (K : PySem.W.Frag) (mg : Str → Option Value) (W : WX) (m : M Fl) : TS := fun E s H => ∃ c sd h, RelS K c H sd s ∧ RelH K c H h ∧ OutS K mg c H E W (m sd h)
theorem OutS.shift {K : PySem.W.Frag} {mg : Str → Option Value} {c c1 : C} {H H1 : Hp} {E : Ends} {W : WX} {m : Res Fl} (h : OutS K mg c H E W m) (x : Ext c H c1 H1) : OutS K mg c1 H1 E W m := by
  cases m with
  | ok f sd h' =>
    cases f with
    | nx => exact fun s' c' H' x1 x2 x3 => h s' c' H' (x.trans x1) x2 x3
    | rt d => exact fun s' c' H' x1 x2 x3 => h s' c' H' (x.trans x1) x2 x3
    | bk => exact fun s' c' H' x1 x2 x3 => h s' c' H' (x.trans x1) x2 x3
    | ct => exact fun s' c' H' x1 x2 x3 => h s' c' H' (x.trans x1) x2 x3
  | exc y fs sd h' => exact fun s' cls dx c' H' x1 x2 x3 x4 => h s' cls dx c' H' (x.trans x1) x2 x3 x4
  | bad => exact h
theorem OutS.bind {K : PySem.W.Frag} {mg : Str → Option Value} {A B : Type} {R : C → Hp → A → B → Prop} {c : C} {H : Hp} {E : Ends} {W : WX} {s : L2.St} {m : Res A} {f : A → Sd → Hd → Res Fl} (h : OutS K mg c H E W (m.bind f)) :
    Out K mg R c H s (Then K mg R s fun a sd h' c1 H1 => Ext c H c1 H1 ∧ OutS K mg c1 H1 E W (f a sd h')) W m := by
  cases m with
  | ok a sd h' => exact fun b c' H' x1 x2 x3 x4 => ⟨c', a, sd, h', x2, x3, x4, x1, OutS.shift (m := f a sd h') h x1⟩
  | exc x fs sd h' => exact fun cls dx c' H' x1 x2 x3 x4 => h s cls dx c' H' x1 x2 x3 x4
  | bad => exact h
def mNx : M Fl := fun s h => .ok .nx s h
def mSeq (a b : M Fl) : M Fl := fun s h => (a s h).bind fun f s h => match f with
  | .nx => b s h
  | f => .ok f s h
def mDrop (a : M D) : M Fl := fun s h => (a s h).bind fun _ s h => .ok .nx s h
def mRet (a : M D) : M Fl := fun s h => (a s h).bind fun d s h => .ok (.rt d) s h
def mAsg (i : Nat) (a : M D) : M Fl := fun s h => (a s h).bind fun d s h => .ok .nx (s.set i (.val d)) h
def mOwn (i : Nat) (a : M (List D)) : M Fl := fun s h => (a s h).bind fun xs s h => .ok .nx (s.set i (.own xs)) h
def mFrz (i : Nat) : M Fl := fun s h => match s[i]? with
  | some (.own xs) => .ok .nx (s.set i (.val (.lst xs))) h
  | _ => .bad
section
variable {X : Cx} {W : WX} {a b : Expr} {st : Stmt} {rest : List Stmt} {ma : M D} {ta : M Bool} {m ms mt : M Fl} {pos : Pos}
theorem ss_nil : PSs X [] (lS X.K X.mg W mNx) := pss_imp pss_nil fun E s H ⟨c, sd, h, rs, rh, q⟩ => q s c H (Ext.refl _ _) rs rh
theorem ss_cons (h1 : PS X st (lS X.K X.mg W m)) (h2 : PSs X rest (lS X.K X.mg W ms)) : PSs X (st :: rest) (lS X.K X.mg W (mSeq m ms)) :=
  pss_imp (pss_cons h1 h2) fun E s H ⟨c, sd, h, rs, rh, q⟩ => ⟨c, sd, h, rs, rh, by
    unfold mSeq at q
    cases e1 : m sd h with
    | ok f sd1 h1 =>
      rw [e1] at q
      cases f with
      | nx => exact fun s' c' H' x1 r1 r2 => ⟨c', sd1, h1, r1, r2, OutS.shift (m := ms sd1 h1) q x1⟩
      | rt d => exact q
      | bk => exact q
      | ct => exact q
    | exc x fs sd1 h1 => rw [e1] at q; exact q
    | bad => rw [e1] at q; exact q⟩
theorem ss_one (h1 : PS X st (lS X.K X.mg W m)) : PSs X [st] (lS X.K X.mg W m) := pss_one h1
theorem s_expr (ha : PE X a (lE X.K X.mg W ma)) (hs : swapsWith a none pos.line X.env = pure false := by rfl) : PS X (.Expr a pos) (lS X.K X.mg W (mDrop ma)) :=
  ps_imp (ps_expr ha hs) fun E s H ⟨c, sd, h, rs, rh, q⟩ => ⟨c, sd, h, rs, rh, (OutS.bind (R := Rel X.K) q).imp fun x H1 ⟨c1, d1, sd1, h1, rs1, rh1, r1, _, q1⟩ => q1 s c1 H1 (Ext.refl _ _) rs1 rh1⟩
theorem s_ret (ha : PE X a (lE X.K X.mg W ma)) : PS X (.Return (some a) pos) (lS X.K X.mg W (mRet ma)) :=
  ps_imp (ps_ret ha) fun E s H ⟨c, sd, h, rs, rh, q⟩ => ⟨c, sd, h, rs, rh, (OutS.bind (R := Rel X.K) q).imp fun x H1 ⟨c1, d1, sd1, h1, rs1, rh1, r1, _, q1⟩ => q1 x c1 H1 (Ext.refl _ _) rh1 r1⟩
theorem s_if {sa sb : List Stmt} (hc : PT X a (lT X.K X.mg W ta)) (ha : PSs X sa (lS X.K X.mg W m)) (hb : PSs X sb (lS X.K X.mg W ms)) : PS X (.If a sa sb pos) (lS X.K X.mg W (mIf ta m ms)) :=
  ps_imp (ps_if hc ha hb) fun E s H ⟨c, sd, h, rs, rh, q⟩ => ⟨c, sd, h, rs, rh, (OutS.bind (R := eqR) q).imp fun x H1 ⟨c1, d1, sd1, h1, rs1, rh1, r1, _, q1⟩ => by
    cases r1
    cases x with
    | true => exact ⟨c1, sd1, h1, rs1, rh1, q1⟩
    | false => exact ⟨c1, sd1, h1, rs1, rh1, q1⟩⟩
theorem s_set {i : Nat} {x : Str} {p : Pos} (hN : X.N.Nodup) (ha : PE X a (lE X.K X.mg W ma)) (hi : X.N[i]? = some x := by rfl) (hx : Loc X.env.scope x := by first | exact Or.inl rfl | exact Or.inr rfl) (hs : swapsWith a (some (.Name x p)) pos.line X.env = pure false := by rfl)
    (hf : X.fn x = true ∨ X.env.scope.names.lookup x = some .local := by first | exact .inl rfl | exact .inr rfl | assumption) : PS X (.Assign [.Name x p] a pos) (lS X.K X.mg W (mAsg i ma)) :=
  ps_imp (ps_set hN hi hx ha hs hf) fun E s H ⟨c, sd, h, rs, rh, q⟩ => ⟨c, sd, h, rs, rh, (OutS.bind (R := Rel X.K) q).imp fun x H1 ⟨c1, d1, sd1, h1, rs1, rh1, r1, _, q1⟩ => q1 _ c1 H1 (Ext.refl _ _) (rs1.set r1) rh1⟩
theorem lift_own {K : PySem.W.Frag} {mg : Str → Option Value} {i : Nat} {mf : M (List D)} (E : Ends) (s : L2.St) (H : Hp) : lS K mg W (mOwn i mf) E s H → tAsg (lF K mg W mf) (gName i) E s H := fun ⟨c, sd, h, rs, rh, q⟩ => ⟨c, sd, h, rs, rh, by
    unfold mOwn at q
    cases e1 : mf sd h with
    | ok ds sd1 h1 =>
      rw [e1] at q
      intro p vs c' H' x1 r1 r2 r3 hp
      refine q _ (c'.hide p) _ (x1.trans (Ext.hide hp)) ?_ (r2.hide hp)
      refine (r1.hide hp).setO List.mem_cons_self (r2.out hp).2.1 upd_same (r3.car (Car.hide hp)) fun j as ej sj => ?_
      obtain ⟨q2, ws, e3, _, _, hq2, _⟩ := r1.sl j _ _ ej sj
      have e' : p = q2 := by injection e3 with e3; injection e3
      subst e'
      rw [hp] at hq2; cases hq2
    | exc x fs sd1 h1 => rw [e1] at q; exact fun cls dx c' H' x1 x2 x3 x4 => q s cls dx c' H' x1 x2 x3 x4
    | bad => rw [e1] at q; exact q⟩
theorem s_own {i : Nat} {x : Str} {p : Pos} {mf : M (List D)} (hN : X.N.Nodup) (ha : PE X a (lF X.K X.mg W mf)) (hi : X.N[i]? = some x := by rfl) (hx : Loc X.env.scope x := by first | exact Or.inl rfl | exact Or.inr rfl) (hs : swapsWith a (some (.Name x p)) pos.line X.env = pure false := by rfl)
    (hf : X.fn x = true ∨ X.env.scope.names.lookup x = some .local := by first | exact .inl rfl | exact .inr rfl | assumption) : PS X (.Assign [.Name x p] a pos) (lS X.K X.mg W (mOwn i mf)) :=
  ps_imp (ps_set hN hi hx ha hs hf) lift_own
theorem s_frz {i : Nat} (h : PSs X rest (lS X.K X.mg W ms)) : PSs X rest (lS X.K X.mg W (mSeq (mFrz i) ms)) :=
  pss_imp h fun E s H ⟨c, sd, h, rs, rh, q⟩ => by
    unfold mSeq mFrz at q
    cases e1 : sd[i]? with
    | none => rw [e1] at q; exact q.elim
    | some y =>
      rw [e1] at q
      cases y with
      | no => exact q.elim
      | val d => exact q.elim
      | own xs =>
        have hi : i < s.length := by rw [← rs.len]; exact (List.getElem?_eq_some_iff.mp e1).1
        have es := List.getElem?_eq_getElem hi
        obtain ⟨p, vs, e2, hz, hn, hp, r⟩ := rs.sl i _ _ e1 es
        rw [e2] at es
        let c' : C := { c with z := c.z.filter fun a => decide (a ≠ p) }
        have car : Car c H c' H := ⟨fun a u h e => ⟨⟨h.1, h.2.1, fun q => h.2.2 (List.mem_filter.mp q).1⟩, e⟩, fun _ _ e => e⟩
        have outp : c'.out p := ⟨fun q => (rh.rn p q).2 hz, hn, fun q => by have := (List.mem_filter.mp q).2; simp at this⟩
        have ext : Ext c H c' H := ⟨⟨[], by simp [c']⟩, rfl, fun a q => .inl (List.mem_filter.mp q).1, fun _ _ _ _ e => e, fun _ o e => ⟨o, e⟩⟩
        refine ⟨c', sd.set i (.val (.lst xs)), h, ⟨by rw [List.length_set]; exact rs.len, fun j y o f1 f2 => ?_, fun j k as bs q2 f1 f2 g1 g2 => ?_⟩, ⟨rh.len, rh.nd, fun a ha => ⟨(rh.rn a ha).1, fun q => (rh.rn a ha).2 (List.mem_filter.mp q).1⟩, fun a ha => rh.hid a (ha.imp id fun q => (List.mem_filter.mp q).1), fun j o a f1 f2 => (rh.obj j o a f1 f2).car car fun _ q => q⟩, OutS.shift q ext⟩
        · by_cases hj : j = i
          · subst hj
            rw [List.getElem?_set_self (List.getElem?_eq_some_iff.mp e1).1] at f1
            cases f1
            rw [es] at f2
            cases f2
            exact ⟨.ref p, rfl, p, vs, rfl, outp, hp, r.car car⟩
          · rw [List.getElem?_set_ne (Ne.symm hj)] at f1
            have t := rs.sl j y o f1 f2
            cases y with
            | no => trivial
            | val d =>
              obtain ⟨v, e3, r3⟩ := t
              exact ⟨v, e3, r3.car car⟩
            | own as =>
              obtain ⟨q2, us, e3, g1, g2, g3, r3⟩ := t
              subst e3
              have ne : q2 ≠ p := fun z => by
                subst z
                exact hj (rs.inj j i _ _ _ f1 e1 f2 es)
              exact ⟨q2, us, rfl, List.mem_filter.mpr ⟨g1, by simp [ne]⟩, g2, g3, r3.car car⟩
        · have back : ∀ (j : Nat) (as : List D), (sd.set i (.val (.lst xs)))[j]? = some (.own as) → sd[j]? = some (.own as) := fun j as e => by
            by_cases hj : j = i
            · subst hj
              rw [List.getElem?_set_self (List.getElem?_eq_some_iff.mp e1).1] at e
              cases e
            · rw [List.getElem?_set_ne (Ne.symm hj)] at e
              exact e
          exact rs.inj j k _ _ q2 (back j as f1) (back k bs f2) g1 g2
end
def OutG (K : PySem.W.Frag) (c : C) (H : Hp) (s : L2.St) (tg : List Nat) (Q : L2.St → Hp → Prop) : Res Unit → Prop
  | .ok _ sd h => ∀ s' c' H', Ext c H c' H' → RelS K c' H' sd s' → RelH K c' H' h → s'.length = s.length → (∀ j, j ∉ tg → s'[j]? = s[j]?) → Q s' H'
  | _ => False
def lG (K : PySem.W.Frag) (tg : List Nat) (g : D → M Unit) : TG := fun v s H Q => ∃ c sd h d, RelS K c H sd s ∧ RelH K c H h ∧ Rel K c H d v ∧ OutG K c H s tg Q (g d sd h)
def lGs (K : PySem.W.Frag) (tg : List Nat) (g : List D → M Unit) : TGs := fun vs s H Q => ∃ c sd h ds, RelS K c H sd s ∧ RelH K c H h ∧ RelL K c H ds vs ∧ OutG K c H s tg Q (g ds sd h)
def gN (i : Nat) : D → M Unit := fun d s h => .ok () (s.set i (.val d)) h
def gNl : List D → M Unit := fun ds s h => match ds with
  | [] => .ok () s h
  | _ => .bad
def gCn (g : D → M Unit) (r : List D → M Unit) : List D → M Unit := fun ds s h => match ds with
  | d :: ds => (g d s h).bind fun _ s h => r ds s h
  | [] => .bad
def gTp (n : Nat) (r : List D → M Unit) : D → M Unit := fun d s h => match d with
  | .tup ds => if ds.length = n then r ds s h else .bad
  | _ => .bad
section
variable {X : Cx} {pos : Pos} {a b : Expr}
theorem pg_imp {t : Expr} {g g' : TG} (h : PG X t g) (i : ∀ v s H Q, g' v s H Q → g v s H Q) : PG X t g' := ⟨fun pins st s H v u Q I r q => h.run pins st s H v u Q I r (i v s H Q q)⟩
theorem pgs_imp {t : List Expr} {g g' : TGs} (h : PGs X t g) (i : ∀ v s H Q, g' v s H Q → g v s H Q) : PGs X t g' := ⟨fun pins st s H v u Q I r q => h.run pins st s H v u Q I r (i v s H Q q)⟩
theorem g_name {i : Nat} {x : Str} (hN : X.N.Nodup) (hi : X.N[i]? = some x := by rfl) (hx : Loc X.env.scope x := by first | exact Or.inl rfl | exact Or.inr rfl) (hf : X.fn x = true ∨ X.env.scope.names.lookup x = some .local := by first | exact .inl rfl | exact .inr rfl | assumption) : PG X (.Name x pos) (lG X.K [i] (gN i)) :=
  pg_imp (pg_name hN hi hx hf) fun v s H Q ⟨c, sd, h, d, rs, rh, r, q⟩ => q (s.set i (some v)) c H (Ext.refl _ _) (rs.set r) rh (by simp) fun j hj => List.getElem?_set_ne (fun e => hj (by simp [e]))
theorem gs_nil {tg : List Nat} : PGs X [] (lGs X.K tg gNl) := pgs_imp pgs_nil fun vs s H Q ⟨c, sd, h, ds, rs, rh, r, q⟩ => by
  cases ds with
  | nil => exact ⟨r, q s c H (Ext.refl _ _) rs rh rfl fun _ _ => rfl⟩
  | cons d ds => exact q.elim
theorem gs_cons {e : Expr} {es : List Expr} {tg ts : List Nat} {g : D → M Unit} {r : List D → M Unit} (h1 : PG X e (lG X.K tg g)) (h2 : PGs X es (lGs X.K ts r))
    (hs : (assignEach (e :: es) X.env).map (·.2) = assign e X.env :: (assignEach es X.env).map (·.2) := by rfl) : PGs X (e :: es) (lGs X.K (tg ++ ts) (gCn g r)) :=
  pgs_imp (pgs_cons h1 h2 hs) fun vs s H Q ⟨c, sd, h, ds, rs, rh, rl, q⟩ => by
    cases ds with
    | nil => exact q.elim
    | cons d ds =>
      obtain ⟨v, vr, e1, r1, r2⟩ := (show ∃ v r, vs = v :: r ∧ Rel X.K c H d v ∧ RelL X.K c H ds r from rl)
      refine ⟨v, vr, e1, c, sd, h, d, rs, rh, r1, ?_⟩
      unfold gCn at q
      cases e2 : g d sd h with
      | ok u sd1 h1 =>
        have q' : OutG X.K c H s (tg ++ ts) Q ((g d sd h).bind fun _ s h => r ds s h) := q
        rw [e2] at q'
        intro s' c' H' x1 rs1 rh1 l1 k1
        refine ⟨c', sd1, h1, ds, rs1, rh1, r2.car x1.car, ?_⟩
        have q2 : OutG X.K c H s (tg ++ ts) Q (r ds sd1 h1) := q'
        cases e3 : r ds sd1 h1 with
        | ok u sd2 h2 =>
          rw [e3] at q2
          exact fun s2 c2 H2 x2 rs2 rh2 l2 k2 => q2 s2 c2 H2 (x1.trans x2) rs2 rh2 (l2.trans l1) fun j hj => (k2 j fun z => hj (List.mem_append_right _ z)).trans (k1 j fun z => hj (List.mem_append_left _ z))
        | exc x fs sd2 h2 => rw [e3] at q2; exact q2.elim
        | bad => rw [e3] at q2; exact q2.elim
      | exc x fs sd2 h2 =>
        have q' : OutG X.K c H s (tg ++ ts) Q ((g d sd h).bind fun _ s h => r ds s h) := q
        rw [e2] at q'; exact q'.elim
      | bad =>
        have q' : OutG X.K c H s (tg ++ ts) Q ((g d sd h).bind fun _ s h => r ds s h) := q
        rw [e2] at q'; exact q'.elim
theorem TupAt.sq {K : PySem.W.Frag} {c : C} {H : Hp} {p : Addr} {vs : List V} (t : TupAt K c H p vs) : SqT K H p vs := t.elim (fun z => .inl z.2.rd) fun z => .inr z.1
theorem RoAt.sq {K : PySem.W.Frag} {c : C} {H : Hp} {p : Addr} {vs : List V} (t : RoAt K c H p vs) : SqL K H p vs := t.elim (fun z => .inl z.2) fun z => .inr z
theorem g_tup {es : List Expr} {k n : Nat} {tg : List Nat} {r : List D → M Unit} (hc : X.calm = true) (h : PGs X es (lGs X.K tg r))
    (hn : (assignEach es X.env).length = n := by rfl) (hst : (assignEach es X.env).findIdx? (·.1) = none := by rfl) : PG X (.Tuple es k pos) (lG X.K tg (gTp n r)) :=
  pg_imp (pg_tup hc h hn hst) fun v s H Q ⟨c, sd, h, d, rs, rh, r1, q⟩ => by
    cases d with
    | tup ds =>
      obtain ⟨p, vs, e1, t, r2⟩ := (show ∃ a vs, v = .ref a ∧ TupAt X.K c H a vs ∧ RelL X.K c H ds vs from r1)
      have q' : OutG X.K c H s tg Q (if ds.length = n then r ds sd h else .bad) := q
      by_cases hl : ds.length = n
      · rw [if_pos hl] at q'
        exact ⟨p, vs, e1, t.sq, by rw [← r2.len]; exact hl, c, sd, h, ds, rs, rh, r2, q'⟩
      · rw [if_neg hl] at q'
        exact q'.elim
    | _ => exact q.elim
end
def Res.only {B : Type} (m : Res Unit) (f : Sd → Hd → Res B) : Res B := match m with
  | .ok _ s h => f s h
  | _ => .bad
def mAsgG (a : M D) (g : D → M Unit) : M Fl := fun s h => (a s h).bind fun d s h => (g d s h).only fun s h => .ok .nx s h
theorem s_asg {X : Cx} {W : WX} {tg a : Expr} {ma : M D} {ts : List Nat} {g : D → M Unit} {pos : Pos} (ha : PE X a (lE X.K X.mg W ma)) (hg : PG X tg (lG X.K ts g)) (hs : swapsWithSole [tg] a pos.line X.env = pure false := by rfl) (hw : swappedStores [tg] a X.env = pure none := by rfl)
    (h1 : (assignEach [tg] X.env).map (·.2) = [assign tg X.env] := by rfl) : PS X (.Assign [tg] a pos) (lS X.K X.mg W (mAsgG ma g)) :=
  ps_imp (ps_asg ha hg hs hw h1) fun E s H ⟨c, sd, h, rs, rh, q⟩ => ⟨c, sd, h, rs, rh, (OutS.bind (R := Rel X.K) q).imp fun x H1 ⟨c1, d1, sd1, h1, rs1, rh1, r1, _, q1⟩ => ⟨c1, sd1, h1, d1, rs1, rh1, r1, by
    cases e : g d1 sd1 h1 with
    | ok u sd2 h2 =>
      rw [e] at q1
      exact fun s' c' H' x1 x2 x3 _ _ => q1 s' c' H' x1 x2 x3
    | exc y fs sd2 h2 =>
      rw [e] at q1
      exact q1.elim
    | bad => rw [e] at q1; exact q1.elim⟩⟩
end Dm
end
section
namespace Dm
open PySem L2
def ItOk (K : PySem.W.Frag) (c0 : C) (H0 : Hp) (xs : List D) (J : It) : Prop := ∀ c H, Car c0 H0 c H → (∀ p, H p = none → c.out p) →
  (∀ (i : Nat) d, xs[i]? = some d → J.go i H ∧ ∀ x H', J.yld i H x H' → Grow H H' ∧ Rel K c H' d x) ∧ J.stop xs.length H
abbrev lI (K : PySem.W.Frag) (mg : Str → Option Value) (W : WX) (m : M (List D)) : TI := lift K mg W (ItOk K) m
def mIter (a : M D) : M (List D) := fun s h => (a s h).bind fun d s h => match d with
  | .tup xs => .ok xs s h
  | .lst xs => .ok xs s h
  | .ro xs => .ok xs s h
  | _ => .bad
def rg (lo : Int) (n : Nat) : List D := (List.range n).map fun k => D.int (lo + (k : Nat))
def small (i : Int) : Bool := decide (-100000 ≤ i) && decide (i ≤ 100000)
def mRg1 (a : M (List D)) : M (List D) := fun s h => (a s h).bind fun xs s h => match xs with
  | [.int j] => if small j then .ok (rg 0 j.toNat) s h else .bad
  | _ => .bad
def mRg2 (a : M (List D)) : M (List D) := fun s h => (a s h).bind fun xs s h => match xs with
  | [.int i, .int j] => if small i && small j then .ok (rg i (j - i).toNat) s h else .bad
  | _ => .bad
theorem small_le {i : Int} (h : small i = true) : -100000 ≤ i ∧ i ≤ 100000 := by
  unfold small at h
  rw [Bool.and_eq_true] at h
  exact ⟨of_decide_eq_true h.1, of_decide_eq_true h.2⟩
theorem rg_len (lo : Int) (n : Nat) : (rg lo n).length = n := by simp [rg]
theorem rg_get (lo : Int) (n i : Nat) (h : i < n) : (rg lo n)[i]? = some (.int (lo + (i : Nat))) := by simp [rg, h]
section
variable {X : Cx} {W : WX} {K : PySem.W.Frag} {mg : Str → Option Value} {tg a b : Expr} {ma : M D} {ms : M (List D)} {pos p : Pos}
theorem pi_imp {e : Expr} {t t' : TI} (h : PI X tg e t) (i : ∀ s H Q, t' s H Q → t s H Q) : PI X tg e t' := ⟨fun pins st s H Q I q => h.run pins st s H Q I (i s H Q q)⟩
theorem pi_or {e : Expr} {t t' : TI} (h : PI X tg e t) (h' : PI X tg e t') : PI X tg e (fun s H R => t s H R ∨ t' s H R) := ⟨fun pins st s H Q I q => q.elim (h.run pins st s H Q I) (h'.run pins st s H Q I)⟩
theorem it_list {c0 : C} {H0 : Hp} {q : Addr} {ds : List D} {vs : List V} (hl : ∀ c H, Car c0 H0 c H → SqL K H q vs) (r : RelL K c0 H0 ds vs) : ItOk K c0 H0 ds (Itl K q) := fun c H x _ =>
  ⟨fun i d e => by
    obtain ⟨v, e2, _⟩ := r.get e
    refine ⟨⟨vs, v, hl c H x, e2⟩, fun y H' ⟨e3, h3⟩ => ?_⟩
    subst e3
    have e4 := h3 vs (hl c _ x)
    rw [e2] at e4
    cases e4
    obtain ⟨w, e5, r5⟩ := (r.car x).get e
    rw [e2] at e5
    cases e5
    exact ⟨fun _ _ z => z, r5⟩, ⟨vs, hl c H x, by rw [r.len]; exact Nat.le_refl _⟩⟩
theorem it_tup {c0 : C} {H0 : Hp} {q : Addr} {ds : List D} {vs : List V} (hl : ∀ c H, Car c0 H0 c H → SqT K H q vs) (r : RelL K c0 H0 ds vs) : ItOk K c0 H0 ds (Itt K q) := fun c H x _ =>
  ⟨fun i d e => by
    obtain ⟨v, e2, _⟩ := r.get e
    refine ⟨⟨vs, v, hl c H x, e2⟩, fun y H' ⟨e3, h3⟩ => ?_⟩
    subst e3
    have e4 := h3 vs (hl c _ x)
    rw [e2] at e4
    cases e4
    obtain ⟨w, e5, r5⟩ := (r.car x).get e
    rw [e2] at e5
    cases e5
    exact ⟨fun _ _ z => z, r5⟩, ⟨vs, hl c H x, by rw [r.len]; exact Nat.le_refl _⟩⟩
theorem it_rg {c0 : C} {H0 : Hp} {lo : Int} {n : Nat} : ItOk K c0 H0 (rg lo n) (Itr lo n) := fun c H x _ =>
  ⟨fun i d e => by
    have hi : i < n := by have := (List.getElem?_eq_some_iff.mp e).1; rw [rg_len] at this; exact this
    rw [rg_get lo n i hi] at e
    cases e
    exact ⟨hi, fun y H' ⟨e1, e2⟩ => by subst e1; exact ⟨fun _ _ z => z, e2⟩⟩, by rw [rg_len]; exact Nat.le_refl n⟩
theorem i_seq (ha : PE X a (lE X.K X.mg W ma)) : PI X tg a (lI X.K X.mg W (mIter ma)) :=
  pi_imp (pi_or (pi_list ha) (pi_tup ha)) fun s H Q ⟨c, sd, h, rs, rh, q⟩ => by
    unfold mIter at q
    cases e1 : ma sd h with
    | bad => rw [e1] at q; exact q.elim
    | exc x fs sd1 h1 => rw [e1] at q; exact .inl ⟨c, sd, h, rs, rh, by rw [e1]; exact q⟩
    | ok d sd1 h1 =>
      rw [e1] at q
      cases d with
      | tup xs =>
        refine .inr ⟨c, sd, h, rs, rh, ?_⟩
        rw [e1]
        intro v c' H' x1 r1 r2 ⟨pa, vs, e3, t, r3⟩
        refine ⟨pa, e3, ⟨vs, t.sq⟩, q _ c' H' x1 r1 r2 (it_tup (fun c2 H2 x => ?_) r3)⟩
        rcases t with ⟨t1, t2⟩ | t
        · exact .inl (x.kn t1 t2).2.rd
        · exact .inr t.1
      | lst xs =>
        refine .inl ⟨c, sd, h, rs, rh, ?_⟩
        rw [e1]
        intro v c' H' x1 r1 r2 ⟨pa, vs, e3, t, t2, r3⟩
        exact ⟨pa, e3, ⟨vs, SqL.of t2⟩, q _ c' H' x1 r1 r2 (it_list (fun c2 H2 x => SqL.of (x.out pa _ t t2).2) r3)⟩
      | ro xs =>
        refine .inl ⟨c, sd, h, rs, rh, ?_⟩
        rw [e1]
        intro v c' H' x1 r1 r2 ⟨pa, vs, e3, t, r3⟩
        refine ⟨pa, e3, ⟨vs, t.sq⟩, q _ c' H' x1 r1 r2 (it_list (fun c2 H2 x => ?_) r3)⟩
        rcases t with ⟨t1, t2⟩ | t
        · exact .inl (x.rd t1 t2).2
        · exact .inr t
      | _ => exact q.elim
theorem i_rg1 (hm : X.mg "range" = none) (ha : PA X [a] (lA X.K X.mg W ms)) (hg : Gl X "range" := by rfl) (hs : starEach [a] X.env = [(false, eval a X.env)] := by rfl) : PI X tg (.Call (.Name "range" p) [a] [] pos) (lI X.K X.mg W (mRg1 ms)) :=
  pi_imp (pi_range1 hg hm ha hs) fun s H Q ⟨c, sd, h, rs, rh, q⟩ => ⟨c, sd, h, rs, rh, (Out.bind (R := RelL X.K) q).imp fun x H1 ⟨c1, d1, sd1, h1, rs1, rh1, r1, _, q1⟩ => by
    cases d1 with
    | nil => exact q1.elim
    | cons d ds =>
      cases ds with
      | cons d2 ds => cases d <;> exact q1.elim
      | nil =>
        cases d with
        | int j =>
          obtain ⟨v, r, e, hv, hr⟩ := r1
          cases hv
          cases hr
          have q2 : Out X.K X.mg (ItOk X.K) c1 H1 s Q W (if small j then .ok (rg 0 j.toNat) sd1 h1 else .bad) := q1
          cases hj : small j with
          | false => rw [hj] at q2; exact q2.elim
          | true =>
            rw [hj] at q2
            have := small_le hj
            exact ⟨j, e, by omega, by omega, q2 _ c1 H1 (Ext.refl _ _) rs1 rh1 it_rg⟩
        | _ => exact q1.elim⟩
theorem i_rg2 (hm : X.mg "range" = none) (ha : PA X [a, b] (lA X.K X.mg W ms)) (hg : Gl X "range" := by rfl) (hs : starEach [a, b] X.env = [(false, eval a X.env), (false, eval b X.env)] := by rfl) (hs2 : starEach [b] X.env = [(false, eval b X.env)] := by rfl) : PI X tg (.Call (.Name "range" p) [a, b] [] pos) (lI X.K X.mg W (mRg2 ms)) :=
  pi_imp (pi_range2 hg hm ha hs hs2) fun s H Q ⟨c, sd, h, rs, rh, q⟩ => ⟨c, sd, h, rs, rh, (Out.bind (R := RelL X.K) q).imp fun x H1 ⟨c1, d1, sd1, h1, rs1, rh1, r1, _, q1⟩ => by
    rcases d1 with _ | ⟨d, _ | ⟨d2, _ | ⟨d3, ds⟩⟩⟩
    · exact q1.elim
    · cases d <;> exact q1.elim
    · cases d with
      | int i =>
        cases d2 with
        | int j =>
          obtain ⟨v, r, e, hv, v2, r2, e2, hv2, hr2⟩ := r1
          cases hv
          cases hv2
          cases hr2
          subst e2
          have q2 : Out X.K X.mg (ItOk X.K) c1 H1 s Q W (if small i && small j then .ok (rg i (j - i).toNat) sd1 h1 else .bad) := q1
          cases hj : (small i && small j) with
          | false => rw [hj] at q2; exact q2.elim
          | true =>
            rw [hj] at q2
            rw [Bool.and_eq_true] at hj
            have := small_le hj.1
            have := small_le hj.2
            exact ⟨i, j, e, ⟨by omega, by omega, by omega, by omega⟩, q2 _ c1 H1 (Ext.refl _ _) rs1 rh1 it_rg⟩
        | _ => exact q1.elim
      | _ => exact q1.elim
    · cases d <;> first | exact q1.elim | (cases d2 <;> exact q1.elim)⟩
end
def loop (g : D → M Unit) (b : M Fl) : List D → M Fl
  | [], s, h => .ok .nx s h
  | x :: xs, s, h => (g x s h).only fun s h => (b s h).bind fun f s h => match f with
    | .nx => loop g b xs s h
    | .ct => loop g b xs s h
    | .bk => .ok .nx s h
    | .rt d => .ok (.rt d) s h
def mFor (it : M (List D)) (g : D → M Unit) (b : M Fl) : M Fl := fun s h => (it s h).bind fun xs s h => loop g b xs s h
theorem s_for {X : Cx} {W : WX} {tg iter : Expr} {body : List Stmt} {ms : M (List D)} {ts : List Nat} {g : D → M Unit} {mb : M Fl} {pos : Pos} (hp : PassesOwn (model X.prog X.w) X.A X.env X.xe) (hc : X.calm = true) (hi : PI X tg iter (lI X.K X.mg W ms)) (hg : PG X tg (lG X.K ts g)) (hb : PSs X body (lS X.K X.mg W mb))
    (hs : ∀ x, foldedSetIterable iter X.env x = pure x := by intro _; rfl) : PS X (.For tg iter body [] pos) (lS X.K X.mg W (mFor ms g mb)) :=
  ps_imp (ps_for hp hc hi hg hb hs) fun E s H ⟨c, sd, h, rs, rh, q⟩ => ⟨c, sd, h, rs, rh, (OutS.bind (R := ItOk X.K) q).imp fun J H0 ⟨c0, xs, sd0, h0, rs0, rh0, ok, _, q0⟩ => by
    refine ⟨fun i m s H => m = xs.length - i ∧ i ≤ xs.length ∧ ∃ c sd h, Ext c0 H0 c H ∧ RelS X.K c H sd s ∧ RelH X.K c H h ∧ OutS X.K X.mg c H E W (loop g mb (xs.drop i) sd h), ⟨xs.length, rfl, Nat.zero_le _, c0, sd0, h0, Ext.refl _ _, rs0, rh0, q0⟩, ?_⟩
    rintro i m s1 H1 ⟨rfl, hi1, c1, sd1, h1, x1, rs1, rh1, q1⟩
    obtain ⟨go, stop⟩ := ok c1 H1 x1.car fun _ e => rh1.out e
    by_cases hl : i < xs.length
    · obtain ⟨g1, g2⟩ := go i xs[i] (List.getElem?_eq_getElem hl)
      refine .inr ⟨g1, fun s' H' => ∃ c sd h, Ext c0 H0 c H' ∧ RelS X.K c H' sd s' ∧ RelH X.K c H' h ∧ OutS X.K X.mg c H' E W (loop g mb (xs.drop (i + 1)) sd h), fun s' H' n => ⟨xs.length - (i + 1), by omega, rfl, hl, n⟩, fun y H2 hy => ?_⟩
      obtain ⟨gr, r2⟩ := g2 y H2 hy
      rw [List.drop_eq_getElem_cons hl] at q1
      refine ⟨c1, sd1, h1, xs[i], rs1.grow gr, rh1.grow gr, r2, ?_⟩
      have q2 : OutS X.K X.mg c1 H1 E W ((g xs[i] sd1 h1).only fun s h => (mb s h).bind fun f s h => match f with
        | .nx => loop g mb (xs.drop (i + 1)) s h
        | .ct => loop g mb (xs.drop (i + 1)) s h
        | .bk => .ok .nx s h
        | .rt d => .ok (.rt d) s h) := q1
      cases e : g xs[i] sd1 h1 with
      | bad => rw [e] at q2; exact q2.elim
      | exc x fs sd2 h2 => rw [e] at q2; exact q2.elim
      | ok u sd2 h2 =>
        rw [e] at q2
        intro s3 c3 H3 x3 rs3 rh3 _ _
        have x13 : Ext c1 H1 c3 H3 := (Ext.grow gr).trans x3
        refine ⟨c3, sd2, h2, rs3, rh3, ?_⟩
        have q3 : OutS X.K X.mg c1 H1 E W ((mb sd2 h2).bind fun f s h => match f with
          | .nx => loop g mb (xs.drop (i + 1)) s h
          | .ct => loop g mb (xs.drop (i + 1)) s h
          | .bk => .ok .nx s h
          | .rt d => .ok (.rt d) s h) := q2
        cases e3 : mb sd2 h2 with
        | bad => rw [e3] at q3; exact q3.elim
        | exc x fs sd4 h4 => rw [e3] at q3; exact fun s' cls dx c' H' y1 y2 y3 y4 => q3 s' cls dx c' H' (x13.trans y1) y2 y3 y4
        | ok f sd4 h4 =>
          rw [e3] at q3
          cases f with
          | nx => exact fun s' c' H' y1 y2 y3 => ⟨c', sd4, h4, (x1.trans x13).trans y1, y2, y3, OutS.shift (m := loop g mb (xs.drop (i + 1)) sd4 h4) q3 (x13.trans y1)⟩
          | ct => exact fun s' c' H' y1 y2 y3 => ⟨c', sd4, h4, (x1.trans x13).trans y1, y2, y3, OutS.shift (m := loop g mb (xs.drop (i + 1)) sd4 h4) q3 (x13.trans y1)⟩
          | bk => exact fun s' c' H' y1 y2 y3 => q3 s' c' H' (x13.trans y1) y2 y3
          | rt d => exact fun v c' H' y1 y2 y3 => q3 v c' H' (x13.trans y1) y2 y3
    · have e : i = xs.length := by omega
      subst e
      rw [List.drop_length] at q1
      exact .inl ⟨stop, q1 s1 c1 H1 (Ext.refl _ _) rs1 rh1⟩⟩
def wloop (t : M Bool) (b : M Fl) : Nat → M Fl
  | 0, _, _ => .bad
  | n + 1, s, h => (t s h).bind fun k s h => bif k then (b s h).bind fun f s h => match f with
    | .nx => wloop t b n s h
    | .ct => wloop t b n s h
    | .bk => .ok .nx s h
    | .rt d => .ok (.rt d) s h
    else .ok .nx s h
def mWhile (fuel : Sd → Hd → Nat) (t : M Bool) (b : M Fl) : M Fl := fun s h => wloop t b (fuel s h) s h
end Dm
end
section
namespace Dm
open PySem L2
def wipeD (s : Sd) : List Nat → Sd
  | [] => s
  | v :: vs => (wipeD s vs).set v .no
def keepD : Option Sl → Sl
  | some (.val d) => .val d
  | _ => .no
def backD (s0 s : Sd) : List Nat → Sd
  | [] => s
  | v :: vs => (backD s0 s vs).set v (keepD s0[v]?)
def Res.bd {A B : Type} (m : Res A) (f : A → Sd → Hd → Res B) : Res B := match m with
  | .ok a s h => f a s h
  | _ => .bad
def cloop (vs : List Nat) (g : D → M Unit) (t : M Bool) (e : M D) : List D → List D → M (List D)
  | [], acc, s, h => .ok acc s h
  | x :: xs, acc, s, h => (g x s h).only fun s h => (t s h).bd fun k s h => bif k then (e s h).bd fun d s h => if acc.length < 100000 then cloop vs g t e xs (acc ++ [d]) (wipeD s vs) h else .bad
    else cloop vs g t e xs acc (wipeD s vs) h
def mComp (it : M (List D)) (vs : List Nat) (g : D → M Unit) (t : M Bool) (e : M D) : M (List D) := fun s h => (it s h).bind fun xs s0 h => (cloop vs g t e xs [] (wipeD s0 vs) h).bd fun ys s1 h => .ok ys (backD s0 s1 vs) h
def mYes : M Bool := fun s h => .ok true s h
section
variable {K : PySem.W.Frag} {c c0 c1 c2 : C} {H H0 H1 H2 : Hp} {sd s0 : Sd} {s : L2.St} {p : Addr} {o : HO} {h : Hd}
theorem RelS.wipe (r : RelS K c H sd s) : ∀ vs, RelS K c H (wipeD sd vs) (L2.wipe s vs)
  | [] => r
  | v :: vs => by
    unfold wipeD L2.wipe
    exact (RelS.wipe r vs).none Option.none
theorem wipe_in {i : Nat} : ∀ {vs : List Nat}, i ∈ vs → i < s.length → (L2.wipe s vs)[i]? = some none
  | v :: vs, hi, hl => by
    unfold L2.wipe
    by_cases e : v = i
    · subst e
      rw [List.getElem?_set_self (by rw [wipe_length]; exact hl)]
    · rw [List.getElem?_set_ne e]
      exact wipe_in (by rcases List.mem_cons.mp hi with z | z; exact absurd z.symm e; exact z) hl
theorem wipe_same {a b : L2.St} {vs : List Nat} (hl : a.length = b.length) (h : ∀ j, j ∉ vs → a[j]? = b[j]?) : L2.wipe a vs = L2.wipe b vs := by
  apply List.ext_getElem?
  intro i
  by_cases hi : i ∈ vs
  · by_cases hb : i < b.length
    · rw [wipe_in hi hb, wipe_in hi (by omega)]
    · rw [List.getElem?_eq_none (by rw [wipe_length]; omega), List.getElem?_eq_none (by rw [wipe_length]; omega)]
  · rw [wipe_out hi, wipe_out hi, h i hi]
theorem wipe_wipe {vs : List Nat} : L2.wipe (L2.wipe s vs) vs = L2.wipe s vs := wipe_same (wipe_length _ _) fun j hj => wipe_out hj
theorem back_len (s0 s : Sd) : ∀ vs, (backD s0 s vs).length = s.length
  | [] => rfl
  | v :: vs => by unfold backD; rw [List.length_set, back_len s0 s vs]
theorem back_out {s0 s : Sd} {i : Nat} : ∀ {vs : List Nat}, i ∉ vs → (backD s0 s vs)[i]? = s[i]?
  | [], _ => rfl
  | v :: vs, h => by
    unfold backD
    simp only [List.mem_cons, not_or] at h
    rw [List.getElem?_set_ne (Ne.symm h.1), back_out h.2]
theorem back_in {s0 s : Sd} {i : Nat} : ∀ {vs : List Nat}, i ∈ vs → i < s.length → (backD s0 s vs)[i]? = some (keepD s0[i]?)
  | v :: vs, hi, hl => by
    unfold backD
    by_cases e : v = i
    · subst e
      rw [List.getElem?_set_self (by rw [back_len]; exact hl)]
    · rw [List.getElem?_set_ne e]
      exact back_in (by rcases List.mem_cons.mp hi with z | z; exact absurd z.symm e; exact z) hl
theorem RelS.back {vs : List Nat} (r1 : RelS K c H sd (L2.wipe s vs)) (r0 : RelS K c0 H0 s0 s) (x : Car c0 H0 c H) : RelS K c H (backD s0 sd vs) s := by
  have l1 : sd.length = s.length := by rw [r1.len, wipe_length]
  have own : ∀ (j : Nat) as, (backD s0 sd vs)[j]? = some (.own as) → j ∉ vs ∧ sd[j]? = some (.own as) := fun j as e => by
    by_cases hj : j ∈ vs
    · have hl : j < sd.length := by have := (List.getElem?_eq_some_iff.mp e).1; rw [back_len] at this; exact this
      rw [back_in hj hl] at e
      cases q : s0[j]? with
      | none => rw [q] at e; cases e
      | some y => rw [q] at e; cases y <;> cases e
    · rw [back_out hj] at e
      exact ⟨hj, e⟩
  refine ⟨by rw [back_len]; exact l1, fun i y o e1 e2 => ?_, fun i j as bs q e1 e2 f1 f2 => ?_⟩
  · by_cases hi : i ∈ vs
    · have hl : i < sd.length := by have := (List.getElem?_eq_some_iff.mp e1).1; rw [back_len] at this; exact this
      rw [back_in hi hl] at e1
      cases q : s0[i]? with
      | none => rw [q] at e1; cases e1; trivial
      | some z =>
        rw [q] at e1
        cases z with
        | no => cases e1; trivial
        | own as => cases e1; trivial
        | val d =>
          cases e1
          obtain ⟨v, e3, r3⟩ := r0.sl i _ _ q e2
          exact ⟨v, e3, r3.car x⟩
    · rw [back_out hi] at e1
      exact r1.sl i y o e1 (by rw [wipe_out hi]; exact e2)
  · obtain ⟨n1, g1⟩ := own i as e1
    obtain ⟨n2, g2⟩ := own j bs e2
    exact r1.inj i j as bs q g1 g2 (by rw [wipe_out n1]; exact f1) (by rw [wipe_out n2]; exact f2)
structure ExtL (p : Addr) (c : C) (H : Hp) (c' : C) (H' : Hp) : Prop where
  r : ∃ l, c'.r = c.r ++ l ∧ ∀ a ∈ l, H a = none
  n : c'.n = p :: c.n
  z : ∀ a ∈ c'.z, a ∈ c.z ∨ H a = none
  old : ∀ a o, a ∉ c.r → a ∉ c.z → H a = some o → H' a = some o
  dom : ∀ a o, H a = some o → ∃ o', H' a = some o'
theorem ExtL.start (hp : H p = none) : ExtL p c H (c.lock p) (upd H p o) := ⟨⟨[], by simp [C.lock]⟩, rfl, fun a h => .inl h, fun a u _ _ e => grow_new hp a u e, fun a u e => ⟨u, grow_new hp a u e⟩⟩
theorem ExtL.step (a : ExtL p c H c1 H1) (b : Ext c1 H1 c2 H2) : ExtL p c H c2 H2 := by
  obtain ⟨l1, e1, f1⟩ := a.r
  obtain ⟨l2, e2, f2⟩ := b.r
  refine ⟨⟨l1 ++ l2, by rw [e2, e1, List.append_assoc], fun x hx => ?_⟩, b.n.trans a.n, fun x hx => ?_, fun x o hr hz e => ?_, fun x o e => ?_⟩
  · rcases List.mem_append.mp hx with h | h
    · exact f1 x h
    · exact none_back a.dom (f2 x h)
  · rcases b.z x hx with h | h
    · exact a.z x h
    · exact .inr (none_back a.dom h)
  · refine b.old x o ?_ ?_ (a.old x o hr hz e)
    · rw [e1]
      intro q
      rcases List.mem_append.mp q with q | q
      · exact hr q
      · rw [f1 x q] at e; cases e
    · intro q
      rcases a.z x q with q | q
      · exact hz q
      · rw [q] at e; cases e
  · obtain ⟨o1, e1⟩ := a.dom x o e
    exact b.dom x o1 e1
theorem ExtL.write (hp : H p = none) (a : ExtL p c H c1 H1) : ExtL p c H c1 (upd H1 p o) := ⟨a.r, a.n, a.z, fun x u h1 h2 e => by
    rw [upd_ne (fun z => by rw [z, hp] at e; cases e)]; exact a.old x u h1 h2 e, fun x u e => by
    obtain ⟨v, q⟩ := a.dom x u e
    exact ⟨v, by rw [upd_ne (fun z => by rw [z, hp] at e; cases e)]; exact q⟩⟩
theorem ExtL.car (hp : H p = none) (a : ExtL p c H c1 H1) : Car c H c1 H1 := ⟨fun x u h e => by
    obtain ⟨l1, e1, f1⟩ := a.r
    refine ⟨⟨?_, ?_, ?_⟩, a.old x u h.1 h.2.2 e⟩
    · rw [e1]
      intro q
      rcases List.mem_append.mp q with q | q
      · exact h.1 q
      · rw [f1 x q] at e; cases e
    · rw [a.n]
      intro q
      rcases List.mem_cons.mp q with q | q
      · rw [q, hp] at e; cases e
      · exact h.2.1 q
    · intro q
      rcases a.z x q with q | q
      · exact h.2.2 q
      · (rw [q] at e; exact (nomatch e)), fun i x e => by
    obtain ⟨l1, e1, f1⟩ := a.r
    rw [e1, List.getElem?_append_left (List.getElem?_eq_some_iff.mp e).1]
    exact e⟩
def cutH (H : Hp) (p : Addr) : Hp := fun b => if b = p then none else H b
theorem cutH_same : cutH H p p = none := if_pos rfl
theorem cutH_ne {a : Addr} (h : a ≠ p) : cutH H p a = H a := if_neg h
theorem cutH_upd (e : H p = some o) : upd (cutH H p) p o = H := by
  funext a
  by_cases h : a = p
  · subst h; rw [upd_same, e]
  · rw [upd_ne h, cutH_ne h]
theorem ExtL.fin (hp : H p = none) (a : ExtL p c H c1 H1) : Ext c H { c1 with n := c.n } (cutH H1 p) := ⟨a.r, rfl, a.z, fun x u h1 h2 e => by
    rw [cutH_ne (fun z => by rw [z, hp] at e; cases e)]; exact a.old x u h1 h2 e, fun x u e => by
    obtain ⟨v, q⟩ := a.dom x u e
    exact ⟨v, by rw [cutH_ne (fun z => by rw [z, hp] at e; cases e)]; exact q⟩⟩
theorem fin_car {n : List Addr} (hn : c1.n = p :: n) : Car c1 H1 { c1 with n := n } (cutH H1 p) := ⟨fun a u h e => ⟨⟨h.1, fun q => h.2.1 (by rw [hn]; exact List.mem_cons_of_mem _ q), h.2.2⟩, by
    rw [cutH_ne (fun z => h.2.1 (by rw [hn, z]; exact List.mem_cons_self))]; exact e⟩, fun _ _ e => e⟩
theorem fin_relH {n : List Addr} (hn : c1.n = p :: n) (hnp : p ∉ n) (r : RelH K c1 H1 h) (hz : p ∉ c1.z) : RelH K { c1 with n := n } (cutH H1 p) h := ⟨r.len, r.nd, fun a ha => ⟨fun q => (r.rn a ha).1 (by rw [hn]; exact List.mem_cons_of_mem _ q), (r.rn a ha).2⟩, fun a ha => by
    obtain ⟨u, e⟩ := r.hid a (ha.imp (fun q => by rw [hn]; exact List.mem_cons_of_mem _ q) id)
    refine ⟨u, ?_⟩
    rw [cutH_ne (fun z => by subst z; exact ha.elim hnp hz)]
    exact e, fun i o a e1 e2 => (r.obj i o a e1 e2).car (fin_car hn) fun u q => by
    rw [cutH_ne (fun z => (r.rn a (List.mem_of_getElem? e2)).1 (by rw [hn, z]; exact List.mem_cons_self))]; exact q⟩
theorem fin_relS {n : List Addr} (hn : c1.n = p :: n) (r : RelS K c1 H1 sd s) : RelS K { c1 with n := n } (cutH H1 p) sd s := r.car (fin_car hn) fun q u h1 h2 e => ⟨h1, fun z => h2 (by rw [hn]; exact List.mem_cons_of_mem _ z), by
    rw [cutH_ne (fun z => h2 (by rw [hn, z]; exact List.mem_cons_self))]; exact e⟩
end
abbrev W0 : WX := fun _ _ _ _ => False
theorem line5' {n : Nat} (h : n < 100000) : n < sizeLine := Nat.lt_of_lt_of_le h (by decide)
section
variable {K : PySem.W.Frag} {mg : Str → Option Value}
theorem out_bd {A B A' : Type} {R : C → Hp → A → B → Prop} {c : C} {H : Hp} {s : L2.St} {m : Res A} {f : A → Sd → Hd → Res A'} {P : Res A' → Prop} (hb : ¬ P .bad) (h : P (m.bd f)) :
    Out K mg R c H s (Then K mg R s fun a sd h' c1 H1 => Ext c H c1 H1 ∧ P (f a sd h')) W0 m := by
  cases m with
  | ok a sd h' => exact fun b c' H' x1 x2 x3 x4 => ⟨c', a, sd, h', x2, x3, x4, x1, h⟩
  | exc x fs sd h' => exact absurd h hb
  | bad => exact absurd h hb
theorem lift_comp {W : WX} {ms : M (List D)} {vs ts : List Nat} {g : D → M Unit} {t : M Bool} {me : M D} (hts : ∀ i ∈ ts, i ∈ vs) (s : L2.St) (H : Hp) (Q : VK) :
    lF K mg W (mComp ms vs g t me) s H Q → tLc (lI K mg W ms) (lG K ts g) (lT K mg W0 t) (lE K mg W0 me) vs s H Q := fun ⟨c, sd, h, rs, rh, q⟩ => ⟨c, sd, h, rs, rh, by
  unfold mComp at q
  cases e1 : ms sd h with
  | bad => rw [e1] at q; exact q.elim
  | exc x fs sd1 h1 => rw [e1] at q; exact q
  | ok xs s0 h0 =>
    rw [e1] at q
    intro J c0 H0 x0 rs0 rh0 ok p hp
    let fin : Res (List D) → Prop := fun r => OutF K mg c H s Q W (r.bd fun ys s1 h => .ok ys (backD s0 s1 vs) h)
    have nb : ¬ fin .bad := fun z => z
    have out0 := rh0.out hp
    refine ⟨fun i m H1 => m = xs.length - i ∧ i ≤ xs.length ∧ ∃ c1 sd1 h1 acc ws, ExtL p c0 H0 c1 H1 ∧ p ∉ c1.z ∧ H1 p = some (.lst ws) ∧ RelL K c1 H1 acc ws ∧ RelS K c1 H1 sd1 (L2.wipe s vs) ∧ RelH K c1 H1 h1 ∧ fin (cloop vs g t me (xs.drop i) acc sd1 h1),
      ⟨xs.length, rfl, Nat.zero_le _, c0.lock p, wipeD s0 vs, h0, [], [], ExtL.start hp, out0.2.2, upd_same, rfl, (rs0.lock hp).wipe vs, rh0.lock hp, q⟩, ?_⟩
    rintro i m H1 ⟨rfl, hi1, c1, sd1, h1, acc, ws, x1, hz1, hp1, ra1, rs1, rh1, q1⟩
    obtain ⟨go, stop⟩ := ok c1 H1 (x1.car hp) fun _ e => rh1.out e
    have hpn : ∀ {c2 : C}, c2.n = p :: c0.n → p ∈ c2.n := fun e => by rw [e]; exact List.mem_cons_self
    have zok : ∀ {c2 : C} {H2 : Hp}, Ext c1 H1 c2 H2 → p ∉ c2.z := fun {c2 H2} x z => by
      rcases x.z p z with z | z
      · exact hz1 z
      · rw [hp1] at z; cases z
    by_cases hl : i < xs.length
    · obtain ⟨g1, g2⟩ := go i xs[i] (List.getElem?_eq_getElem hl)
      refine .inr ⟨g1, fun H' => ∃ c1 sd1 h1 acc ws, ExtL p c0 H0 c1 H' ∧ p ∉ c1.z ∧ H' p = some (.lst ws) ∧ RelL K c1 H' acc ws ∧ RelS K c1 H' sd1 (L2.wipe s vs) ∧ RelH K c1 H' h1 ∧ fin (cloop vs g t me (xs.drop (i + 1)) acc sd1 h1), fun H' n => ⟨xs.length - (i + 1), by omega, rfl, hl, n⟩, fun y H2 hy => ?_⟩
      obtain ⟨gr, r2⟩ := g2 y H2 hy
      rw [List.drop_eq_getElem_cons hl] at q1
      refine ⟨c1, sd1, h1, xs[i], rs1.grow gr, rh1.grow gr, r2, ?_⟩
      have q2 : fin ((g xs[i] sd1 h1).only fun s h => (t s h).bd fun k s h => bif k then (me s h).bd fun d s h => if acc.length < 100000 then cloop vs g t me (xs.drop (i + 1)) (acc ++ [d]) (wipeD s vs) h else .bad
        else cloop vs g t me (xs.drop (i + 1)) acc (wipeD s vs) h) := q1
      cases e : g xs[i] sd1 h1 with
      | bad => rw [e] at q2; exact (nb q2).elim
      | exc x fs sd2 h2 => rw [e] at q2; exact (nb q2).elim
      | ok u sd2 h2 =>
        rw [e] at q2
        intro s3 c3 H3 x3 rs3 rh3 l3 k3
        have x13 : Ext c1 H1 c3 H3 := (Ext.grow gr).trans x3
        have ws3 : L2.wipe s3 vs = L2.wipe s vs := by
          rw [← wipe_wipe (s := s)]
          exact wipe_same l3 fun j hj => k3 j fun z => hj (hts j z)
        refine ⟨ws3, c3, sd2, h2, rs3, rh3, ?_⟩
        refine (out_bd (R := eqR) (P := fin) nb q2).imp fun k H4 ⟨c4, k4, sd4, h4, rs4, rh4, r4, x4, q4⟩ => ?_
        cases r4
        have x14 : Ext c1 H1 c4 H4 := x13.trans x4
        have hp4 : H4 p = some (.lst ws) := x14.old p _ (fun z => (rh1.rn p z).1 (hpn x1.n)) hz1 hp1
        cases k with
        | false =>
          refine ⟨c4, wipeD sd4 vs, h4, acc, ws, x1.step x14, zok x14, hp4, ra1.car x14.car, ?_, rh4, q4⟩
          rw [← ws3]
          exact rs4.wipe vs
        | true =>
          have q4' : fin ((me sd4 h4).bd fun d s h => if acc.length < 100000 then cloop vs g t me (xs.drop (i + 1)) (acc ++ [d]) (wipeD s vs) h else .bad) := q4
          refine ⟨c4, sd4, h4, rs4, rh4, (out_bd (R := Rel K) (P := fin) nb q4').imp fun y5 H5 ⟨c5, d5, sd5, h5, rs5, rh5, r5, x5, q5⟩ => ?_⟩
          have x15 : Ext c1 H1 c5 H5 := x14.trans x5
          have hp5 : H5 p = some (.lst ws) := x15.old p _ (fun z => (rh1.rn p z).1 (hpn x1.n)) hz1 hp1
          by_cases ha : acc.length < 100000
          · rw [if_pos ha] at q5
            have n5 : p ∈ c5.n := hpn (x15.n.trans x1.n)
            refine ⟨ws, hp5, line5' (by rw [← ra1.len]; exact ha), c5, wipeD sd5 vs, h5, acc ++ [d5], ws ++ [y5], (x1.step x15).write hp, zok x15, upd_same, ?_, ?_, rh5.writeN n5, q5⟩
            · exact ((ra1.car x15.car).app (RelL.one r5)).car (Car.writeN n5)
            · rw [← ws3]
              exact (rs5.wipe vs).writeN n5
          · rw [if_neg ha] at q5
            exact (nb q5).elim
    · have e : i = xs.length := by omega
      subst e
      rw [List.drop_length] at q1
      refine .inl ⟨stop, ?_⟩
      have q2 : OutF K mg c H s Q W (.ok acc (backD s0 sd1 vs) h1) := q1
      have rb := fin_relS x1.n (rs1.back rs0 (x1.car hp))
      have := q2 p ws _ (cutH H1 p) (x0.trans (x1.fin hp)) rb (fin_relH x1.n out0.2.1 rh1 hz1) (ra1.car (fin_car x1.n)) cutH_same
      rw [cutH_upd hp1] at this
      exact this⟩
end
section
variable {X : Cx} {W : WX}
theorem ts_nil : PTs X [] (lT X.K X.mg W mYes) := ⟨fun pins st s H Q I ⟨c, sd, h, rs, rh, q⟩ => (pts_nil (X := X)).run pins st s H Q I (q true c H (Ext.refl _ _) rs rh rfl)⟩
theorem ts_one {a : Expr} {t : M Bool} (h : PT X a (lT X.K X.mg W t)) : PTs X [a] (lT X.K X.mg W t) := pts_one h
theorem f_comp {elt tg iter : Expr} {ifs : List Expr} {scope : Scope} {own : List (Str × Nat)} {ts : List Nat} {pos : Pos} {ms : M (List D)} {g : D → M Unit} {t : M Bool} {me : M D} (hc : X.calm = true) (hN : X.N.Nodup) (hi : PI X tg iter (lI X.K X.mg W ms)) (ok : BlkOk X.N X.env.scope scope own)
    (hg : ∀ (s : Shared) (H : Hp) (C : Addr) (cl : List (Str × Addr)) (fp : List Addr), PG (X.blk s H scope (compEnvC scope cl C X.env) fp) tg (lG X.K ts g)) (ht : ∀ (s : Shared) (H : Hp) (C : Addr) (cl : List (Str × Addr)) (fp : List Addr), PTs (X.blk s H scope (compEnvC scope cl C X.env) fp) ifs (lT X.K X.mg W0 t))
    (he : ∀ (s : Shared) (H : Hp) (C : Addr) (cl : List (Str × Addr)) (fp : List Addr), PE (X.blk s H scope (compEnvC scope cl C X.env) fp) elt (lE X.K X.mg W0 me)) (hts : ∀ i ∈ ts, i ∈ own.map (·.2) := by decide) (hs : ∀ x, foldedSetIterable iter X.env x = pure x := by intro _; rfl) :
    PE X (.ListComp elt [⟨tg, iter, ifs, 0⟩] scope pos) (lF X.K X.mg W (mComp ms (own.map (·.2)) g t me)) := pe_imp (pe_lc hc hN hi ok hg ht he hs) (lift_comp hts)
theorem lift_asgV {K : PySem.W.Frag} {mg : Str → Option Value} {i : Nat} {mf : M (List D)} (E : Ends) (s : L2.St) (H : Hp) : lS K mg W (mAsg i (mVal mf)) E s H → tAsg (lF K mg W mf) (gName i) E s H := fun ⟨c, sd, h, rs, rh, q⟩ => ⟨c, sd, h, rs, rh, by
    unfold mAsg mVal at q
    cases e1 : mf sd h with
    | ok ds sd1 h1 =>
      rw [e1] at q
      intro p vs c' H' x1 r1 r2 r3 hp
      have g := grow_new (o := .lst vs) hp
      exact q _ c' _ (x1.trans (Ext.grow g)) ((r1.grow g).set ⟨p, vs, rfl, r2.out hp, upd_same, r3.car (Car.grow g)⟩) (r2.grow g)
    | exc x fs sd1 h1 => rw [e1] at q; exact fun cls dx c' H' x1 x2 x3 x4 => q s cls dx c' H' x1 x2 x3 x4
    | bad => rw [e1] at q; exact q⟩
theorem s_setCV {i : Nat} {y : Str} {py : Pos} {elt tg iter : Expr} {ifs : List Expr} {scope : Scope} {own : List (Str × Nat)} {ts : List Nat} {pos spos : Pos} {ms : M (List D)} {g : D → M Unit} {t : M Bool} {me : M D} (hc : X.calm = true) (hN : X.N.Nodup)
    (hsw : swapsWith (.ListComp elt [⟨tg, iter, ifs, 0⟩] scope pos) (some (.Name y py)) spos.line X.env = pure true) (hi : PI X tg iter (lI X.K X.mg W ms)) (ok : BlkOk X.N X.env.scope scope own)
    (hg : ∀ (s : Shared) (H : Hp) (C : Addr) (cl : List (Str × Addr)) (fp : List Addr), PG (X.blk s H scope (compEnvC scope cl C X.env) fp) tg (lG X.K ts g)) (ht : ∀ (s : Shared) (H : Hp) (C : Addr) (cl : List (Str × Addr)) (fp : List Addr), PTs (X.blk s H scope (compEnvC scope cl C X.env) fp) ifs (lT X.K X.mg W0 t))
    (he : ∀ (s : Shared) (H : Hp) (C : Addr) (cl : List (Str × Addr)) (fp : List Addr), PE (X.blk s H scope (compEnvC scope cl C X.env) fp) elt (lE X.K X.mg W0 me)) (hts : ∀ i ∈ ts, i ∈ own.map (·.2) := by decide) (hy : X.N[i]? = some y := by rfl) (hyl : X.env.scope.names.lookup y = some .local := by rfl) (hs : ∀ x, foldedSetIterable iter X.env x = pure x := by intro _; rfl) :
    PS X (.Assign [.Name y py] (.ListComp elt [⟨tg, iter, ifs, 0⟩] scope pos) spos) (lS X.K X.mg W (mAsg i (mVal (mComp ms (own.map (·.2)) g t me)))) :=
  ps_imp (ps_setLc hc hN hy hyl hsw hi ok hg ht he hs) fun E s H q => by
    have q2 := lift_asgV E s H q
    exact lift_comp hts s H _ q2
end
end Dm
end
section
namespace Dm
open PySem PySem.Spec PyProof.Rows L2
variable {gp : Prop}
abbrev MF := List D → Hd → Res D
def OutP (K : PySem.W.Frag) (mg : Str → Option Value) (c : C) (H : Hp) (Q : VK) (E : XK) : Res D → Prop
  | .ok d _ h => ∀ v c' H', Ext c H c' H' → c'.z = [] → RelH K c' H' h → Rel K c' H' d v → Q v H'
  | .exc x fs _ h => ∀ cls dx c' H', Ext c H c' H' → c'.z = [] → RelH K c' H' h → ExR K mg c' H' x fs cls dx → E cls dx H'
  | .bad => False
def spM (K : PySem.W.Frag) (mg : Str → Option Value) (n : Nat) (mf : MF) : Sp := fun vs H Q E => ∃ c h ds, c.z = [] ∧ RelH K c H h ∧ RelL K c H ds vs ∧ ds.length = n ∧ OutP K mg c H Q E (mf ds h)
def startD (n : Nat) (ds : List D) : Sd := ds.map .val ++ List.replicate (n - ds.length) .no
def fin : Res Fl → Res D
  | .ok (.rt d) _ h => .ok d [] h
  | .ok .nx _ h => .ok .non [] h
  | .exc x fs _ h => .exc x fs [] h
  | _ => .bad
def fnM (n : Nat) (b : M Fl) : MF := fun ds h => fin (b (startD n ds) h)
section
variable {K : PySem.W.Frag} {mg : Str → Option Value} {c c' : C} {H H' : Hp} {h : Hd} {sd : Sd} {s : L2.St}
def C.sub (c : C) : C := ⟨c.r, c.n ++ c.z, []⟩
theorem out_sub {a : Addr} : (C.sub c).out a ↔ c.out a := by
  unfold C.sub C.out
  simp [List.mem_append, not_or, and_assoc]
theorem Car.sub : Car c H (C.sub c) H := ⟨fun a u h e => ⟨out_sub.mpr h, e⟩, fun _ _ e => e⟩
theorem RelH.sub (r : RelH K c H h) : RelH K (C.sub c) H h := ⟨r.len, r.nd, fun a ha => ⟨fun q => (List.mem_append.mp q).elim (r.rn a ha).1 (r.rn a ha).2, fun q => nomatch q⟩, fun a ha => by
    rcases ha with q | q
    · exact r.hid a (List.mem_append.mp q)
    · exact (nomatch q), fun i o a e1 e2 => (r.obj i o a e1 e2).car Car.sub fun _ q => q⟩
def C.up (c' c : C) : C := ⟨c'.r, c.n, c.z⟩
theorem up_ext (x : Ext (C.sub c) H c' H') (hz : c'.z = []) : Ext c H (C.up c' c) H' := ⟨x.r, rfl, fun a q => .inl q, fun a o h1 _ e => x.old a o h1 (fun q => nomatch q) e, x.dom⟩
theorem up_car (x : Ext (C.sub c) H c' H') (hz : c'.z = []) : Car c' H' (C.up c' c) H' := ⟨fun a u h e => ⟨⟨h.1, fun q => h.2.1 (by rw [x.n]; exact List.mem_append_left _ q), fun q => h.2.1 (by rw [x.n]; exact List.mem_append_right _ q)⟩, e⟩, fun _ _ e => e⟩
theorem up_relH (x : Ext (C.sub c) H c' H') (hz : c'.z = []) (r : RelH K c' H' h) : RelH K (C.up c' c) H' h := ⟨r.len, r.nd, fun a ha => ⟨fun q => (r.rn a ha).1 (by rw [x.n]; exact List.mem_append_left _ q), fun q => (r.rn a ha).1 (by rw [x.n]; exact List.mem_append_right _ q)⟩, fun a ha => by
    refine r.hid a (.inl ?_)
    rw [x.n]
    exact List.mem_append.mpr ha, fun i o a e1 e2 => (r.obj i o a e1 e2).car (up_car x hz) fun _ q => q⟩
theorem up_relS {h0 : Hd} (x : Ext (C.sub c) H c' H') (hz : c'.z = []) (r0 : RelH K c H h0) (r : RelS K c H sd s) : RelS K (C.up c' c) H' sd s := r.car (up_ext x hz).car fun q u h1 h2 e => ⟨h1, h2, x.old q u (fun z => (r0.rn q z).2 h1) (fun z => nomatch z) e⟩
theorem ExR.car (x : Car c H c' H') {y : Str} {fs : List (Str × D)} {cls : Value} {dx : Option Addr} (e : ExR K mg c H y fs cls dx) : ExR K mg c' H' y fs cls dx := by
  obtain ⟨T, e1, e2, e3⟩ := e
  refine ⟨T, e1, e2, fun n => ?_⟩
  obtain ⟨a, vs, f1, f2, f3, f4⟩ := e3 n
  exact ⟨a, vs, f1, (x.out a _ f2 f3).1, (x.out a _ f2 f3).2, f4.car x⟩
theorem lift_call {W : WX} {n : Nat} {mf : MF} {ms : M (List D)} (s : L2.St) (H : Hp) (Q : VK) (hn : ∀ sd h xs sd' h', ms sd h = .ok xs sd' h' → xs.length = n) : lE K mg W (mCall mf ms) s H Q → lA K mg W ms s H (fun vs H1 => spM K mg n mf vs H1 Q (fun cls d H' => W cls d s H')) := fun ⟨c, sd, h, rs, rh, q⟩ =>
  ⟨c, sd, h, rs, rh, by
    unfold mCall at q
    cases e1 : ms sd h with
    | bad => rw [e1] at q; exact q.elim
    | exc x fs sd1 h1 => rw [e1] at q; exact q
    | ok xs sd1 h1 =>
      rw [e1] at q
      intro vs c1 H1 x1 rs1 rh1 r1
      refine ⟨C.sub c1, h1, xs, rfl, rh1.sub, r1.car Car.sub, hn _ _ _ _ _ e1, ?_⟩
      have q1 : Out K mg (Rel K) c H s Q W (match mf xs h1 with
        | .ok d _ h => .ok d sd1 h
        | .exc x fs _ h => .exc x fs sd1 h
        | .bad => .bad) := q
      cases e2 : mf xs h1 with
      | bad => rw [e2] at q1; exact q1.elim
      | ok d sd2 h2 =>
        rw [e2] at q1
        intro v c' H' x2 hz rh2 r2
        exact q1 v (C.up c' c1) H' (x1.trans (up_ext x2 hz)) (up_relS x2 hz rh1 rs1) (up_relH x2 hz rh2) (r2.car (up_car x2 hz))
      | exc y fs sd2 h2 =>
        rw [e2] at q1
        intro cls dx c' H' x2 hz rh2 r2
        exact q1 cls dx (C.up c' c1) H' (x1.trans (up_ext x2 hz)) (up_relS x2 hz rh1 rs1) (up_relH x2 hz rh2) (r2.car (up_car x2 hz))⟩
end
theorem takesN0 {X : Cx} : L2N.Takes X W0 := fun _ _ x => by
  obtain ⟨_, _, _, _, _, _, _, _, _, _, _, _, _, _, _, _, z⟩ := x
  exact z.elim
structure Cq (gp : Prop) (X : Cx) (W : WX) (k : Nat) : Prop where
  tk : L2N.Takes X W
  gu : gp → X.A.guards = some []
  rm : Room k X.A
  cm : X.calm = true
  nd : X.N.Nodup
theorem Cq.blk {X : Cx} {W : WX} {k : Nat} (q : Cq gp X W k) {s : Shared} {H : Hp} {scope : Scope} {cenv : Env} {fp : List Addr} : Cq gp (X.blk s H scope cenv fp) W0 k := ⟨takesN0, q.gu, q.rm, q.cm, q.nd⟩
structure FOk (gp : Prop) (P : Program) (w : World) (K : PySem.W.Frag) (mg : Str → Option Value) (base : Heap) (k : Nat) (f : Addr) (fd : FuncData) (ps : List Str) (mf : MF) : Prop where
  run : ∀ (A : Around) (outer : List Env) (s : Shared) (H : Hp) (args : Args) (us : List Value) (vs : List V) (Q : VK) (E : XK), Room k A → (gp → A.guards = some []) →
    Env0 P w K mg base A outer s H → BindsTo s fd args (ps.zip us) → Vals vs us → spM K mg ps.length mf vs H Q E →
    codeAny (model P w) A (.call (.ref f) args) (CR (L2N.CX P w) outer P w H s Q E) s
structure Def (gp : Prop) (P : Program) (w : World) (K : PySem.W.Frag) (mg : Str → Option Value) (base : Heap) (x : Str) (ps : List Str) (k : Nat) (mf : MF) : Prop where
  ex : ∃ (f : Addr) (fd : FuncData), mg x = some (.ref f) ∧ PySem.W.keepIn K (.ref f) = true ∧ Binds K fd ps [] ∧ FOk gp P w K mg base k f fd ps mf
  at_ : ∃ (f : Addr) (fd : FuncData) (oc : Value) (od : Option Addr) (osl : Array (Option Value)), mg x = some (.ref f) ∧ PySem.W.keepIn K (.ref f) = true ∧ K.lookup f = some ⟨oc, od, .func fd, osl⟩ ∧ FOk gp P w K mg base k f fd ps mf
theorem FOk.mono {P : Program} {w : World} {K : PySem.W.Frag} {mg : Str → Option Value} {base : Heap} {f : Addr} {fd : FuncData} {ps : List Str} {j k : Nat} {mf : MF} (d : FOk gp P w K mg base j f fd ps mf) (h : j ≤ k) : FOk gp P w K mg base k f fd ps mf :=
  ⟨fun A outer s H args us vs Q E hr => d.run A outer s H args us vs Q E (hr.mono h)⟩
theorem Def.mk2 {P : Program} {w : World} {K : PySem.W.Frag} {mg : Str → Option Value} {base : Heap} {x qual : Str} {params : Arguments} {body : List Stmt} {scope : Scope} {dvs : List V} {kws : List (Str × V)} {f : Addr} {fd : FuncData} {ps : List Str} {k : Nat} {mf : MF}
    (F : FunD K x qual params body scope dvs kws f fd) (gx : mg x = some (.ref f)) (hb : Binds K fd ps []) (h : FOk gp P w K mg base k f fd ps mf) : Def gp P w K mg base x ps k mf := by
  refine ⟨⟨f, fd, gx, F.kp, hb, h⟩, ?_⟩
  obtain ⟨oc, od, dV, kV, doc, pm, an, cdv, ct, osl, e, lk, _⟩ := F.ex
  exact ⟨f, fd, oc, od, osl, gx, F.kp, lk, h⟩
theorem Def.mono {P : Program} {w : World} {K : PySem.W.Frag} {mg : Str → Option Value} {base : Heap} {x : Str} {ps : List Str} {j k : Nat} {mf : MF} (d : Def gp P w K mg base x ps j mf) (h : j ≤ k) : Def gp P w K mg base x ps k mf := by
  obtain ⟨f, fd, h1, h2, h3, h4⟩ := d.ex
  obtain ⟨f', fd', oc, od, osl, g1, g2, g3, g4⟩ := d.at_
  exact ⟨⟨f, fd, h1, h2, h3, h4.mono h⟩, ⟨f', fd', oc, od, osl, g1, g2, g3, g4.mono h⟩⟩
class ALen (ms : M (List D)) (n : outParam Nat) : Prop where
  al : ∀ sd h xs sd' h', ms sd h = .ok xs sd' h' → xs.length = n
instance : ALen mNil 0 := ⟨fun sd h xs sd' h' e => by cases e; rfl⟩
instance {a : M D} {ms : M (List D)} {n : Nat} [i : ALen ms n] : ALen (mCons a ms) (n + 1) := ⟨fun sd h xs sd' h' e => by
  unfold mCons at e
  cases e1 : a sd h with
  | bad => rw [e1] at e; cases e
  | exc x fs s1 h1 => rw [e1] at e; cases e
  | ok d s1 h1 =>
    rw [e1] at e
    have e' : ((ms s1 h1).bind fun xs s h => Res.ok (d :: xs) s h) = .ok xs sd' h' := e
    cases e2 : ms s1 h1 with
    | bad => rw [e2] at e'; cases e'
    | exc x fs s1 h1 => rw [e2] at e'; cases e'
    | ok ys s2 h2 =>
      rw [e2] at e'
      have e3 : Res.ok (d :: ys) s2 h2 = .ok xs sd' h' := e'
      cases e3
      rw [List.length_cons, i.al _ _ _ _ _ e2]⟩
section
variable {X : Cx} {W : WX} {k j : Nat} {x : Str} {ps : List Str} {mf : MF} {a : Expr} {es : List Expr} {ms : M (List D)} {p pos : Pos}
theorem run_def {f : Addr} {fd : FuncData} {pins : List (Addr × Obj)} {σ : L2.St} {H : Hp} {s : Shared} {Q : VK} {us : List Value} {vs : List V} (F : FOk gp X.prog X.w X.K X.mg X.base j f fd ps mf) (hb : Binds X.K fd ps []) (q : Cq gp X W k) (hj : j ≤ k)
    (I : Inv X pins σ H s) (r : Vals vs us) (h : spM X.K X.mg ps.length mf vs H Q (fun cls d H' => W cls d σ H')) : wpAny (model X.prog X.w) X.A (call (.ref f) us) (EP X pins σ Q) X.xe s := by
  have hl : us.length = ps.length := by
    obtain ⟨c, hh, ds, _, _, rl, e, _⟩ := h
    rw [← r.length, ← rl.len, e]
  have bt := hb s us I.kIn (by rw [List.append_nil]; exact hl)
  rw [List.append_nil] at bt
  refine wpAny_call (codeAny_mono (F.run X.A X.stack s H ⟨us, []⟩ us vs Q _ (q.rm.mono hj) q.gu I.env0 bt r h) fun res s' hq => ?_)
  cases res with
  | ok fl =>
    cases fl with
    | ret u => exact I.after hq
    | _ => exact hq.elim
  | error e => exact L2N.passAt q.tk σ pins H s e s' I hq
theorem e_call [al : ALen ms n] (F : Def gp X.prog X.w X.K X.mg X.base x ps j mf) (q : Cq gp X W k) (ha : PA X (a :: es) (lA X.K X.mg W ms)) (hn : n = ps.length := by rfl) (hj : j ≤ k := by decide) (hg : Gl X x := by rfl)
    (hdb : (x == ("__debug__" : Str)) = false := by decide) (he : starEach (a :: es) X.env = (false, eval a X.env) :: starEach es X.env := by rfl) (hpl : (backTo pos (starEach es X.env)).any (·.1) = false := by rfl) :
    PE X (.Call (.Name x p) (a :: es) [] pos) (lE X.K X.mg W (mCall mf ms)) := by
  obtain ⟨f, fd, hm, hk, hb, F⟩ := F.ex
  refine ⟨fun pins s σ H Q I h => ?_⟩
  have h2 := lift_call (n := ps.length) (mf := mf) σ H Q (fun sd hh xs sd' h' e => by rw [← hn]; exact al.al _ _ _ _ _ e) h
  refine wpAny_Call_Name_kw (ld_glob I hg hm ?_ hdb)
  refine PySem.W.callWith_K (h₀ := X.base) I.ok.mod.kin hk (thn (ha.run pos pins s σ H _ I h2) fun us s1 z => ?_) he hpl
  obtain ⟨vs, H1, I1, r, z⟩ := z
  exact ⟨I1.kIn, run_def F hb q hj I1 r z⟩
end
section
variable {P : Program} {w : World} {K : PySem.W.Frag} {mg : Str → Option Value} {base : Heap} {k : Nat} {f : Addr} {x qual : Str} {params : Arguments} {body : List Stmt} {scope : Scope} {N ps : List Str} {mb : M Fl} {fd : FuncData}
theorem start_rel {c : C} {H : Hp} {ds : List D} {vs : List V} (r : RelL K c H ds vs) : RelS K c H (startD N.length ds) (L2.start N vs) := by
  have len := r.len
  have noown : ∀ (i : Nat) as, (startD N.length ds)[i]? ≠ some (.own as) := fun i as e => by
    have m : Sl.own as ∈ startD N.length ds := List.mem_of_getElem? e
    unfold startD at m
    rcases List.mem_append.mp m with m | m
    · obtain ⟨d, _, e⟩ := List.mem_map.mp m
      cases e
    · have e2 := List.eq_of_mem_replicate m
      cases e2
  refine ⟨by simp [startD, L2.start, len], fun i y o e1 e2 => ?_, fun i j as bs q e1 _ _ _ => absurd e1 (noown i as)⟩
  unfold startD at e1
  unfold L2.start at e2
  by_cases hi : i < ds.length
  · rw [List.getElem?_append_left (by simpa using hi)] at e1
    rw [List.getElem?_append_left (by simp; omega)] at e2
    rw [List.getElem?_map] at e1 e2
    cases e3 : ds[i]? with
    | none => rw [e3] at e1; cases e1
    | some d =>
      rw [e3] at e1
      cases e1
      obtain ⟨v, e4, r4⟩ := r.get e3
      rw [e4] at e2
      cases e2
      exact ⟨v, rfl, r4⟩
  · rw [List.getElem?_append_right (by simp; omega)] at e1
    have m := List.eq_of_mem_replicate (List.mem_of_getElem? e1)
    subst m
    trivial
def CodeK (K : PySem.W.Frag) (f : Addr) (cdv : Value) : Prop := ∃ (oc : Value) (od : Option Addr) (fd : FuncData) (osl : Array (Option Value)) (k : Addr), K.lookup f = some ⟨oc, od, .func fd, osl⟩ ∧ fd.code = cdv ∧ cdv = .ref k
theorem def_okG (F : FunD K x qual params body scope [] [] f fd) (S : FnScope N ps scope)
    (hbody : ∀ (cdv : Value) (A : Around) (outer : List Env) (s : Shared) (H : Hp) (E : XK), CodeK K f cdv → Cq gp (cxOf (L2N.CX P w) P w K mg base N qual scope f cdv A outer s H E) (fun cls d _ H' => E cls d H') k →
      PassesOwn (model P w) (A.deeper (envOfC qual scope s.heap.objs.size f cdv)) (envOfC qual scope s.heap.objs.size f cdv) (cxOf (L2N.CX P w) P w K mg base N qual scope f cdv A outer s H E).xe →
      PSs (cxOf (L2N.CX P w) P w K mg base N qual scope f cdv A outer s H E) body (lS K mg (fun cls d _ H' => E cls d H') mb)) : FOk gp P w K mg base (k + 1) f fd ps (fnM N.length mb) := by
  obtain ⟨oc, od, dV, kV, doc, pm, an, cdv, ct, osl, rfl, lk, hcd, _, _⟩ := F.ex
  refine ⟨fun A outer s H args us vs Q E hr gu e0 hb r hsp => ?_⟩
  obtain ⟨c, h, ds, hz, rh, rl, hn, o⟩ := hsp
  have hl : vs.length = ps.length := by rw [← rl.len, hn]
  have stays : ∀ b ob, base.get? b = some ob → s.heap.get? b = some ob := fun b ob e => (e0.bs b ob e).1
  have KX : K.In s.heap := e0.mod.kin.keeps stays
  have lim : s.heap.NoLimit := e0.mod.nolimit.keeps stays
  refine codeAny_call_function hr.depth (KX _ _ lk) rfl S.co S.gen rfl (PySem.W.codeRec_of KX hcd) (hb _ _ _ _ ?_)
  refine wpAny_newFunctionEnv_cells S.kind (fun y hy => ?_) fun env he s1 z => ?_
  · obtain ⟨n, v⟩ := y
    exact (S.par n (List.of_mem_zip hy).1).elim .inl fun q => .inr ⟨q, PySem.W.cellsFrom_some _ _ _ (.inl q)⟩
  · subst he
    refine ⟨lim.keeps z.toInCall.keep, codeAny_func ?_⟩
    have I := inv_start (CX := L2N.CX P w) (E := E) S hr.hd e0 hl r z
    have hx : (cxOf (L2N.CX P w) P w K mg base N qual scope f cdv A outer s H E).xe = fun e s' => wpAny (model P w) (A.deeper (envOfC qual scope s.heap.objs.size f cdv)) (leaving (envOfC qual scope s.heap.objs.size f cdv) e) (fun _ s'' => L2N.CX P w outer H s E e s'') (fun e' s'' => L2N.CX P w outer H s E e' s'') s' := rfl
    have B := hbody cdv A outer s H E (by
      obtain ⟨kc, ek⟩ := He.codeIn_ref hcd
      exact ⟨_, _, _, _, kc, lk, rfl, ek⟩) ⟨L2N.takes_of rfl rfl rfl rfl, gu, hr.deeper _, rfl, S.nd⟩ (passes_of (X := cxOf (L2N.CX P w) P w K mg base N qual scope f cdv A outer s H E) hx)
    have t : lS K mg (fun cls d _ H' => E cls d H') mb { nx := fun _ H' => Q .non H', rt := Q } (L2.start N vs) H := by
      refine ⟨c, startD N.length ds, h, start_rel rl, rh, ?_⟩
      unfold fnM at o
      have drop : ∀ {c' : C} {H' : Hp}, Ext c H c' H' → Ext c H { c' with z := [] } H' := fun {c' H'} x => ⟨x.r, x.n, fun a q => (nomatch q), x.old, x.dom⟩
      have dcar : ∀ {c' : C} {H' : Hp}, Car c' H' { c' with z := [] } H' := fun {c' H'} => ⟨fun a u h e => ⟨⟨h.1, h.2.1, fun q => nomatch q⟩, e⟩, fun _ _ e => e⟩
      have dH : ∀ {c' : C} {H' : Hp} {h' : Hd}, RelH K c' H' h' → RelH K { c' with z := [] } H' h' := fun {c' H' h'} r => ⟨r.len, r.nd, fun a ha => ⟨(r.rn a ha).1, fun q => nomatch q⟩, fun a ha => r.hid a (ha.imp id fun q => (nomatch q)), fun i o a e1 e2 => (r.obj i o a e1 e2).car dcar fun _ q => q⟩
      cases e1 : mb (startD N.length ds) h with
      | bad => rw [e1] at o; exact o.elim
      | exc y fs sd' h' =>
        rw [e1] at o
        intro s' cls dx c' H' x1 x2 x3 x4
        exact o cls dx _ H' (drop x1) rfl (dH x3) (x4.car dcar)
      | ok fl sd' h' =>
        rw [e1] at o
        cases fl with
        | nx => exact fun s' c' H' x1 x2 x3 => o .non _ H' (drop x1) rfl (dH x3) rfl
        | rt d => exact fun v c' H' x1 x2 x3 => o v _ H' (drop x1) rfl (dH x2) (x3.car dcar)
        | bk => exact o.elim
        | ct => exact o.elim
    refine wpAny_mono (B.run [] s1 (L2.start N vs) H _ I t) (fun fl s' hs => ?_) fun e s' hs => hs
    cases fl with
    | ret u =>
      obtain ⟨v, σ', H', J, rv, q⟩ := hs
      exact ⟨v, H', J.os, J.bare, J.base, J.hok, rv, q⟩
    | next =>
      obtain ⟨σ', H', J, q⟩ := hs
      exact ⟨.non, H', J.os, J.bare, J.base, J.hok, rfl, q⟩
    | brk => obtain ⟨_, _, _, q⟩ := hs; exact q.elim
    | cont => obtain ⟨_, _, _, q⟩ := hs; exact q.elim
theorem def_ok (F : FunD K x qual params body scope [] [] f fd) (S : FnScope N ps scope)
    (hbody : ∀ (cdv : Value) (A : Around) (outer : List Env) (s : Shared) (H : Hp) (E : XK), Cq gp (cxOf (L2N.CX P w) P w K mg base N qual scope f cdv A outer s H E) (fun cls d _ H' => E cls d H') k →
      PassesOwn (model P w) (A.deeper (envOfC qual scope s.heap.objs.size f cdv)) (envOfC qual scope s.heap.objs.size f cdv) (cxOf (L2N.CX P w) P w K mg base N qual scope f cdv A outer s H E).xe →
      PSs (cxOf (L2N.CX P w) P w K mg base N qual scope f cdv A outer s H E) body (lS K mg (fun cls d _ H' => E cls d H') mb)) : FOk gp P w K mg base (k + 1) f fd ps (fnM N.length mb) :=
  def_okG F S fun cdv A outer s H E _ => hbody cdv A outer s H E
theorem def_mk (F : FunD K x x params body scope [] [] f fd) (gx : mg x = some (.ref f)) (S : FnScope N ps scope)
    (hb : ∀ (kV doc pm : Value) (an : Option Addr) (cdv ct : Value) (us : List Value), us.length = ps.length → bindArgs (PySem.W.fnOf x x params body scope .none kV doc pm an cdv ct) ⟨us, []⟩ = pure (ps.zip us))
    (hbody : ∀ (cdv : Value) (A : Around) (outer : List Env) (s : Shared) (H : Hp) (E : XK), Cq gp (cxOf (L2N.CX P w) P w K mg base N x scope f cdv A outer s H E) (fun cls d _ H' => E cls d H') k →
      PassesOwn (model P w) (A.deeper (envOfC x scope s.heap.objs.size f cdv)) (envOfC x scope s.heap.objs.size f cdv) (cxOf (L2N.CX P w) P w K mg base N x scope f cdv A outer s H E).xe →
      PSs (cxOf (L2N.CX P w) P w K mg base N x scope f cdv A outer s H E) body (lS K mg (fun cls d _ H' => E cls d H') mb)) : Def gp P w K mg base x ps (k + 1) (fnM N.length mb) :=
  .mk2 F gx (F.bindsN hb) (def_ok F S hbody)
end
end Dm
end
section
namespace Dm
open PySem PySem.Spec PyProof.Rows L2
variable {gp : Prop}
@[irreducible] def big : Int := 10 ^ 500
def bnd (i : Int) : Bool := decide (-big < i) && decide (i < big)
def s64 (i : Int) : Bool := decide (-18446744073709551616 < i) && decide (i < 18446744073709551616)
theorem bnd_iff {i : Int} : bnd i = true ↔ -big < i ∧ i < big := by
  unfold bnd
  rw [Bool.and_eq_true, decide_eq_true_iff, decide_eq_true_iff]
theorem s64_iff {i : Int} : s64 i = true ↔ -18446744073709551616 < i ∧ i < 18446744073709551616 := by
  unfold s64
  rw [Bool.and_eq_true, decide_eq_true_iff, decide_eq_true_iff]
theorem big_lt : (10 : Int) ^ 400 < big := by
  unfold big
  decide +kernel
theorem big_log {i : Int} (h : bnd i = true) : i.natAbs.log2 < 1900 := by
  have h := bnd_iff.mp h
  have e : big < 2 ^ 1900 := by
    unfold big
    decide +kernel
  have b : i.natAbs < 2 ^ 1900 := by
    have q : ((2 : Int) ^ 1900) = ((2 ^ 1900 : Nat) : Int) := by decide +kernel
    rw [q] at e
    generalize (2 ^ 1900 : Nat) = N at e ⊢
    omega
  exact PySem.Flt.log2_lt_of (by decide) b
def addD (_ : Hd) : D → D → Option D
  | .int i, .int j => some (.int (i + j))
  | .tup xs, .tup ys => if xs.length + ys.length ≤ 100000 then some (.tup (xs ++ ys)) else none
  | .lst xs, .lst ys => if xs.length + ys.length ≤ 100000 then some (.lst (xs ++ ys)) else none
  | .str x, .str y => if x.length + y.length ≤ 100000 then some (.str (x ++ y)) else none
  | _, _ => none
def subD (_ : Hd) : D → D → Option D
  | .int i, .int j => some (.int (i - j))
  | _, _ => none
def mulD (_ : Hd) : D → D → Option D
  | .int i, .int j => if s64 i || s64 j || (bnd i && bnd j) then some (.int (i * j)) else none
  | _, _ => none
def fdvD (_ : Hd) : D → D → Option D
  | .int i, .int j => if decide (0 < j) && bnd j then some (.int (i / j)) else none
  | _, _ => none
def modD (_ : Hd) : D → D → Option D
  | .int i, .int j => if decide (0 < j) then some (.int (i % j)) else none
  | _, _ => none
def powD (_ : Hd) : D → D → Option D
  | .int i, .int j => if s64 i && decide (0 ≤ j) && decide (j ≤ 1000) then some (.int (i ^ j.toNat)) else none
  | _, _ => none
def negD (_ : Hd) : D → Option D
  | .int i => some (.int (-i))
  | _ => none
def ltD (_ : Hd) : D → D → Option D
  | .int i, .int j => some (.bl (decide (i < j)))
  | _, _ => none
def leD (_ : Hd) : D → D → Option D
  | .int i, .int j => some (.bl (decide (i ≤ j)))
  | _, _ => none
def gtD (_ : Hd) : D → D → Option D
  | .int i, .int j => some (.bl (decide (j < i)))
  | _, _ => none
def geD (_ : Hd) : D → D → Option D
  | .int i, .int j => some (.bl (decide (j ≤ i)))
  | _, _ => none
section
variable {X : Cx}
theorem op_int2 {f : Value → Value → Sem Value} {Cd : Int → Int → Prop} {g : Int → Int → V} {F : Hd → D → D → Option D} (ho : OpR X f (rI Cd g))
    (hF : ∀ h a b d, F h a b = some d → ∃ i j, a = .int i ∧ b = .int j ∧ Cd i j ∧ ∀ K c H, Rel K c H d (g i j)) : OpR X f (DOp X.K F) := opr_imp ho fun x y H Q ⟨c, h, a, b, d, rh, ra, rb, e, q⟩ => by
  obtain ⟨i, j, rfl, rfl, hc, hr⟩ := hF h a b d e
  exact ⟨i, j, ra, rb, hc, q _ H (fun _ _ z => z) (hr _ _ _)⟩
theorem op_int0 {f : Value → Value → Sem Value} {g : Int → Int → V} {F : Hd → D → D → Option D} (ho : OpR X f (rI0 g))
    (hF : ∀ h a b d, F h a b = some d → ∃ i j, a = .int i ∧ b = .int j ∧ ∀ K c H, Rel K c H d (g i j)) : OpR X f (DOp X.K F) := opr_imp ho fun x y H Q ⟨c, h, a, b, d, rh, ra, rb, e, q⟩ => by
  obtain ⟨i, j, rfl, rfl, hr⟩ := hF h a b d e
  exact ⟨i, j, ra, rb, q _ H (fun _ _ z => z) (hr _ _ _)⟩
theorem o_sub : OpR X (binaryOp .Sub) (DOp X.K subD) := op_int0 op_sub fun h a b d e => by
  unfold subD at e
  split at e <;> cases e
  exact ⟨_, _, rfl, rfl, fun _ _ _ => rfl⟩
theorem o_lt : OpR X (compareOp .Lt) (DOp X.K ltD) := op_int0 op_lt fun h a b d e => by
  unfold ltD at e
  split at e <;> cases e
  exact ⟨_, _, rfl, rfl, fun _ _ _ => rfl⟩
theorem o_le : OpR X (compareOp .LtE) (DOp X.K leD) := op_int0 op_le fun h a b d e => by
  unfold leD at e
  split at e <;> cases e
  exact ⟨_, _, rfl, rfl, fun _ _ _ => rfl⟩
theorem o_gt : OpR X (compareOp .Gt) (DOp X.K gtD) := op_int0 op_gt fun h a b d e => by
  unfold gtD at e
  split at e <;> cases e
  exact ⟨_, _, rfl, rfl, fun _ _ _ => rfl⟩
theorem o_ge : OpR X (compareOp .GtE) (DOp X.K geD) := op_int0 op_ge fun h a b d e => by
  unfold geD at e
  split at e <;> cases e
  exact ⟨_, _, rfl, rfl, fun _ _ _ => rfl⟩
theorem o_mod : OpR X (binaryOp .Mod) (DOp X.K modD) := op_int2 op_mod fun h a b d e => by
  unfold modD at e
  split at e
  · split at e
    · rename_i hj
      cases e
      exact ⟨_, _, rfl, rfl, of_decide_eq_true hj, fun _ _ _ => rfl⟩
    · cases e
  · cases e
theorem o_fdv : OpR X (binaryOp .FloorDiv) (DOp X.K fdvD) := op_int2 op_fdivW fun h a b d e => by
  unfold fdvD at e
  split at e
  · split at e
    · rename_i hj
      rw [Bool.and_eq_true] at hj
      cases e
      refine ⟨_, _, rfl, rfl, ⟨of_decide_eq_true hj.1, ?_⟩, fun _ _ _ => rfl⟩
      have := big_log hj.2
      omega
    · cases e
  · cases e
theorem o_mul : OpR X (binaryOp .Mult) (DOp X.K mulD) := opr_imp ((op_mul (X := X)).or op_mulW) fun x y H Q ⟨c, h, a, b, d, rh, ra, rb, e, q⟩ => by
  unfold mulD at e
  split at e
  · rename_i i j
    split at e
    · rename_i hj
      cases e
      have fin := q _ H (fun _ _ z => z) rfl
      cases h1 : s64 i with
      | true => exact .inl ⟨i, j, ra, rb, .inl (by have := s64_iff.mp h1; omega), fin⟩
      | false =>
        cases h2 : s64 j with
        | true => exact .inl ⟨i, j, ra, rb, .inr (by have := s64_iff.mp h2; omega), fin⟩
        | false =>
          rw [h1, h2] at hj
          simp only [Bool.or_self, Bool.false_or, Bool.and_eq_true] at hj
          refine .inr ⟨i, j, ra, rb, ?_, fin⟩
          have := big_log hj.1
          have := big_log hj.2
          unfold CMulW
          omega
    · cases e
  · cases e
theorem o_pow : OpR X (binaryOp .Pow) (DOp X.K powD) := op_int2 op_pow fun h a b d e => by
  unfold powD at e
  split at e
  · split at e
    · rename_i hj
      simp only [Bool.and_eq_true, decide_eq_true_eq] at hj
      cases e
      refine ⟨_, _, rfl, rfl, ⟨hj.1.2, by omega, ?_⟩, fun _ _ _ => rfl⟩
      have := s64_iff.mp hj.1.1
      omega
    · cases e
  · cases e
theorem o_neg : UnR X (unaryOp .USub) (DUn X.K negD) := unr_imp un_neg fun x H Q ⟨c, h, a, d, rh, ra, e, q⟩ => by
  unfold negD at e
  split at e
  · cases e
    exact ⟨_, ra, q _ H (fun _ _ z => z) rfl⟩
  · cases e
theorem op_catF : OpR X (binaryOp .Add) (fun x y H Q => ∃ a b xs ys, x = .ref a ∧ y = .ref b ∧ SqT X.K H a xs ∧ SqT X.K H b ys ∧ xs.length + ys.length ≤ sizeLine ∧ (xs = [] → Q (.ref b) H) ∧ (xs ≠ [] → ys = [] → Q (.ref a) H) ∧
    (xs ≠ [] → ys ≠ [] → ∀ (p : Addr) (o : Obj), H p = none → o.dict = none → Q (.ref p) (upd H p (.frz o (.tup (xs ++ ys)))))) := by
  rintro pins s σ H x y v u Q I rx ry ⟨a, b, xs, ys, rfl, rfl, ha, hb, hz, q0, q1, q2⟩
  cases rx
  cases ry
  obtain ⟨its, r1, p1, _⟩ := I.tuple ha
  obtain ⟨its2, r2, p2, _⟩ := I.tuple hb
  by_cases hx : xs = []
  · subst hx
    cases r1
    exact cat_tup0 p1 p2 ⟨.ref b, H, I, rfl, q0 rfl⟩
  · refine HT.cat_tup p1 p2 (fun z => hx (r1.nil_iff.mp z)) (fun z => ⟨.ref a, H, I, rfl, q1 hx (r2.nil_iff.mp z)⟩) (fun z => ?_) (by rw [← r1.length, ← r2.length]; exact hz)
    refine ⟨.ref s.heap.objs.size, _, I.laid (t' := s.toks) (o := .frz _ (.tup (xs ++ ys))) (fun b ob q => Heap.get?_push_of_some _ q) (Nat.le_refl _) ⟨Heap.get?_push_size _ rfl, by rw [List.length_append]; exact hz, _, r1.append r2, IsTup.new _ _⟩, rfl, q2 hx (fun w => z (r2.nil_iff.mpr w)) _ _ (I.hok.fresh (Nat.le_refl _)) rfl⟩
theorem o_add : OpR X (binaryOp .Add) (DOp X.K addD) := opr_imp ((op_add (X := X)).or (op_catF.or (op_cat.or op_add_str))) fun x y H Q ⟨c, h, a, b, d, rh, ra, rb, e, q⟩ => by
  unfold addD at e
  split at e
  · cases e
    exact .inl ⟨_, _, ra, rb, q _ H (fun _ _ z => z) rfl⟩
  · split at e
    · rename_i xs ys hl
      cases e
      obtain ⟨p1, v1, e1, t1, r1⟩ := ra
      obtain ⟨p2, v2, e2, t2, r2⟩ := rb
      refine .inr (.inl ⟨p1, p2, v1, v2, e1, e2, t1.sq, t2.sq, line5 (by rw [← r1.len, ← r2.len]; exact hl), fun z => ?_, fun _ z => ?_, fun _ _ p o hp ho => ?_⟩)
      · subst z
        have l := r1.len
        cases xs with
        | nil => exact q _ H (fun _ _ z => z) ⟨p2, v2, rfl, t2, r2⟩
        | cons x xs => simp at l
      · subst z
        have l := r2.len
        cases ys with
        | nil => exact q _ H (fun _ _ z => z) ⟨p1, v1, rfl, t1, by rw [List.append_nil]; exact r1⟩
        | cons x xs => simp at l
      · have g := grow_new (o := .frz o (.tup (v1 ++ v2))) hp
        exact q _ _ g ⟨p, v1 ++ v2, rfl, .inl ⟨rh.out hp, o, upd_same, ho⟩, (r1.app r2).car (Car.grow g)⟩
    · cases e
  · split at e
    · rename_i xs ys hl
      cases e
      obtain ⟨p1, v1, e1, o1, t1, r1⟩ := ra
      obtain ⟨p2, v2, e2, o2, t2, r2⟩ := rb
      refine .inr (.inr (.inl ⟨p1, p2, v1, v2, e1, e2, t1, t2, line5 (by rw [← r1.len, ← r2.len]; exact hl), fun p hp => ?_⟩))
      have g := grow_new (o := .lst (v1 ++ v2)) hp
      exact q _ _ g ⟨p, v1 ++ v2, rfl, rh.out hp, upd_same, (r1.app r2).car (Car.grow g)⟩
    · cases e
  · split at e
    · rename_i hl
      cases e
      exact .inr (.inr (.inr ⟨_, _, ra, rb, line5 hl, q _ H (fun _ _ z => z) rfl⟩))
    · cases e
  · cases e
end
mutual
def D.py : D → Option PyData
  | .non => some .none
  | .bl b => some (.bool b)
  | .int i => some (.int i)
  | .str x => some (.str x)
  | .tup xs => (D.pyL xs).map .tuple
  | .lst xs => (D.pyL xs).map .list
  | .ro xs => (D.pyL xs).map .list
  | .edt => none
  | .dtx _ _ => none
  | .ref _ => none
def D.pyL : List D → Option (List PyData)
  | [] => some []
  | d :: ds => match D.py d, D.pyL ds with
    | some e, some es => some (e :: es)
    | _, _ => none
end
section
variable {K : PySem.W.Frag} {c : C} {H : Hp}
mutual
theorem Rel.dp : ∀ {d : D} {v : V} {e : PyData}, Rel K c H d v → d.py = some e → Dp K H v e
  | .non, v, e, r, h => by cases h; cases r; exact .non
  | .bl b, v, e, r, h => by cases h; cases r; exact .bl b
  | .int i, v, e, r, h => by cases h; cases r; exact .int i
  | .str x, v, e, r, h => by cases h; cases r; exact .str x
  | .tup xs, v, e, r, h => by
    obtain ⟨a, vs, e1, t, rl⟩ := r
    subst e1
    cases q : D.pyL xs with
    | none => simp [D.py, q] at h
    | some es =>
      simp [D.py, q] at h
      subst h
      exact .tup t.sq (RelL.dp rl q)
  | .lst xs, v, e, r, h => by
    obtain ⟨a, vs, e1, _, t, rl⟩ := r
    subst e1
    cases q : D.pyL xs with
    | none => simp [D.py, q] at h
    | some es =>
      simp [D.py, q] at h
      subst h
      exact .lst (SqL.of t) (RelL.dp rl q)
  | .ro xs, v, e, r, h => by
    obtain ⟨a, vs, e1, t, rl⟩ := r
    subst e1
    cases q : D.pyL xs with
    | none => simp [D.py, q] at h
    | some es =>
      simp [D.py, q] at h
      subst h
      exact .lst t.sq (RelL.dp rl q)
  | .edt, v, e, r, h => by simp [D.py] at h
  | .dtx _ _, v, e, r, h => by simp [D.py] at h
  | .ref i, v, e, r, h => by simp [D.py] at h
theorem RelL.dp : ∀ {ds : List D} {vs : List V} {es : List PyData}, RelL K c H ds vs → D.pyL ds = some es → DpAll K H vs es
  | [], vs, es, r, h => by cases r; simp [D.pyL] at h; subst h; exact .nil
  | d :: ds, vs, es, r, h => by
    obtain ⟨v, vr, e, h1, h2⟩ := (show ∃ v r, vs = v :: r ∧ Rel K c H d v ∧ RelL K c H ds r from r)
    subst e
    cases q1 : D.py d with
    | none => simp [D.pyL, q1] at h
    | some x =>
      cases q2 : D.pyL ds with
      | none => simp [D.pyL, q1, q2] at h
      | some xs =>
        simp [D.pyL, q1, q2] at h
        subst h
        exact .cons (Rel.dp h1 q1) (RelL.dp h2 q2)
end
end
def view (h : Hd) : D → D
  | .ref i => match h[i]? with
    | some (.lst xs) => .lst xs
    | _ => .ref i
  | d => d
def eqB : D → D → Option Bool
  | .int i, .int j => some (decide (i = j))
  | .str x, .str y => some (decide (x = y))
  | .bl x, .bl y => some (decide (x = y))
  | .non, .non => some true
  | a, b => match a.py, b.py with
    | some d, some e => if SeqAt.shaped d && SeqAt.shaped e then some (PyData.eqv d e) else none
    | _, _ => none
def eqD (_ : Hd) (a b : D) : Option D := (eqB a b).map .bl
def neD (_ : Hd) (a b : D) : Option D := (eqB a b).map fun k => .bl !k
theorem eqB_cases {a b : D} {k : Bool} (h : eqB a b = some k) : (∃ i j, a = .int i ∧ b = .int j ∧ k = decide (i = j)) ∨ (∃ i j, a = .str i ∧ b = .str j ∧ k = decide (i = j)) ∨ (∃ i j, a = .bl i ∧ b = .bl j ∧ k = decide (i = j)) ∨ (a = .non ∧ b = .non ∧ k = true) ∨
    ∃ d e, a.py = some d ∧ b.py = some e ∧ SeqAt.shaped d = true ∧ SeqAt.shaped e = true ∧ k = PyData.eqv d e := by
  unfold eqB at h
  split at h
  · cases h; exact .inl ⟨_, _, rfl, rfl, rfl⟩
  · cases h; exact .inr (.inl ⟨_, _, rfl, rfl, rfl⟩)
  · cases h; exact .inr (.inr (.inl ⟨_, _, rfl, rfl, rfl⟩))
  · cases h; exact .inr (.inr (.inr (.inl ⟨rfl, rfl, rfl⟩)))
  · split at h
    · rename_i d e h1 h2
      split at h
      · rename_i hs
        rw [Bool.and_eq_true] at hs
        cases h
        exact .inr (.inr (.inr (.inr ⟨d, e, h1, h2, hs.1, hs.2, rfl⟩)))
      · cases h
    · cases h
section
variable {X : Cx} {W : WX} {k : Nat}
theorem o_eqU (hu0 : X.A.units + 64 < cLine) : OpR X (compareOp .Eq) (DOp X.K eqD) := opr_imp ((op_eq (X := X)).or (op_eqD hu0)) fun x y H Q ⟨c, h, a, b, d, rh, ra, rb, e, q⟩ => by
  unfold eqD at e
  cases e1 : eqB a b with
  | none => rw [e1] at e; cases e
  | some k =>
    rw [e1] at e
    cases e
    have fin := q _ H (fun _ _ z => z) rfl
    rcases eqB_cases e1 with ⟨i, j, rfl, rfl, rfl⟩ | ⟨i, j, rfl, rfl, rfl⟩ | ⟨i, j, rfl, rfl, rfl⟩ | ⟨rfl, rfl, rfl⟩ | ⟨d, e, h1, h2, h3, h4, rfl⟩
    · cases ra; cases rb; exact .inl ⟨rfl, by simpa using fin⟩
    · cases ra; cases rb; exact .inl ⟨rfl, by simpa using fin⟩
    · cases ra; cases rb; exact .inl ⟨rfl, by simpa using fin⟩
    · cases ra; cases rb; exact .inl ⟨rfl, by simpa using fin⟩
    · exact .inr ⟨d, e, ra.dp h1, rb.dp h2, h3, h4, fin⟩
theorem o_neU (hu0 : X.A.units + 64 < cLine) : OpR X (compareOp .NotEq) (DOp X.K neD) := opr_imp ((op_ne (X := X)).or (op_neD hu0)) fun x y H Q ⟨c, h, a, b, d, rh, ra, rb, e, q⟩ => by
  unfold neD at e
  cases e1 : eqB a b with
  | none => rw [e1] at e; cases e
  | some k =>
    rw [e1] at e
    cases e
    have fin := q _ H (fun _ _ z => z) rfl
    rcases eqB_cases e1 with ⟨i, j, rfl, rfl, rfl⟩ | ⟨i, j, rfl, rfl, rfl⟩ | ⟨i, j, rfl, rfl, rfl⟩ | ⟨rfl, rfl, rfl⟩ | ⟨d, e, h1, h2, h3, h4, rfl⟩
    · cases ra; cases rb; exact .inl ⟨rfl, by simpa using fin⟩
    · cases ra; cases rb; exact .inl ⟨rfl, by simpa using fin⟩
    · cases ra; cases rb; exact .inl ⟨rfl, by simpa using fin⟩
    · cases ra; cases rb; exact .inl ⟨rfl, by simpa using fin⟩
    · exact .inr ⟨d, e, ra.dp h1, rb.dp h2, h3, h4, fin⟩
theorem o_ne (q : Cq gp X W k) : OpR X (compareOp .NotEq) (DOp X.K neD) := o_neU q.rm.units
end
def ixD (h : Hd) (a b : D) : Option D := match view h a, b with
  | .tup xs, .int i => atI xs i
  | .lst xs, .int i => atI xs i
  | .ro xs, .int i => atI xs i
  | _, _ => none
def isND (_ : Hd) (a b : D) : Option D := match b with
  | .non => some (.bl (match a with | .non => true | _ => false))
  | _ => none
def notND (_ : Hd) (a b : D) : Option D := match b with
  | .non => some (.bl (match a with | .non => false | _ => true))
  | _ => none
section
variable {K : PySem.W.Frag} {c : C} {H : Hp} {h : Hd}
theorem RelL.at {ds : List D} {vs : List V} {i : Int} {d : D} (r : RelL K c H ds vs) (e : atI ds i = some d) : ∃ v, atI vs i = some v ∧ Rel K c H d v := by
  unfold atI at e ⊢
  rw [← r.len]
  cases q : ixN ds.length i with
  | none => rw [q] at e; cases e
  | some j =>
    rw [q] at e
    exact r.get e
theorem view_tup {a : D} {x : V} {xs : List D} (rh : RelH K c H h) (r : Rel K c H a x) (e : view h a = .tup xs) : ∃ p vs, x = .ref p ∧ TupAt K c H p vs ∧ RelL K c H xs vs := by
  cases a with
  | tup ys => cases e; exact r
  | ref i =>
    unfold view at e
    split at e <;> (try split at e) <;> first | cases e | (rename_i z; cases z; simp_all)
  | _ => cases e
theorem view_lst {a : D} {x : V} {xs : List D} (rh : RelH K c H h) (r : Rel K c H a x) (e : view h a = .lst xs) : ∃ p vs, x = .ref p ∧ H p = some (.lst vs) ∧ RelL K c H xs vs := by
  cases a with
  | lst ys =>
    cases e
    obtain ⟨p, vs, e1, _, e2, e3⟩ := r
    exact ⟨p, vs, e1, e2, e3⟩
  | ref i =>
    cases q : h[i]? with
    | none => simp [view, q] at e
    | some o =>
      cases o with
      | lst ys =>
        simp [view, q] at e
        subst e
        obtain ⟨p, e1, e2⟩ := r
        obtain ⟨vs, e3, e4⟩ := rh.obj i _ p q e2
        exact ⟨p, vs, e1, e3, e4⟩
      | _ => simp [view, q] at e
  | _ => cases e
theorem view_ro {a : D} {x : V} {xs : List D} (rh : RelH K c H h) (r : Rel K c H a x) (e : view h a = .ro xs) : ∃ p vs, x = .ref p ∧ RoAt K c H p vs ∧ RelL K c H xs vs := by
  cases a with
  | ro ys => cases e; exact r
  | ref i =>
    cases q : h[i]? with
    | none => simp [view, q] at e
    | some o => cases o <;> simp [view, q] at e
  | _ => cases e
end
section
variable {X : Cx}
theorem o_ix : IxR X (DOp X.K ixD) := ixr_imp ix_seq fun x y H Q ⟨c, h, a, b, d, rh, ra, rb, e, q⟩ => by
  unfold ixD at e
  split at e
  · rename_i xs i hv
    cases rb
    obtain ⟨p, vs, e1, t, r⟩ := view_tup rh ra hv
    obtain ⟨v, e2, r2⟩ := r.at e
    exact .inr (.inl ⟨p, vs, _, v, e1, rfl, t.sq, e2, q v H (fun _ _ z => z) r2⟩)
  · rename_i xs i hv
    cases rb
    obtain ⟨p, vs, e1, t, r⟩ := view_lst rh ra hv
    obtain ⟨v, e2, r2⟩ := r.at e
    exact .inl ⟨p, vs, _, v, e1, rfl, SqL.of t, e2, q v H (fun _ _ z => z) r2⟩
  · rename_i xs i hv
    cases rb
    obtain ⟨p, vs, e1, t, r⟩ := view_ro rh ra hv
    obtain ⟨v, e2, r2⟩ := r.at e
    exact .inl ⟨p, vs, _, v, e1, rfl, t.sq, e2, q v H (fun _ _ z => z) r2⟩
  · cases e
theorem rel_non {K : PySem.W.Frag} {c : C} {H : Hp} {a : D} {x : V} (r : Rel K c H a x) : decide (x = .non) = (match a with | .non => true | _ => false) := by
  cases a with
  | non => cases r; rfl
  | bl b => cases r; rfl
  | int b => cases r; rfl
  | str b => cases r; rfl
  | tup xs => obtain ⟨p, vs, e, _⟩ := r; subst e; rfl
  | lst xs => obtain ⟨p, vs, e, _⟩ := r; subst e; rfl
  | ro xs => obtain ⟨p, vs, e, _⟩ := r; subst e; rfl
  | edt => obtain ⟨p, e, _⟩ := r; subst e; rfl
  | dtx k n => obtain ⟨p, e, _⟩ := r; subst e; rfl
  | ref i => obtain ⟨p, e, _⟩ := r; subst e; rfl
theorem o_is : OpR X (compareOp .Is) (DOp X.K isND) := opr_imp op_isN fun x y H Q ⟨c, h, a, b, d, rh, ra, rb, e, q⟩ => by
  unfold isND at e
  split at e
  · cases e
    cases rb
    refine ⟨rfl, q _ H (fun _ _ z => z) ?_⟩
    rw [rel_non ra]
    cases a <;> rfl
  · cases e
theorem o_isnot : OpR X (compareOp .IsNot) (DOp X.K notND) := opr_imp op_notN fun x y H Q ⟨c, h, a, b, d, rh, ra, rb, e, q⟩ => by
  unfold notND at e
  split at e
  · cases e
    cases rb
    refine ⟨rfl, q _ H (fun _ _ z => z) ?_⟩
    rw [rel_non ra]
    cases a <;> rfl
  · cases e
end
end Dm
end
section
namespace Dm
open PySem PySem.Spec PyProof.Rows L2
def lenD (h : Hd) : List D → Option D
  | [a] => match view h a with
    | .tup xs => some (.int xs.length)
    | .lst xs => some (.int xs.length)
    | .ro xs => some (.int xs.length)
    | .str x => if x.length ≤ 100000 then some (.int x.length) else none
    | _ => none
  | _ => none
def absD (_ : Hd) : List D → Option D
  | [.int i] => some (.int (if i < 0 then -i else i))
  | _ => none
def intD (_ : Hd) : List D → Option D
  | [.int i] => some (.int i)
  | [.bl b] => some (.int (if b then 1 else 0))
  | _ => none
def intsOf : List D → Option (List Int)
  | [] => some []
  | .int i :: r => (intsOf r).map (i :: ·)
  | _ => none
def boolsOf : List D → Option (List Bool)
  | [] => some []
  | .bl i :: r => (boolsOf r).map (i :: ·)
  | _ => none
def seqOf (h : Hd) (a : D) : Option (List D) := match view h a with
  | .tup xs => some xs
  | .lst xs => some xs
  | .ro xs => some xs
  | _ => none
def lstOf (h : Hd) (a : D) : Option (List D) := match view h a with
  | .lst xs => some xs
  | .ro xs => some xs
  | _ => none
def lotOf (h : Hd) (a : D) : Option (List D) := match view h a with
  | .lst xs => some xs
  | .ro xs => some xs
  | .tup xs => some xs
  | _ => none
def maxL : List Int → Int
  | [] => 0
  | [x] => x
  | x :: y :: r => max x (maxL (y :: r))
def minL : List Int → Int
  | [] => 0
  | [x] => x
  | x :: y :: r => min x (minL (y :: r))
def maxD (h : Hd) : List D → Option D
  | [.int i, .int j] => some (.int (if j > i then j else i))
  | [a] => match (lstOf h a).bind intsOf with
    | some (x :: r) => some (.int (maxL (x :: r)))
    | _ => none
  | _ => none
def minD (h : Hd) : List D → Option D
  | [.int i, .int j] => some (.int (if j < i then j else i))
  | [a] => match (lstOf h a).bind intsOf with
    | some (x :: r) => some (.int (minL (x :: r)))
    | _ => none
  | _ => none
def allD (h : Hd) : List D → Option D
  | [a] => ((lstOf h a).bind boolsOf).map fun bs => .bl (bs.all id)
  | _ => none
def tupD (h : Hd) : List D → Option D
  | [a] => (seqOf h a).map .tup
  | _ => none
section
variable {K : PySem.W.Frag} {c : C} {H : Hp} {h : Hd}
theorem bools_rel : ∀ {ds : List D} {vs : List V} {ns : List Bool}, RelL K c H ds vs → boolsOf ds = some ns → vs = ns.map V.bl
  | [], vs, ns, r, e => by cases r; simp [boolsOf] at e; subst e; rfl
  | d :: ds, vs, ns, r, e => by
    obtain ⟨v, vr, e1, h1, h2⟩ := (show ∃ v r, vs = v :: r ∧ Rel K c H d v ∧ RelL K c H ds r from r)
    cases d with
    | bl i =>
      cases q : boolsOf ds with
      | none => simp [boolsOf, q] at e
      | some ms =>
        simp [boolsOf, q] at e
        subst e
        cases h1
        rw [e1, bools_rel h2 q]
        rfl
    | _ => simp [boolsOf] at e
theorem lst_rel {a : D} {x : V} {xs : List D} (rh : RelH K c H h) (r : Rel K c H a x) (e : lstOf h a = some xs) : ∃ p vs, x = .ref p ∧ SqL K H p vs ∧ RelL K c H xs vs := by
  unfold lstOf at e
  split at e
  · rename_i ys hv
    cases e
    obtain ⟨p, vs, e1, t, r2⟩ := view_lst rh r hv
    exact ⟨p, vs, e1, SqL.of t, r2⟩
  · rename_i ys hv
    cases e
    obtain ⟨p, vs, e1, t, r2⟩ := view_ro rh r hv
    exact ⟨p, vs, e1, t.sq, r2⟩
  · cases e
theorem rel1 {a : D} {vs : List V} (r : RelL K c H [a] vs) : ∃ v, vs = [v] ∧ Rel K c H a v := by
  obtain ⟨v, r, e, h1, h2⟩ := r
  cases h2
  exact ⟨v, e, h1⟩
end
section
variable {X : Cx}
theorem view_str {h : Hd} {a : D} {x : Str} (hv : view h a = .str x) : a = .str x := by
  cases a with
  | ref i =>
    cases q : h[i]? with
    | none => simp [view, q] at hv
    | some o => cases o <;> simp [view, q] at hv
  | str y => exact hv
  | _ => cases hv
theorem c_len : CallR X (.builtin "len") (DCl X.K lenD) := clr_imp call_len fun x H Q ⟨c, h, as, d, rh, ra, e, q⟩ => by
  unfold lenD at e
  split at e
  · obtain ⟨v, rfl, r⟩ := rel1 ra
    have fin : ∀ v, Rel X.K c H d v → Q v H := fun v e2 => q v H (fun _ _ z => z) e2
    split at e
    · rename_i xs hv
      cases e
      obtain ⟨p, vs, e1, t, r2⟩ := view_tup rh r hv
      subst e1
      exact ⟨_, xs.length, rfl, .inr ⟨vs, t.sq, r2.len⟩, fin _ rfl⟩
    · rename_i xs hv
      cases e
      obtain ⟨p, vs, e1, t, r2⟩ := view_lst rh r hv
      subst e1
      exact ⟨_, xs.length, rfl, .inl ⟨vs, SqL.of t, r2.len⟩, fin _ rfl⟩
    · rename_i xs hv
      cases e
      obtain ⟨p, vs, e1, t, r2⟩ := view_ro rh r hv
      subst e1
      exact ⟨_, xs.length, rfl, .inl ⟨vs, t.sq, r2.len⟩, fin _ rfl⟩
    · rename_i x hv
      split at e
      · rename_i hl
        cases e
        have ha := view_str hv
        subst ha
        cases r
        exact ⟨_, x.length, rfl, ⟨line5 hl, rfl⟩, fin _ rfl⟩
      · cases e
    · cases e
  · cases e
theorem c_abs : CallR X (.builtin "abs") (DCl X.K absD) := clr_imp call_abs fun x H Q ⟨c, h, as, d, rh, ra, e, q⟩ => by
  unfold absD at e
  split at e
  · cases e
    obtain ⟨v, rfl, r⟩ := rel1 ra
    cases r
    exact ⟨_, rfl, q _ H (fun _ _ z => z) rfl⟩
  · cases e
theorem c_int : CallR X (.type "int") (DCl X.K intD) := clr_imp call_int1 fun x H Q ⟨c, h, as, d, rh, ra, e, q⟩ => by
  unfold intD at e
  split at e
  · cases e
    obtain ⟨v, rfl, r⟩ := rel1 ra
    cases r
    exact .inl ⟨_, rfl, q _ H (fun _ _ z => z) rfl⟩
  · cases e
    obtain ⟨v, rfl, r⟩ := rel1 ra
    cases r
    exact .inr ⟨_, rfl, q _ H (fun _ _ z => z) rfl⟩
  · cases e
theorem lot_rel {K : PySem.W.Frag} {c : C} {H : Hp} {h : Hd} {a : D} {x : V} {xs : List D} (rh : RelH K c H h) (r : Rel K c H a x) (e : lotOf h a = some xs) : ∃ p vs, x = .ref p ∧ (SqL K H p vs ∨ SqT K H p vs) ∧ RelL K c H xs vs := by
  unfold lotOf at e
  split at e
  · rename_i ys hv
    cases e
    obtain ⟨p, vs, e1, t, r2⟩ := view_lst rh r hv
    exact ⟨p, vs, e1, .inl (SqL.of t), r2⟩
  · rename_i ys hv
    cases e
    obtain ⟨p, vs, e1, t, r2⟩ := view_ro rh r hv
    exact ⟨p, vs, e1, .inl t.sq, r2⟩
  · rename_i ys hv
    cases e
    obtain ⟨p, vs, e1, t, r2⟩ := view_tup rh r hv
    exact ⟨p, vs, e1, .inr t.sq, r2⟩
  · cases e
theorem c_all (hc : X.calm = true) : CallR X (.builtin "all") (DCl X.K allD) := clr_imp (cr_all hc) fun x H Q ⟨c, h, as, d, rh, ra, e, q⟩ => by
  unfold allD at e
  split at e
  · rename_i a
    obtain ⟨v, rfl, r⟩ := rel1 ra
    cases e1 : lstOf h a with
    | none => simp [e1] at e
    | some xs =>
      cases e2 : boolsOf xs with
      | none => simp [e1, e2] at e
      | some ns =>
        simp only [e1, e2, Option.bind_some, Option.map_some, Option.some.injEq] at e
        subst e
        obtain ⟨p, vs, f1, f2, f3⟩ := lst_rel rh r e1
        subst f1
        rw [bools_rel f3 e2] at f2
        exact ⟨p, ns, rfl, f2, q _ H (fun _ _ z => z) rfl⟩
  · cases e
theorem call_tupF : CallR X (.type "tuple") (fun xs H Q => ∃ p ys, xs = [.ref p] ∧ ((SqL X.K H p ys ∧ ∀ (l : Addr) (o : Obj), H l = none → o.dict = none → Q (.ref l) (upd H l (.frz o (.tup ys)))) ∨ (SqT X.K H p ys ∧ Q (.ref p) H))) := by
  rintro pins s σ H xs us Q I r ⟨p, ys, rfl, h⟩
  obtain ⟨u, rfl, rx⟩ := vals1 r
  cases rx
  rcases h with ⟨hq, q⟩ | ⟨hq, q⟩
  · obtain ⟨its, r2, pl, hz⟩ := I.list hq
    have hlen := r2.length
    refine call_tuple_list pl.isList (fun h2 kp => ?_) (by simp only [List.size_toArray] <;> omega)
    have I1 : Inv X pins σ H { s with heap := h2 } := I.kept (t' := s.toks) kp
    exact ⟨.ref h2.objs.size, _, I1.laid (t' := s.toks) (o := .frz { cls := .type "tuple", data := .seq its.toArray } (.tup ys)) (fun b o e => Heap.get?_push_of_some _ e) (Nat.le_refl _) ⟨Heap.get?_push_size _ rfl, hz, its, r2, IsTup.new _ _⟩, rfl, q _ _ (I1.hok.fresh (Nat.le_refl _)) rfl⟩
  · obtain ⟨its, r2, pl, hz⟩ := I.tuple hq
    exact call_tuple_same pl ⟨.ref p, H, I, rfl, q⟩
theorem c_tup : CallR X (.type "tuple") (DCl X.K tupD) := clr_imp call_tupF fun x H Q ⟨c, h, as, d, rh, ra, e, q⟩ => by
  unfold tupD at e
  split at e
  · rename_i a
    obtain ⟨v, rfl, r⟩ := rel1 ra
    unfold seqOf at e
    have new : ∀ {xs : List D} {vs : List V}, RelL X.K c H xs vs → d = .tup xs → ∀ (l : Addr) (o : Obj), H l = none → o.dict = none → Q (.ref l) (upd H l (.frz o (.tup vs))) := fun {xs vs} rl ed l o hl ho => by
      subst ed
      have g := grow_new (o := .frz o (.tup vs)) hl
      exact q _ _ g ⟨l, vs, rfl, .inl ⟨rh.out hl, o, upd_same, ho⟩, rl.car (Car.grow g)⟩
    split at e
    · rename_i xs hv
      simp at e
      subst e
      obtain ⟨p, vs, e1, t, r2⟩ := view_tup rh r hv
      subst e1
      exact ⟨p, vs, rfl, .inr ⟨t.sq, q _ H (fun _ _ z => z) ⟨p, vs, rfl, t, r2⟩⟩⟩
    · rename_i xs hv
      simp at e
      subst e
      obtain ⟨p, vs, e1, t, r2⟩ := view_lst rh r hv
      subst e1
      exact ⟨p, vs, rfl, .inl ⟨SqL.of t, new r2 rfl⟩⟩
    · rename_i xs hv
      simp at e
      subst e
      obtain ⟨p, vs, e1, t, r2⟩ := view_ro rh r hv
      subst e1
      exact ⟨p, vs, rfl, .inl ⟨t.sq, new r2 rfl⟩⟩
    · simp at e
  · cases e
end
end Dm
end
section
namespace Dm
open PySem PySem.Spec PyProof.Rows L2
variable {gp : Prop}
section
variable {X : Cx} {W : WX} {k : Nat}
end
def cut (xs : List D) (lo hi : Option Int) : List D := (xs.drop (HT.sIx xs.length 0 lo)).take (HT.sIx xs.length xs.length hi - HT.sIx xs.length 0 lo)
def slD (h : Hd) (a : D) (lo hi : Option Int) : Option D := match view h a with
  | .tup xs => some (.tup (cut xs lo hi))
  | .lst xs => some (.lst (cut xs lo hi))
  | .ro xs => some (.lst (cut xs lo hi))
  | _ => none
def mSl (a : M D) (l u : M (Option Int)) : M D := fun s h => (a s h).bind fun x s h => (l s h).bind fun lo s h => (u s h).bind fun hi s h => mOf (slD h x lo hi) s h
def DSl (K : PySem.W.Frag) : V → Option Int → Option Int → Hp → VK → Prop := fun x lo hi H Q => ∃ c h a d, RelH K c H h ∧ Rel K c H a x ∧ slD h a lo hi = some d ∧ ∀ v H', Grow H H' → Rel K c H' d v → Q v H'
section
variable {K : PySem.W.Frag} {c : C} {H : Hp}
theorem RelL.cut {ds : List D} {vs : List V} (r : RelL K c H ds vs) (lo hi : Option Int) : RelL K c H (cut ds lo hi) (cutV vs lo hi) := by
  unfold Dm.cut cutV
  rw [r.len]
  exact (r.drop _).take _
variable {X : Cx} {W : WX}
theorem sl_tupF : SlR X (fun x lo hi H Q => ∃ a xs, x = .ref a ∧ SqT X.K H a xs ∧ (HT.sIx xs.length 0 lo = 0 ∧ HT.sIx xs.length xs.length hi = xs.length → Q (.ref a) H) ∧
    (¬ (HT.sIx xs.length 0 lo = 0 ∧ HT.sIx xs.length xs.length hi = xs.length) → ∀ (p : Addr) (o : Obj), H p = none → o.dict = none → Q (.ref p) (upd H p (.frz o (.tup (cutV xs lo hi)))))) := by
  rintro pins s σ H x v vl vu lo hi sl Q I rx hs pl pu ⟨a, xs, rfl, hx, q1, q2⟩
  cases rx
  obtain ⟨its, r, ht, hz⟩ := I.tuple hx
  have hlen : its.toArray.size = xs.length := by rw [List.size_toArray]; exact r.length.symm
  refine ⟨"tuple", _, PyProof.Rows.slot_tuple_getitem.lookup, ht.typeIs, ?_⟩
  by_cases hw : HT.sIx xs.length 0 lo = 0 ∧ HT.sIx xs.length xs.length hi = xs.length
  · exact getItem_tuple_whole ht hs pl pu (by rw [hlen]; exact hw) ⟨.ref a, H, I, rfl, q1 hw⟩
  · refine HT.getItem_tuple_cut ht hs pl pu (by rw [hlen]; exact hw) ?_ (by rw [hlen]; exact hz)
    rw [hlen]
    exact ⟨.ref s.heap.objs.size, _, I.laid (t' := s.toks) (o := .frz _ (.tup (cutV xs lo hi))) (fun b ob q => Heap.get?_push_of_some _ q) (Nat.le_refl _) ⟨Heap.get?_push_size _ rfl, Nat.le_trans (cutV_length xs lo hi) hz, _, (r.drop (HT.sIx xs.length 0 lo)).take (HT.sIx xs.length xs.length hi - HT.sIx xs.length 0 lo), IsTup.new _ _⟩, rfl, q2 hw _ _ (I.hok.fresh (Nat.le_refl _)) rfl⟩
theorem o_sl : SlR X (DSl X.K) := by
  intro pins s σ H x v vl vu lo hi sl Q I rx hs pl pu ⟨c, h, a, d, rh, ra, e, q⟩
  have go := (sl_tupF (X := X)).or (sl_list (X := X))
  refine go pins s σ H x v vl vu lo hi sl Q I rx hs pl pu ?_
  unfold slD at e
  split at e
  · rename_i xs hv
    cases e
    obtain ⟨p, vs, e1, t, r⟩ := view_tup rh ra hv
    refine .inl ⟨p, vs, e1, t.sq, fun w => ?_, fun w l o hl ho => ?_⟩
    · have e2 : cut xs lo hi = xs := by
        unfold cut
        rw [r.len, w.1, w.2]
        simp [← r.len]
      exact q _ H (fun _ _ z => z) ⟨p, vs, rfl, t, by rw [e2]; exact r⟩
    · have g := grow_new (o := .frz o (.tup (cutV vs lo hi))) hl
      exact q _ _ g ⟨l, _, rfl, .inl ⟨rh.out hl, o, upd_same, ho⟩, (r.cut lo hi).car (Car.grow g)⟩
  · rename_i xs hv
    cases e
    obtain ⟨p, vs, e1, t, r⟩ := view_lst rh ra hv
    refine .inr ⟨p, vs, e1, SqL.of t, fun l hl => ?_⟩
    have g := grow_new (o := .lst (cutV vs lo hi)) hl
    exact q _ _ g ⟨l, _, rfl, rh.out hl, upd_same, (r.cut lo hi).car (Car.grow g)⟩
  · rename_i xs hv
    cases e
    obtain ⟨p, vs, e1, t, r⟩ := view_ro rh ra hv
    refine .inr ⟨p, vs, e1, t.sq, fun l hl => ?_⟩
    have g := grow_new (o := .lst (cutV vs lo hi)) hl
    exact q _ _ g ⟨l, _, rfl, rh.out hl, upd_same, (r.cut lo hi).car (Car.grow g)⟩
  · cases e
theorem e_sl {a : Expr} {lo hi : Option Expr} {ma : M D} {ml mh : M (Option Int)} {pos p2 : Pos} (ha : PE X a (lE X.K X.mg W ma)) (hl : PO X lo (lO X.K X.mg W ml)) (hu : PO X hi (lO X.K X.mg W mh)) : PE X (.Subscript a (.Slice lo hi none p2) pos) (lE X.K X.mg W (mSl ma ml mh)) :=
  pe_imp (pe_slice o_sl ha hl hu) fun s H Q ⟨c, sd, h, rs, rh, q⟩ => ⟨c, sd, h, rs, rh, (Out.bind (R := Rel X.K) q).imp fun x H1 ⟨c1, d1, sd1, h1, rs1, rh1, r1, _, q1⟩ =>
    ⟨c1, sd1, h1, rs1, rh1, (Out.bind (R := eqR) q1).imp fun l H2 ⟨c2, l2, sd2, h2, rs2, rh2, r2, x2, q2⟩ => by
      cases r2
      exact ⟨c2, sd2, h2, rs2, rh2, (Out.bind (R := eqR) q2).imp fun u H3 ⟨c3, u3, sd3, h3, rs3, rh3, r3, x3, q3⟩ => by
        cases r3
        unfold mOf at q3
        cases e : slD h3 d1 l u with
        | none => rw [e] at q3; exact q3.elim
        | some d =>
          rw [e] at q3
          exact ⟨c3, h3, d1, d, rh3, (r1.car x2.car).car x3.car, e, out_pure rs3 rh3 q3⟩⟩⟩⟩
end
def mListOf (a : M (List D)) : M (List D) := fun s h => (a s h).bind fun xs s h => match xs with
  | [x] => mOf (seqOf h x) s h
  | _ => .bad
def mListRg1 (a : M D) : M (List D) := fun s h => (a s h).bind fun x s h => match x with
  | .int n => if small n then .ok (rg 0 n.toNat) s h else .bad
  | _ => .bad
def mListRg2 (a b : M D) : M (List D) := fun s h => (a s h).bind fun x s h => (b s h).bind fun y s h => match x, y with
  | .int i, .int j => if small i && small j then .ok (rg i (j - i).toNat) s h else .bad
  | _, _ => .bad
def repL (xs : List D) (k : Nat) : List D := (List.replicate k xs).flatten
def mRep (a : M (List D)) (b : M D) : M (List D) := fun s h => (a s h).bind fun xs s h => (b s h).bind fun y s h => match y with
  | .int k => if small k && decide (xs.length * k.toNat ≤ 100000) then .ok (repL xs k.toNat) s h else .bad
  | _ => .bad
section
variable {K : PySem.W.Frag} {c : C} {H : Hp} {h : Hd}
theorem seq_rel {a : D} {x : V} {xs : List D} (rh : RelH K c H h) (r : Rel K c H a x) (e : seqOf h a = some xs) : ∃ p vs, x = .ref p ∧ (SqL K H p vs ∨ SqT K H p vs) ∧ RelL K c H xs vs := by
  unfold seqOf at e
  split at e
  · rename_i ys hv
    cases e
    obtain ⟨p, vs, e1, t, r2⟩ := view_tup rh r hv
    exact ⟨p, vs, e1, .inr t.sq, r2⟩
  · rename_i ys hv
    cases e
    obtain ⟨p, vs, e1, t, r2⟩ := view_lst rh r hv
    exact ⟨p, vs, e1, .inl (SqL.of t), r2⟩
  · rename_i ys hv
    cases e
    obtain ⟨p, vs, e1, t, r2⟩ := view_ro rh r hv
    exact ⟨p, vs, e1, .inl t.sq, r2⟩
  · cases e
theorem RelL.rg {lo : Int} {n : Nat} : RelL K c H (rg lo n) ((List.range n).map fun i => V.int (lo + (i : Nat))) := by
  unfold Dm.rg
  induction List.range n with
  | nil => rfl
  | cons x xs ih => exact ⟨_, _, rfl, rfl, ih⟩
theorem RelL.rep {ds : List D} {vs : List V} (r : RelL K c H ds vs) : ∀ k, RelL K c H (repL ds k) (List.replicate k vs).flatten
  | 0 => rfl
  | k + 1 => by
    unfold repL
    rw [List.replicate_succ, List.replicate_succ, List.flatten_cons, List.flatten_cons]
    exact r.app (RelL.rep r k)
variable {X : Cx} {W : WX} {a b : Expr} {ma mb : M D} {ms : M (List D)} {p pos p2 pos2 : Pos}
theorem OutF.bind {mg : Str → Option Value} {A B : Type} {R : C → Hp → A → B → Prop} {s : L2.St} {Q : VK} {m : Res A} {f : A → Sd → Hd → Res (List D)} (h : OutF K mg c H s Q W (m.bind f)) :
    Out K mg R c H s (Then K mg R s fun a sd h' c1 H1 => Ext c H c1 H1 ∧ OutF K mg c1 H1 s Q W (f a sd h')) W m := by
  cases m with
  | ok a sd h' => exact fun b c' H' x1 x2 x3 x4 => ⟨c', a, sd, h', x2, x3, x4, x1, by
      have h2 : OutF K mg c H s Q W (f a sd h') := h
      cases e : f a sd h' with
      | bad => rw [e] at h2; exact h2
      | exc x fs sd2 h3 => rw [e] at h2; exact fun cls dx c2 H2 y1 y2 y3 y4 => h2 cls dx c2 H2 (x1.trans y1) y2 y3 y4
      | ok ds sd2 h3 => rw [e] at h2; exact fun p vs c2 H2 y1 y2 y3 y4 y5 => h2 p vs c2 H2 (x1.trans y1) y2 y3 y4 y5⟩
  | exc x fs sd h' => exact h
  | bad => exact h
theorem f_list (hm : X.mg "list" = none) (ha : PA X [a] (lA X.K X.mg W ms)) (hg : Gl X "list" := by rfl) (he : starEach [a] X.env = (false, eval a X.env) :: starEach [] X.env := by rfl) (hpl : (backTo pos (starEach [] X.env)).any (·.1) = false := by rfl) :
    PE X (.Call (.Name "list" p) [a] [] pos) (lF X.K X.mg W (mListOf ms)) :=
  pe_imp (pe_callTy call_list_of hg hm (by decide +kernel) ha (by decide) (by decide) he hpl) fun s H Q ⟨c, sd, h, rs, rh, q⟩ => ⟨c, sd, h, rs, rh, (OutF.bind (R := RelL X.K) q).imp fun x H1 ⟨c1, d1, sd1, h1, rs1, rh1, r1, _, q1⟩ => by
    rcases d1 with _ | ⟨d, _ | ⟨d2, ds⟩⟩
    · exact q1.elim
    · obtain ⟨v, rfl, r⟩ := rel1 r1
      have q2 : OutF X.K X.mg c1 H1 s Q W (mOf (seqOf h1 d) sd1 h1) := q1
      unfold mOf at q2
      cases e : seqOf h1 d with
      | none => rw [e] at q2; exact q2.elim
      | some xs =>
        rw [e] at q2
        obtain ⟨p, vs, e1, t, r2⟩ := seq_rel rh1 r e
        subst e1
        exact ⟨p, vs, rfl, t, fun l hl => q2 l vs c1 H1 (Ext.refl _ _) rs1 rh1 r2 hl⟩
    · exact q1.elim⟩
theorem f_listRg1 (hc : X.calm = true) (hm : X.mg "list" = none) (hm2 : X.mg "range" = none) (ha : PE X a (lE X.K X.mg W ma)) (hg : Gl X "list" := by rfl) (hg2 : Gl X "range" := by rfl)
    (na : starEach [.Call (.Name "range" p2) [a] [] pos2] X.env = (false, eval (.Call (.Name "range" p2) [a] [] pos2) X.env) :: starEach [] X.env := by rfl) (na2 : starEach [a] X.env = (false, eval a X.env) :: starEach [] X.env := by rfl) :
    PE X (.Call (.Name "list" p) [.Call (.Name "range" p2) [a] [] pos2] [] pos) (lF X.K X.mg W (mListRg1 ma)) :=
  pe_imp (pe_listRg hc hg hm (prg_1 hg2 hm2 ha na2) na) fun s H Q ⟨c, sd, h, rs, rh, q⟩ => ⟨c, sd, h, rs, rh, (OutF.bind (R := Rel X.K) q).imp fun x H1 ⟨c1, d1, sd1, h1, rs1, rh1, r1, _, q1⟩ => by
    cases d1 with
    | int n =>
      have q2 : OutF X.K X.mg c1 H1 s Q W (if small n then .ok (rg 0 n.toNat) sd1 h1 else .bad) := q1
      cases hj : small n with
      | false => rw [hj] at q2; exact q2.elim
      | true =>
        rw [hj] at q2
        have := small_le hj
        refine ⟨n, r1, ⟨by omega, by omega, by omega, by omega, by omega⟩, fun l hl => ?_⟩
        have q3 := q2 l _ c1 H1 (Ext.refl _ _) rs1 rh1 RelL.rg hl
        unfold rgV
        rw [Int.sub_zero]
        exact q3
    | _ => exact q1.elim⟩
end
end Dm
end
section
namespace Dm
open PySem PySem.Spec PyProof.Rows L2
def ownAt (s : Sd) (i : Nat) : Option (List D) := match s[i]? with
  | some (.own xs) => some xs
  | _ => none
theorem ownAt_iff {s : Sd} {i : Nat} {xs : List D} : ownAt s i = some xs ↔ s[i]? = some (.own xs) := by
  unfold ownAt
  constructor
  · intro h
    split at h
    · rename_i e; cases h; exact e
    · cases h
  · intro h
    rw [h]
def mAppO (i : Nat) (a : M D) : M D := fun s h => match ownAt s i with
  | none => .bad
  | some _ => (a s h).bind fun d s h => match ownAt s i with
    | none => .bad
    | some xs => if xs.length < 100000 then .ok .non (s.set i (.own (xs ++ [d]))) h else .bad
def mLenO (i : Nat) : M D := fun s h => match ownAt s i with
  | none => .bad
  | some xs => .ok (.int xs.length) s h
def mIxO (i : Nat) (a : M D) : M D := fun s h => match ownAt s i with
  | none => .bad
  | some _ => (a s h).bind fun d s h => match ownAt s i, d with
    | some xs, .int k => mOf (atI xs k) s h
    | _, _ => .bad
def mSetO (i : Nat) (b e : M D) : M Fl := fun s h => (e s h).bind fun v s h => match ownAt s i with
  | none => .bad
  | some _ => (b s h).bind fun k s h => match ownAt s i, k with
    | some xs, .int k => match ixN xs.length k with
      | some j => .ok .nx (s.set i (.own (xs.set j v))) h
      | none => .bad
    | _, _ => .bad
def mSetR (a b e : M D) : M Fl := fun s h => (e s h).bind fun v s h => (a s h).bind fun o s h => (b s h).bind fun k s h => match o, k with
  | .ref i, .int k => match h[i]? with
    | some (.lst xs) => match ixN xs.length k with
      | some j => .ok .nx s (h.set i (.lst (xs.set j v)))
      | none => .bad
    | _ => .bad
  | _, _ => .bad
section
variable {K : PySem.W.Frag} {c : C} {H : Hp} {sd : Sd} {s : L2.St} {i : Nat} {xs : List D}
theorem RelS.own (r : RelS K c H sd s) (e : ownAt sd i = some xs) : ∃ p vs, s[i]? = some (some (.ref p)) ∧ p ∈ c.z ∧ p ∉ c.n ∧ H p = some (.lst vs) ∧ RelL K c H xs vs := by
  rw [ownAt_iff] at e
  have hi : i < s.length := by rw [← r.len]; exact (List.getElem?_eq_some_iff.mp e).1
  obtain ⟨p, vs, e2, h1, h2, h3, h4⟩ := r.sl i _ _ e (List.getElem?_eq_getElem hi)
  exact ⟨p, vs, by rw [List.getElem?_eq_getElem hi, e2], h1, h2, h3, h4⟩
variable {X : Cx} {W : WX} {x : Str} {pos p apos cpos : Pos} {a b : Expr} {ma mb me : M D}
theorem e_appO {e : Expr} (he : PE X e (lE X.K X.mg W me)) (hN : X.N[i]? = some x := by rfl) (hv : Vis X.env.scope x := by first | exact Or.inl rfl | exact Or.inr (Or.inl rfl) | exact Or.inr (Or.inr rfl)) (hd : (x == ("__debug__" : Str)) = false := by decide) (hcd : (x == ("__classdict__" : Str)) = false := by decide)
    (hbase : attributeBase (.Name x p) "append" X.env (eval (.Name x p) X.env) = eval (.Name x p) X.env := by rfl)
    (hfew : ((backTo cpos (starEach [e] X.env)).all (fun x => !x.1) && (backToKw cpos (keywordEach [] X.env)).all (fun x => x.1.isSome) && decide ([e].length + ([] : List Keyword).length + (if ([] : List Keyword).isEmpty then 0 else 1) < 30)) = true := by rfl)
    (hline : (apos.endLine == cpos.line) = true := by rfl) (hs : starEach [e] X.env = (false, eval e X.env) :: starEach [] X.env := by rfl) (hplain : (backTo cpos (starEach [] X.env)).any (·.1) = false := by rfl) :
    PE X (.Call (.Attribute (.Name x p) "append" apos) [e] [] cpos) (lE X.K X.mg W (mAppO i me)) :=
  pe_imp (pe_bm PySem.F.plainAttrs_list PySem.F.slot_list_append PySem.F.type_list_append mt_append (pe_var hN hv hd hcd) (pa_cons he pa_nil hs) hbase hfew hline hs hplain) fun s H Q ⟨c, sd, h, rs, rh, q⟩ => by
    unfold mAppO at q
    cases e1 : ownAt sd i with
    | none => rw [e1] at q; exact q.elim
    | some xs =>
      rw [e1] at q
      obtain ⟨p1, vs, e2, h1, h2, h3, h4⟩ := rs.own e1
      refine ⟨.ref p1, e2, .inl ⟨rfl, vs, SqL.of h3⟩, c, sd, h, rs, rh, (Out.bind (R := Rel X.K) q).imp fun y H1 ⟨c1, d1, sd1, h1, rs1, rh1, r1, _, q1⟩ => ?_⟩
      cases e3 : ownAt sd1 i with
      | none => rw [e3] at q1; exact q1.elim
      | some ys =>
        rw [e3] at q1
        have q2 : Out X.K X.mg (Rel X.K) c1 H1 s Q W (if ys.length < 100000 then .ok .non (sd1.set i (.own (ys ++ [d1]))) h1 else .bad) := q1
        by_cases hl : ys.length < 100000
        · rw [if_pos hl] at q2
          obtain ⟨p2, ws, f2, g1, g2, g3, g4⟩ := rs1.own e3
          have ep : p2 = p1 := by rw [e2] at f2; injection f2 with f2; injection f2 with f2; injection f2 with f2; exact f2.symm
          subst ep
          refine ⟨p2, ws, y, rfl, rfl, g3, line5' (by rw [← g4.len]; exact hl), ?_⟩
          exact q2 _ c1 _ (Ext.write (.inr g1)) (rs1.writeO (ownAt_iff.mp e3) f2 (g4.app (RelL.one r1))) (rh1.write g1) rfl
        · rw [if_neg hl] at q2
          exact q2.elim
theorem e_lenO (hm : X.mg "len" = none) (hN : X.N[i]? = some x := by rfl) (hv : Vis X.env.scope x := by first | exact Or.inl rfl | exact Or.inr (Or.inl rfl) | exact Or.inr (Or.inr rfl)) (hd : (x == ("__debug__" : Str)) = false := by decide) (hcd : (x == ("__classdict__" : Str)) = false := by decide)
    (hg : Gl X "len" := by rfl) (he : starEach [.Name x p] X.env = (false, eval (.Name x p) X.env) :: starEach [] X.env := by rfl) (hpl : (backTo pos (starEach [] X.env)).any (·.1) = false := by rfl) : PE X (.Call (.Name "len" apos) [.Name x p] [] pos) (lE X.K X.mg W (mLenO i)) :=
  pe_imp (pe_callB call_len_seq hg hm PySem.boot_len (pa_cons (pe_var hN hv hd hcd) pa_nil he) (by decide) (by decide) he hpl) fun s H Q ⟨c, sd, h, rs, rh, q⟩ => by
    unfold mLenO at q
    cases e1 : ownAt sd i with
    | none => rw [e1] at q; exact q.elim
    | some xs =>
      rw [e1] at q
      obtain ⟨p1, vs, e2, h1, h2, h3, h4⟩ := rs.own e1
      refine ⟨.ref p1, e2, p1, vs, rfl, .inl (SqL.of h3), ?_⟩
      rw [← h4.len]
      exact q _ c H (Ext.refl _ _) rs rh rfl
theorem e_ixO (hb : PE X b (lE X.K X.mg W mb)) (hN : X.N[i]? = some x := by rfl) (hv : Vis X.env.scope x := by first | exact Or.inl rfl | exact Or.inr (Or.inl rfl) | exact Or.inr (Or.inr rfl)) (hd : (x == ("__debug__" : Str)) = false := by decide) (hcd : (x == ("__classdict__" : Str)) = false := by decide)
    (hs : PlainIx b := by exact fun _ _ => rfl) : PE X (.Subscript (.Name x p) b pos) (lE X.K X.mg W (mIxO i mb)) :=
  pe_imp (pe_ix ix_list (pe_var hN hv hd hcd) hb hs) fun s H Q ⟨c, sd, h, rs, rh, q⟩ => by
    unfold mIxO at q
    cases e1 : ownAt sd i with
    | none => rw [e1] at q; exact q.elim
    | some xs =>
      rw [e1] at q
      obtain ⟨p1, vs, e2, _, _, h3, h4⟩ := rs.own e1
      refine ⟨.ref p1, e2, c, sd, h, rs, rh, (Out.bind (R := Rel X.K) q).imp fun y H1 ⟨c1, d1, sd1, h1, rs1, rh1, r1, _, q1⟩ => ?_⟩
      cases e3 : ownAt sd1 i with
      | none => rw [e3] at q1; cases d1 <;> exact q1.elim
      | some ys =>
        rw [e3] at q1
        cases d1 with
        | int k =>
          cases r1
          obtain ⟨p2, ws, f2, g1, g2, g3, g4⟩ := rs1.own e3
          have ep : p2 = p1 := by rw [e2] at f2; injection f2 with f2; injection f2 with f2; injection f2 with f2; exact f2.symm
          subst ep
          have q2 : Out X.K X.mg (Rel X.K) c1 H1 s Q W (mOf (atI ys k) sd1 h1) := q1
          unfold mOf at q2
          cases e4 : atI ys k with
          | none => rw [e4] at q2; exact q2.elim
          | some d =>
            rw [e4] at q2
            obtain ⟨v, e5, r5⟩ := g4.at e4
            exact ⟨p2, ws, k, v, rfl, rfl, SqL.of g3, e5, q2 v c1 H1 (Ext.refl _ _) rs1 rh1 r5⟩
        | _ => exact q1.elim
theorem s_setO {e : Expr} (he : PE X e (lE X.K X.mg W me)) (hb : PE X b (lE X.K X.mg W mb)) (hN : X.N[i]? = some x := by rfl) (hv : Vis X.env.scope x := by first | exact Or.inl rfl | exact Or.inr (Or.inl rfl) | exact Or.inr (Or.inr rfl)) (hd : (x == ("__debug__" : Str)) = false := by decide) (hcd : (x == ("__classdict__" : Str)) = false := by decide)
    (ha : ∀ v, assign (.Subscript (.Name x p) b apos) X.env v = (do
      let ov ← holding [v] (eval (.Name x p) X.env)
      let iv ← holding [v, ov] (eval b X.env)
      standAt apos
      holding [v, ov, iv] (setItem ov iv v)
      release [v, ov, iv] []) := by intro _; rfl) (hs : swapsWithSole [.Subscript (.Name x p) b apos] e pos.line X.env = pure false := by rfl) (hw : swappedStores [.Subscript (.Name x p) b apos] e X.env = pure none := by rfl)
    (h1 : (assignEach [.Subscript (.Name x p) b apos] X.env).map (·.2) = [assign (.Subscript (.Name x p) b apos) X.env] := by rfl) : PS X (.Assign [.Subscript (.Name x p) b apos] e pos) (lS X.K X.mg W (mSetO i mb me)) :=
  ps_imp (ps_asg he (pg_sub (pe_var hN hv hd hcd) hb set_list ha) hs hw h1) fun E s H ⟨c, sd, h, rs, rh, q⟩ => ⟨c, sd, h, rs, rh, (OutS.bind (R := Rel X.K) q).imp fun y H0 ⟨c0, d0, sd0, h0, rs0, rh0, r0, _, q0⟩ => by
    cases e1 : ownAt sd0 i with
    | none => rw [e1] at q0; exact q0.elim
    | some xs =>
      rw [e1] at q0
      obtain ⟨p1, vs, e2, _, _, h3, h4⟩ := rs0.own e1
      refine ⟨.ref p1, e2, c0, sd0, h0, rs0, rh0, (OutS.bind (R := Rel X.K) q0).imp fun z H1 ⟨c1, d1, sd1, h1, rs1, rh1, r1, x1, q1⟩ => ?_⟩
      cases e3 : ownAt sd1 i with
      | none => rw [e3] at q1; cases d1 <;> exact q1.elim
      | some ys =>
        rw [e3] at q1
        cases d1 with
        | int k =>
          cases r1
          obtain ⟨p2, ws, f2, g1, g2, g3, g4⟩ := rs1.own e3
          have ep : p2 = p1 := by rw [e2] at f2; injection f2 with f2; injection f2 with f2; injection f2 with f2; exact f2.symm
          subst ep
          cases e4 : ixN ys.length k with
          | none => simp only [e4] at q1; exact q1.elim
          | some j =>
            simp only [e4] at q1
            refine ⟨p2, ws, k, j, rfl, rfl, g3, by rw [← g4.len]; exact e4, ?_⟩
            exact q1 s c1 _ (Ext.write (.inr g1)) (rs1.writeO (ownAt_iff.mp e3) f2 (g4.set (r0.car x1.car) j)) (rh1.write g1)
        | _ => exact q1.elim⟩
theorem s_setR {e : Expr} (he : PE X e (lE X.K X.mg W me)) (ho : PE X a (lE X.K X.mg W ma)) (hb : PE X b (lE X.K X.mg W mb))
    (ha : ∀ v, assign (.Subscript a b apos) X.env v = (do
      let ov ← holding [v] (eval a X.env)
      let iv ← holding [v, ov] (eval b X.env)
      standAt apos
      holding [v, ov, iv] (setItem ov iv v)
      release [v, ov, iv] []) := by intro _; rfl) (hs : swapsWithSole [.Subscript a b apos] e pos.line X.env = pure false := by rfl) (hw : swappedStores [.Subscript a b apos] e X.env = pure none := by rfl)
    (h1 : (assignEach [.Subscript a b apos] X.env).map (·.2) = [assign (.Subscript a b apos) X.env] := by rfl) : PS X (.Assign [.Subscript a b apos] e pos) (lS X.K X.mg W (mSetR ma mb me)) :=
  ps_imp (ps_asg he (pg_sub ho hb set_list ha) hs hw h1) fun E s H ⟨c, sd, h, rs, rh, q⟩ => ⟨c, sd, h, rs, rh, (OutS.bind (R := Rel X.K) q).imp fun y H0 ⟨c0, d0, sd0, h0, rs0, rh0, r0, _, q0⟩ =>
    ⟨c0, sd0, h0, rs0, rh0, (OutS.bind (R := Rel X.K) q0).imp fun o H1 ⟨c1, d1, sd1, h1, rs1, rh1, r1, x1, q1⟩ =>
      ⟨c1, sd1, h1, rs1, rh1, (OutS.bind (R := Rel X.K) q1).imp fun z H2 ⟨c2, d2, sd2, h2, rs2, rh2, r2, x2, q2⟩ => by
      cases d1 with
      | ref i =>
        cases d2 with
        | int k =>
          cases r2
          cases e3 : h2[i]? with
          | none => simp only [e3] at q2; exact q2.elim
          | some ob =>
            cases ob with
            | lst xs =>
              simp only [e3] at q2
              obtain ⟨p1, e4, e5⟩ := r1.car x2.car
              subst e4
              obtain ⟨vs, e6, r6⟩ := rh2.obj i _ p1 e3 e5
              cases e7 : ixN xs.length k with
              | none => simp only [e7] at q2; exact q2.elim
              | some j =>
                simp only [e7] at q2
                refine ⟨p1, vs, k, j, rfl, rfl, e6, by rw [← r6.len]; exact e7, ?_⟩
                have hm := List.mem_of_getElem? e5
                exact q2 s c2 _ (Ext.write (.inl hm)) (rs2.writeR hm rh2) (rh2.writeR e5 (r6.set ((r0.car x1.car).car x2.car) j))
            | _ => simp only [e3] at q2; exact q2.elim
        | _ => exact q2.elim
      | _ => cases d2 <;> exact q2.elim⟩⟩⟩
end
end Dm
end
section
namespace Dm
open PySem PySem.Spec PyProof.Rows L2
variable {gp : Prop}
def NoOwn (sd : Sd) (s : L2.St) (p : Addr) : Prop := ∀ (j : Nat) as, sd[j]? = some (.own as) → s[j]? ≠ some (some (.ref p))
def Apart (p : Addr) (xs : List Sl) (vs : List V) : Prop := ∀ (j : Nat) as, xs[j]? = some (.own as) → vs[j]? ≠ some (.ref p)
def RelM (K : PySem.W.Frag) (c : C) (H : Hp) (sd : Sd) (s : L2.St) : List Sl → List V → Prop
  | [], vs => vs = []
  | x :: xs, vs => ∃ v r, vs = v :: r ∧ RelSl K c H x (some v) ∧ (∀ ds p, x = .own ds → v = .ref p → NoOwn sd s p ∧ Apart p xs r) ∧ RelM K c H sd s xs r
def OutM (K : PySem.W.Frag) (mg : Str → Option Value) (c : C) (H : Hp) (s : L2.St) (Q : List V → Hp → Prop) (W : WX) : Res (List Sl) → Prop
  | .ok xs sd h => ∀ vs c' H', Ext c H c' H' → RelS K c' H' sd s → RelH K c' H' h → RelM K c' H' sd s xs vs → Q vs H'
  | .exc x fs sd h => ∀ cls dx c' H', Ext c H c' H' → RelS K c' H' sd s → RelH K c' H' h → ExR K mg c' H' x fs cls dx → W cls dx s H'
  | .bad => False
def lM (K : PySem.W.Frag) (mg : Str → Option Value) (W : WX) (m : M (List Sl)) : TA := fun s H Q => ∃ c sd h, RelS K c H sd s ∧ RelH K c H h ∧ OutM K mg c H s Q W (m sd h)
def mPn : M (List Sl) := fun s h => .ok [] s h
def mPv (a : M D) (r : M (List Sl)) : M (List Sl) := fun s h => (a s h).bind fun d s h => (r s h).bind fun xs s h => .ok (.val d :: xs) s h
def mPo (a : M (List D)) (r : M (List Sl)) : M (List Sl) := fun s h => (a s h).bind fun ds s h => (r s h).bind fun xs s h => .ok (.own ds :: xs) s h
section
variable {K : PySem.W.Frag} {c c' : C} {H H' : Hp} {sd : Sd} {s : L2.St}
theorem RelM.len : ∀ {xs : List Sl} {vs : List V}, RelM K c H sd s xs vs → xs.length = vs.length
  | [], vs, h => by cases h; rfl
  | x :: xs, vs, ⟨v, r, e, _, _, h⟩ => by subst e; simp [RelM.len h]
theorem RelM.car (x : Car c H c' H') (own : ∀ q u, q ∈ c.z → q ∉ c.n → H q = some u → q ∈ c'.z ∧ q ∉ c'.n ∧ H' q = some u) : ∀ {xs : List Sl} {vs : List V}, RelM K c H sd s xs vs → RelM K c' H' sd s xs vs
  | [], vs, h => h
  | y :: xs, vs, ⟨v, r, e, h1, h2, h3⟩ => ⟨v, r, e, h1.car x own, h2, RelM.car x own h3⟩
theorem move_car {p : Addr} {n : List Addr} (hn : c.n = p :: n) : Car c H ⟨c.r, n, p :: c.z⟩ H := ⟨fun a u h e => ⟨⟨h.1, fun q => h.2.1 (by rw [hn]; exact List.mem_cons_of_mem _ q), fun q => by
    rcases List.mem_cons.mp q with q | q
    · exact h.2.1 (by rw [hn, q]; exact List.mem_cons_self)
    · exact h.2.2 q⟩, e⟩, fun _ _ e => e⟩
theorem move_own {p : Addr} {n : List Addr} (hn : c.n = p :: n) (q : Addr) (u : HO) (h1 : q ∈ c.z) (h2 : q ∉ c.n) (e : H q = some u) : q ∈ (⟨c.r, n, p :: c.z⟩ : C).z ∧ q ∉ (⟨c.r, n, p :: c.z⟩ : C).n ∧ H q = some u := ⟨List.mem_cons_of_mem _ h1, fun z => h2 (by rw [hn]; exact List.mem_cons_of_mem _ z), e⟩
theorem move_relH {p : Addr} {n : List Addr} {h : Hd} (hn : c.n = p :: n) (r : RelH K c H h) : RelH K ⟨c.r, n, p :: c.z⟩ H h := ⟨r.len, r.nd, fun a ha => ⟨fun q => (r.rn a ha).1 (by rw [hn]; exact List.mem_cons_of_mem _ q), fun q => by
    rcases List.mem_cons.mp q with q | q
    · exact (r.rn a ha).1 (by rw [hn, q]; exact List.mem_cons_self)
    · exact (r.rn a ha).2 q⟩, fun a ha => by
    rcases ha with q | q
    · exact r.hid a (.inl (by rw [hn]; exact List.mem_cons_of_mem _ q))
    · rcases List.mem_cons.mp q with q | q
      · exact r.hid a (.inl (by rw [hn, q]; exact List.mem_cons_self))
      · exact r.hid a (.inr q), fun i o a e1 e2 => (r.obj i o a e1 e2).car (move_car hn) fun _ q => q⟩
variable {X : Cx} {W : WX} {a : Expr} {es : List Expr} {ma : M D} {mf : M (List D)} {ms : M (List Sl)}
theorem p_nil : PA X [] (lM X.K X.mg W mPn) := pa_imp pa_nil fun s H Q ⟨c, sd, h, rs, rh, q⟩ => q [] c H (Ext.refl _ _) rs rh rfl
theorem p_val (ha : PE X a (lE X.K X.mg W ma)) (hr : PA X es (lM X.K X.mg W ms)) (hs : starEach (a :: es) X.env = (false, eval a X.env) :: starEach es X.env := by rfl) : PA X (a :: es) (lM X.K X.mg W (mPv ma ms)) :=
  pa_imp (pa_cons ha hr hs) fun s H Q ⟨c, sd, h, rs, rh, q⟩ => ⟨c, sd, h, rs, rh, by
    unfold mPv at q
    cases e1 : ma sd h with
    | bad => rw [e1] at q; exact q.elim
    | exc x fs sd1 h1 => rw [e1] at q; exact q
    | ok d sd1 h1 =>
      rw [e1] at q
      intro v c1 H1 x1 rs1 rh1 r1
      refine ⟨c1, sd1, h1, rs1, rh1, ?_⟩
      have q1 : OutM X.K X.mg c H s Q W ((ms sd1 h1).bind fun xs s h => .ok (.val d :: xs) s h) := q
      cases e2 : ms sd1 h1 with
      | bad => rw [e2] at q1; exact q1.elim
      | exc x fs sd2 h2 => rw [e2] at q1; exact fun cls dx c2 H2 y1 y2 y3 y4 => q1 cls dx c2 H2 (x1.trans y1) y2 y3 y4
      | ok xs sd2 h2 =>
        rw [e2] at q1
        intro vs c2 H2 x2 rs2 rh2 r2
        exact q1 (v :: vs) c2 H2 (x1.trans x2) rs2 rh2 ⟨v, vs, rfl, ⟨v, rfl, r1.car x2.car⟩, fun ds p e => (by cases e), r2⟩⟩
theorem p_own (ha : PE X a (lF X.K X.mg W mf)) (hr : PA X es (lM X.K X.mg W ms)) (hs : starEach (a :: es) X.env = (false, eval a X.env) :: starEach es X.env := by rfl) : PA X (a :: es) (lM X.K X.mg W (mPo mf ms)) :=
  pa_imp (pa_cons ha hr hs) fun s H Q ⟨c, sd, h, rs, rh, q⟩ => ⟨c, sd, h, rs, rh, by
    unfold mPo at q
    cases e1 : mf sd h with
    | bad => rw [e1] at q; exact q.elim
    | exc x fs sd1 h1 => rw [e1] at q; exact q
    | ok ds sd1 h1 =>
      rw [e1] at q
      intro p vs c1 H1 x1 rs1 rh1 r1 hp
      refine ⟨c1.lock p, sd1, h1, rs1.lock hp, rh1.lock hp, ?_⟩
      have q1 : OutM X.K X.mg c H s Q W ((ms sd1 h1).bind fun xs s h => .ok (.own ds :: xs) s h) := q
      have fin : ∀ {c2 : C} {H2 : Hp}, Ext (c1.lock p) (upd H1 p (.lst vs)) c2 H2 → Ext c H ⟨c2.r, c1.n, p :: c2.z⟩ H2 := fun {c2 H2} x2 => by
        have hpc : H p = none := none_back x1.dom hp
        have xl : ExtL p c1 H1 c2 H2 := (ExtL.start hp).step x2
        refine x1.trans ⟨xl.r, rfl, fun a ha => ?_, xl.old, xl.dom⟩
        rcases List.mem_cons.mp ha with e | e
        · subst e; exact .inr hp
        · exact xl.z a e
      cases e2 : ms sd1 h1 with
      | bad => rw [e2] at q1; exact q1.elim
      | exc x fs sd2 h2 =>
        rw [e2] at q1
        intro cls dx c2 H2 y1 y2 y3 y4
        have hn : c2.n = p :: c1.n := y1.n
        exact q1 cls dx _ H2 (fin y1) (y2.car (move_car hn) (move_own hn)) (move_relH hn y3) (y4.car (move_car hn))
      | ok xs sd2 h2 =>
        rw [e2] at q1
        intro ws c2 H2 y1 y2 y3 y4
        have hn : c2.n = p :: c1.n := y1.n
        have hpn : p ∈ c2.n := by rw [hn]; exact List.mem_cons_self
        have out := rh1.out hp
        have hp2 : H2 p = some (.lst vs) := y1.old p _ out.1 out.2.2 upd_same
        refine q1 (.ref p :: ws) _ H2 (fin y1) (y2.car (move_car hn) (move_own hn)) (move_relH hn y3) ⟨.ref p, ws, rfl, ⟨p, vs, rfl, List.mem_cons_self, out.2.1, hp2, ((r1.car (Car.lock hp)).car y1.car).car (move_car hn)⟩, fun _ p' _ e => ?_, y4.car (move_car hn) (move_own hn)⟩
        cases e
        refine ⟨fun j as ej sj => ?_, ?_⟩
        · obtain ⟨p3, us, e3, g1, g2, _⟩ := y2.sl j _ _ ej sj
          have : p = p3 := by injection e3 with e3; injection e3
          subst this
          exact g2 hpn
        · have ap : ∀ {zs : List Sl} {us : List V}, RelM X.K c2 H2 sd2 s zs us → Apart p zs us := fun {zs} => by
            induction zs with
            | nil => intro us _ j as e; simp at e
            | cons z zs ih =>
              intro us ⟨v, r, e, f1, f2, f3⟩ j as ej vj
              subst e
              cases j with
              | zero =>
                simp at ej vj
                subst ej; subst vj
                obtain ⟨p3, us, e3, g1, g2, _⟩ := f1
                have : p = p3 := by injection e3 with e3; injection e3
                subst this
                exact g2 hpn
              | succ j => exact ih f3 j as (by simpa using ej) (by simpa using vj)
          exact ap y4⟩
theorem RelS.setM {i : Nat} {x : Sl} {v : V} (r : RelS K c H sd s) (rx : RelSl K c H x (some v)) (no : ∀ ds p, x = .own ds → v = .ref p → NoOwn sd s p) : RelS K c H (sd.set i x) (s.set i (some v)) := by
  cases x with
  | no => exact r.none (some v)
  | val d =>
    obtain ⟨w, e, rw'⟩ := rx
    cases e
    exact r.set rw'
  | own ds =>
    obtain ⟨p, vs, e, h1, h2, h3, h4⟩ := rx
    cases e
    exact r.setO h1 h2 h3 h4 (no ds p rfl rfl)
def setAll : List Nat → List Sl → Sd → Sd
  | i :: is, x :: xs, s => setAll is xs (s.set i x)
  | _, _, s => s
def setAllV : List Nat → List V → L2.St → L2.St
  | i :: is, x :: xs, s => setAllV is xs (s.set i (some x))
  | _, _, s => s
theorem RelS.setAll : ∀ {is : List Nat} {xs : List Sl} {vs : List V} {sd : Sd} {s : L2.St}, is.Nodup → RelS K c H sd s → RelM K c H sd s xs vs → RelS K c H (Dm.setAll is xs sd) (setAllV is vs s)
  | [], xs, vs, sd, s, _, r, m => by
    cases xs <;> cases vs <;> exact r
  | i :: is, [], vs, sd, s, _, r, m => by cases m; exact r
  | i :: is, x :: xs, vs, sd, s, nd, r, ⟨v, vr, e, h1, h2, h3⟩ => by
    subst e
    show RelS K c H (Dm.setAll is xs (sd.set i x)) (setAllV is vr (s.set i (some v)))
    refine RelS.setAll (List.nodup_cons.mp nd).2 (r.setM h1 fun ds p e1 e2 => (h2 ds p e1 e2).1) ?_
    have go : ∀ {zs : List Sl} {us : List V}, RelM K c H sd s zs us → (∀ ds p, x = .own ds → v = .ref p → Apart p zs us) → RelM K c H (sd.set i x) (s.set i (some v)) zs us := fun {zs} => by
      induction zs with
      | nil => intro us m _; exact m
      | cons z zs ih =>
        intro us ⟨w, ur, e, f1, f2, f3⟩ ap
        subst e
        refine ⟨w, ur, rfl, f1, fun ds p e1 e2 => ⟨fun j as ej sj => ?_, (f2 ds p e1 e2).2⟩, ih f3 fun ds p e1 e2 j as ej => by
          have := ap ds p e1 e2 (j + 1) as (by simpa using ej)
          simpa using this⟩
        by_cases hj : j = i
        · subst hj
          have hl : j < s.length := by have := (List.getElem?_eq_some_iff.mp sj).1; simpa using this
          rw [List.getElem?_set_self (by rw [r.len]; exact hl)] at ej
          rw [List.getElem?_set_self hl] at sj
          have hx : x = .own as := by injection ej
          have hv : v = .ref p := by injection sj with sj; injection sj
          have := ap as p hx hv 0 ds (by simp [e1])
          exact this (by simp [e2])
        · rw [List.getElem?_set_ne (Ne.symm hj)] at ej sj
          exact (f2 ds p e1 e2).1 j as ej sj
    exact go h3 fun ds p e1 e2 => (h2 ds p e1 e2).2
def mPar (is : List Nat) (m : M (List Sl)) : M Fl := fun s h => (m s h).bind fun xs s h => if xs.length = is.length then .ok .nx (setAll is xs s) h else .bad
theorem lift_par {mg : Str → Option Value} {is : List Nat} (nd : is.Nodup) (E : Ends) (s : L2.St) (H : Hp) : lS K mg W (mPar is ms) E s H → lM K mg W ms s H (fun vs H1 => vs.length = is.length ∧ ∀ H2, Grow H1 H2 → E.nx (setAllV is vs s) H2) := fun ⟨c, sd, h, rs, rh, q⟩ => ⟨c, sd, h, rs, rh, by
    unfold mPar at q
    cases e1 : ms sd h with
    | bad => rw [e1] at q; exact q.elim
    | exc x fs sd1 h1 => rw [e1] at q; exact fun cls dx c2 H2 y1 y2 y3 y4 => q s cls dx c2 H2 y1 y2 y3 y4
    | ok xs sd1 h1 =>
      rw [e1] at q
      intro vs c1 H1 x1 rs1 rh1 r1
      have q1 : OutS K mg c H E W (if xs.length = is.length then .ok .nx (setAll is xs sd1) h1 else .bad) := q
      by_cases hl : xs.length = is.length
      · rw [if_pos hl] at q1
        refine ⟨by rw [← r1.len]; exact hl, fun H2 g => ?_⟩
        exact q1 _ c1 H2 (x1.trans (Ext.grow g)) ((rs1.setAll nd r1).grow g) (rh1.grow g)
      · rw [if_neg hl] at q1
        exact q1.elim⟩
theorem s_par2 {i j : Nat} {x y : Str} {a b : Expr} {px py pt pos pt2 : Pos} {kt k2 : Nat} (hc : X.calm = true) (hN : X.N.Nodup) (ha : PA X [a, b] (lM X.K X.mg W ms)) (hij : i ≠ j := by decide) (hi : X.N[i]? = some x := by rfl) (hj : X.N[j]? = some y := by rfl)
    (hx : X.env.scope.names.lookup x = some .local := by rfl) (hy : X.env.scope.names.lookup y = some .local := by rfl) (hw : swappedStores [.Tuple [.Name x px, .Name y py] kt pt] (.Tuple [a, b] k2 pt2) X.env = pure (some [x, y]) := by rfl)
    (hs : swapsWithSole [.Tuple [.Name x px, .Name y py] kt pt] (.Tuple [a, b] k2 pt2) pos.line X.env = pure false := by rfl) : PS X (.Assign [.Tuple [.Name x px, .Name y py] kt pt] (.Tuple [a, b] k2 pt2) pos) (lS X.K X.mg W (mPar [i, j] ms)) :=
  ps_imp (ps_par hc hN hi hj hij hx hy ha hw hs) fun E s H q => by
    obtain ⟨c, sd, h, rs, rh, o⟩ := lift_par (by simp [hij]) E s H q
    refine ⟨c, sd, h, rs, rh, ?_⟩
    cases e1 : ms sd h with
    | bad => rw [e1] at o; exact o.elim
    | exc x fs sd1 h1 => rw [e1] at o; exact o
    | ok xs sd1 h1 =>
      rw [e1] at o
      intro vs c1 H1 x1 rs1 rh1 r1
      obtain ⟨l, n⟩ := o vs c1 H1 x1 rs1 rh1 r1
      match vs, l with
      | [v, w], _ => exact ⟨v, w, rfl, n H1 fun _ _ z => z⟩
theorem s_par3 {i j l : Nat} {x y z : Str} {a b e : Expr} {px py pz pt pos pt2 : Pos} {kt k2 : Nat} (hc : X.calm = true) (hN : X.N.Nodup) (ha : PA X [a, b, e] (lM X.K X.mg W ms)) (hij : i ≠ j := by decide) (hil : i ≠ l := by decide) (hjl : j ≠ l := by decide) (hi : X.N[i]? = some x := by rfl) (hj : X.N[j]? = some y := by rfl) (hl : X.N[l]? = some z := by rfl)
    (hx : X.env.scope.names.lookup x = some .local := by rfl) (hy : X.env.scope.names.lookup y = some .local := by rfl) (hz : X.env.scope.names.lookup z = some .local := by rfl) (hw : swappedStores [.Tuple [.Name x px, .Name y py, .Name z pz] kt pt] (.Tuple [a, b, e] k2 pt2) X.env = pure (some [x, y, z]) := by rfl)
    (hs : swapsWithSole [.Tuple [.Name x px, .Name y py, .Name z pz] kt pt] (.Tuple [a, b, e] k2 pt2) pos.line X.env = pure false := by rfl) : PS X (.Assign [.Tuple [.Name x px, .Name y py, .Name z pz] kt pt] (.Tuple [a, b, e] k2 pt2) pos) (lS X.K X.mg W (mPar [i, j, l] ms)) :=
  ps_imp (ps_par3 hc hN hi hj hl hij hil hjl hx hy hz ha hw hs) fun E s H q => by
    obtain ⟨c, sd, h, rs, rh, o⟩ := lift_par (by simp [hij, hil, hjl]) E s H q
    refine ⟨c, sd, h, rs, rh, ?_⟩
    cases e1 : ms sd h with
    | bad => rw [e1] at o; exact o.elim
    | exc x fs sd1 h1 => rw [e1] at o; exact o
    | ok xs sd1 h1 =>
      rw [e1] at o
      intro vs c1 H1 x1 rs1 rh1 r1
      obtain ⟨l, n⟩ := o vs c1 H1 x1 rs1 rh1 r1
      match vs, l with
      | [v, w, u], _ => exact ⟨v, w, u, rfl, n H1 fun _ _ z => z⟩
end
section
variable {P : Program} {w : World} {K : PySem.W.Frag} {mg mb : Str → Option Value}
theorem ro_rel {c : C} {H : Hp} (ns : List Int) : RelL K c H (ns.map D.int) (ns.map V.int) := by
  induction ns with
  | nil => rfl
  | cons n ns ih => exact ⟨_, _, rfl, rfl, ih⟩
theorem only_rel {H : Hp} {a : Addr} {ns : List Int} (hS : SqL K H a (ns.map V.int)) : Rel K ⟨[], [], []⟩ H (.ro (ns.map D.int)) (.ref a) := by
  refine ⟨a, _, rfl, ?_, ro_rel ns⟩
  rcases hS with h | h
  · exact .inl ⟨⟨fun q => (nomatch q), fun q => (nomatch q), fun q => (nomatch q)⟩, h⟩
  · exact .inr h
def LawOk (s : Shared) (r : Result) (t : Shared) : Prop := r = .ok (.ret (.bool true)) ∧ OldK s.heap t.heap ∧ t.os = s.os ∧ AllBare t.gens
theorem law_run {k : Nat} {fa a : Addr} {fd : FuncData} {x : Str} {mf : MF} {s : Shared} {vs : List Value} {ns : List Int} {hd : Hd}
    (KX : K.In s.heap) (hns : s.heap.Ns mainGlobals mg) (hb : s.heap.Ns builtinsNs mb) (hbb : ∀ y : Str, y ≠ "__name__" → mb y = bootBuiltins y) (lim : s.heap.NoLimit) (hg : s.gens = #[])
    (ha : s.heap.get? a = some { cls := .type "list", data := .seq vs.toArray }) (hi : IntsAre vs ns) (hl : ns.length ≤ sizeLine) (hr : Room k callerA)
    (F : ∀ base : Heap, K.In base → base.Ns mainGlobals mg → FOk True P w K mg base k fa fd [x] mf) (bind : ∀ (t : Shared) (u : Value), BindsTo t fd ⟨[u], []⟩ [(x, u)])
    (ok : mf [.ro (ns.map D.int)] [] = .ok (.bl true) [] hd) : codeAny (model P w) callerA (.call (.ref fa) ⟨[.ref a], []⟩) (LawOk s) s := by
  have main : ∀ H : Hp, (∀ b u, H b = some u → b = a ∧ K.lookup a = none ∧ ∃ ob ys, u = .frz ob (.lst ys)) → SqL K H a (ns.map V.int) → HOk P w H s.heap → codeAny (model P w) callerA (.call (.ref fa) ⟨[.ref a], []⟩) (LawOk s) s := by
    intro H only sq hok
    have free : ∀ {b : Addr} {o : Obj}, s.heap.get? b = some o → (∀ ys n, o.data ≠ .seq ys n) → H b = none := fun {b o} e nd => by
      cases q : H b with
      | none => rfl
      | some u =>
        obtain ⟨e1, _⟩ := only b u q
        rw [e1, ha] at e
        cases e
        exact (nd _ _ rfl).elim
    have nsB : ∀ {b : Addr} {m : Str → Option Value}, s.heap.Ns b m → (hidT s.heap H).Ns b m := fun {b m} z => by
      obtain ⟨o, es, ep, e, d, r⟩ := z
      exact ⟨o, es, ep, hidT_get e (free e fun ys n z => by rw [d] at z; cases z), d, r⟩
    have inB : K.In (hidT s.heap H) := fun b o e => by
      refine hidT_get (KX b o e) ?_
      cases q : H b with
      | none => rfl
      | some u =>
        obtain ⟨e1, e2, _⟩ := only b u q
        rw [e1, e2] at e
        cases e
    have md : Mod K mg (hidT s.heap H) := ⟨inB, nsB hns, ⟨mb, nsB hb, hbb⟩, by obtain ⟨mc, z1, z2⟩ := lim; exact ⟨mc, nsB z1, z2⟩⟩
    have en : Env0 P w K mg (hidT s.heap H) callerA [] s H :=
      { frames := rfl, mod := md, bs := fun b o e => of_hidT e, bsz := Nat.le_of_eq (hidT_size _ _), funs := trivial, frf := fun b hb => (nomatch hb), hok := hok, bare := .of_eq hg }
    have sp : spM K mg 1 mf [.ref a] H (fun v _ => v = .bl true) (fun _ _ _ => False) := by
      refine ⟨⟨[], [], []⟩, [], [.ro (ns.map D.int)], rfl, ⟨rfl, List.nodup_nil, fun a z => (nomatch z), fun a z => z.elim (fun q => (nomatch q)) fun q => (nomatch q), fun i o a e => by simp at e⟩, RelL.one (only_rel sq), rfl, ?_⟩
      rw [ok]
      exact fun v c' H' _ _ _ r => r
    refine codeAny_mono ((F _ inB (nsB hns)).run callerA [] s H ⟨[.ref a], []⟩ [.ref a] [.ref a] _ _ hr (fun _ => rfl) en (bind s (.ref a)) (.cons rfl .nil) sp) fun r t ht => ?_
    cases r with
    | error e =>
      obtain ⟨_, _, _, _, _, _, _, _, _, _, _, _, z⟩ := ht
      exact z.elim
    | ok fl =>
      cases fl with
      | ret u =>
        obtain ⟨v, H', os, bare, un, hok', rv, qv⟩ := ht
        have qv' : v = .bl true := qv
        subst qv'
        have eu : u = Value.bool true := rv
        subst eu
        refine ⟨rfl, OldK.of_keep fun b o e => ?_, os, bare⟩
        cases q : H b with
        | none => exact un.keep b o e q (fun z => (nomatch z)) (fun z => (nomatch z))
        | some u =>
          obtain ⟨_, _, ob, ys, z⟩ := only b u q
          subst z
          have f1 := (hok b _ q).1
          have f2 := (hok' b _ (un.frzs b ob _ q)).1
          rw [e] at f1
          cases f1
          exact f2
      | next => exact ht.elim
      | brk => exact ht.elim
      | cont => exact ht.elim
  have rv := vals_ints hi
  have ln := hi.length
  cases hk : K.lookup a with
  | some o =>
    have e := KX a o hk
    rw [ha] at e
    cases e
    refine main (fun _ => none) (fun b u z => (nomatch z)) (.inr ⟨_, vs.toArray, _, hk, rfl, rfl, rfl, ?_, ?_⟩) fun b u z => (nomatch z)
    · rw [List.size_toArray, ln]; exact hl
    · simpa using rv
  | none =>
    let ob : Obj := { cls := .type "list", data := .seq vs.toArray }
    let H : Hp := fun b => if b = a then some (.frz ob (.lst (ns.map V.int))) else none
    have Ha : H a = some (.frz ob (.lst (ns.map V.int))) := if_pos rfl
    have Hb : ∀ b u, H b = some u → b = a ∧ u = .frz ob (.lst (ns.map V.int)) := fun b u z => by
      by_cases hb : b = a
      · subst hb
        rw [Ha] at z
        cases z
        exact ⟨rfl, rfl⟩
      · have z2 : H b = none := if_neg hb
        rw [z2] at z
        cases z
    refine main H (fun b u z => ⟨(Hb b u z).1, hk, ob, _, (Hb b u z).2⟩) (.inl (.inr ⟨ob, Ha⟩)) fun b u z => ?_
    obtain ⟨e1, e2⟩ := Hb b u z
    subst e1; subst e2
    exact ⟨ha, by rw [List.length_map]; exact hl, vs, _, rv, ha⟩
end
theorem law_end {l : PySem.W.OpenLaw} {n k : Nat} {q : Program} {loose : List Str} {XP : (Str → Option Value) → Heap → Prop} {YP : World → Heap → Prop} {d : DefRec} {x : Str}
    (hn : l.most = some n) (hn2 : n ≤ sizeLine) (hdf : d.params.defaults = []) (hr : Room k callerA)
    (F : ∀ (w : World) (mg : Str → Option Value) (fa : Addr) (h : Heap), YP w h → h.Ns mainGlobals mg → mg d.name = some (.ref fa) → ∃ (K : PySem.W.Frag) (fd : FuncData) (mf : MF), K.In h ∧
      (∀ (t : Shared) (u : Value), BindsTo t fd ⟨[u], []⟩ [(x, u)]) ∧ (∀ ns : List Int, ns.length ≤ n → ∃ hd, mf [.ro (ns.map D.int)] [] = .ok (.bl true) [] hd) ∧
      ∀ base : Heap, K.In base → base.Ns mainGlobals mg → FOk True l.prog w K mg base k fa fd [x] mf) :
    PySem.W.WalkO q loose XP YP l.row.toRowW d [] (fun f vs => PySem.call f vs) := by
  refine Att.attach_call hn hdf fun w s0 s1 mg mb fa o pm cd doc a vs ns G Y _ _ _ hmg hobj hints hlen hg => ?_
  obtain ⟨K, fd, mf, KX, hb, hmf, hF⟩ := F w mg fa _ Y G.T.g hmg
  obtain ⟨hd, ok⟩ := hmf ns hlen
  exact law_run KX G.T.g G.T.b G.T.builtins G.T.nolimit hg hobj hints (Nat.le_trans hlen hn2) hr hF hb ok
end Dm
end
section
namespace Dm
open PySem L2
section
variable {A B : Type} {s : Sd} {h : Hd} {a b e : M D} {t u : M Bool} {m n : M Fl} {ms : M (List D)} {i : Nat} {d : D}
@[simp] theorem bind_ok {x : A} {f : A → Sd → Hd → Res B} : (Res.ok x s h).bind f = f x s h := Eq.trans rfl rfl
@[simp] theorem bind_exc {y : Str} {fs : List (Str × D)} {f : A → Sd → Hd → Res B} : (Res.exc y fs s h : Res A).bind f = .exc y fs s h := Eq.trans rfl rfl
@[simp] theorem bind_bad {f : A → Sd → Hd → Res B} : (Res.bad : Res A).bind f = .bad := Eq.trans rfl rfl
@[simp] theorem bd_ok {x : A} {f : A → Sd → Hd → Res B} : (Res.ok x s h).bd f = f x s h := Eq.trans rfl rfl
@[simp] theorem only_ok {f : Sd → Hd → Res B} : (Res.ok () s h).only f = f s h := Eq.trans rfl rfl
@[simp] theorem mC_ap : mC d s h = .ok d s h := Eq.trans rfl rfl
@[simp] theorem mVar_ap : mVar i s h = (match s[i]? with | some (.val d) => .ok d s h | _ => .bad) := Eq.trans rfl rfl
@[simp] theorem mOf_some {x : A} : mOf (some x) s h = .ok x s h := Eq.trans rfl rfl
@[simp] theorem mUn_ap {f : Hd → D → Option D} : mUn f a s h = (a s h).bind fun x s h => mOf (f h x) s h := Eq.trans rfl rfl
@[simp] theorem mBin_ap {f : Hd → D → D → Option D} : mBin f a b s h = (a s h).bind fun x s h => (b s h).bind fun y s h => mOf (f h x y) s h := Eq.trans rfl rfl
@[simp] theorem mNil_ap : mNil s h = .ok [] s h := Eq.trans rfl rfl
@[simp] theorem mCons_ap : mCons a ms s h = (a s h).bind fun x s h => (ms s h).bind fun xs s h => .ok (x :: xs) s h := Eq.trans rfl rfl
@[simp] theorem mTup_ap : mTup ms s h = (ms s h).bind fun xs s h => if xs.length ≤ 100000 then .ok (.tup xs) s h else .bad := Eq.trans rfl rfl
@[simp] theorem mTest_ap : mTest a s h = (a s h).bind fun x s h => match x with | .bl b => .ok b s h | _ => .bad := Eq.trans rfl rfl
@[simp] theorem mAnd_ap : mAnd t u s h = (t s h).bind fun x s h => bif x then u s h else .ok false s h := Eq.trans rfl rfl
@[simp] theorem mOr_ap : mOr t u s h = (t s h).bind fun x s h => bif x then .ok true s h else u s h := Eq.trans rfl rfl
@[simp] theorem mNot_ap : mNot t s h = (t s h).bind fun x s h => .ok (!x) s h := Eq.trans rfl rfl
@[simp] theorem mIf_ap {x y : M A} : mIf t x y s h = (t s h).bind fun k s h => bif k then x s h else y s h := Eq.trans rfl rfl
@[simp] theorem mCall_ap {f : MF} : mCall f ms s h = (ms s h).bind fun xs s h => match f xs h with | .ok d _ h => .ok d s h | .exc x fs _ h => .exc x fs s h | .bad => .bad := Eq.trans rfl rfl
@[simp] theorem mCB_ap {f : Hd → List D → Option D} : mCB f ms s h = (ms s h).bind fun xs s h => mOf (f h xs) s h := Eq.trans rfl rfl
@[simp] theorem mNoP_ap : mNoP s h = .ok none s h := Eq.trans rfl rfl
@[simp] theorem mPart_ap : mPart a s h = (a s h).bind fun x s h => match x with | .int i => .ok (some i) s h | _ => .bad := Eq.trans rfl rfl
@[simp] theorem mVal_ap : mVal ms s h = (ms s h).bind fun xs s h => .ok (.lst xs) s h := Eq.trans rfl rfl
@[simp] theorem mMat_ap : mMat ms s h = (ms s h).bind fun xs s h => .ok (.ref h.length) s (h ++ [.lst xs]) := Eq.trans rfl rfl
@[simp] theorem mLst_ap : mLst ms s h = (ms s h).bind fun xs s h => if xs.length ≤ 100000 then .ok xs s h else .bad := Eq.trans rfl rfl
@[simp] theorem mNx_ap : mNx s h = .ok .nx s h := Eq.trans rfl rfl
@[simp] theorem mSeq_ap : mSeq m n s h = (m s h).bind fun f s h => match f with | .nx => n s h | f => .ok f s h := Eq.trans rfl rfl
@[simp] theorem mDrop_ap : mDrop a s h = (a s h).bind fun _ s h => .ok .nx s h := Eq.trans rfl rfl
@[simp] theorem mRet_ap : mRet a s h = (a s h).bind fun d s h => .ok (.rt d) s h := Eq.trans rfl rfl
@[simp] theorem mAsg_ap : mAsg i a s h = (a s h).bind fun d s h => .ok .nx (s.set i (.val d)) h := Eq.trans rfl rfl
@[simp] theorem mOwn_ap : mOwn i ms s h = (ms s h).bind fun xs s h => .ok .nx (s.set i (.own xs)) h := Eq.trans rfl rfl
@[simp] theorem mFrz_ap : mFrz i s h = (match s[i]? with | some (.own xs) => .ok .nx (s.set i (.val (.lst xs))) h | _ => .bad) := Eq.trans rfl rfl
@[simp] theorem gN_ap : gN i d s h = .ok () (s.set i (.val d)) h := Eq.trans rfl rfl
@[simp] theorem mAsgG_ap {g : D → M Unit} : mAsgG a g s h = (a s h).bind fun d s h => (g d s h).only fun s h => .ok .nx s h := Eq.trans rfl rfl
@[simp] theorem mIter_ap : mIter a s h = (a s h).bind fun d s h => match d with | .tup xs => .ok xs s h | .lst xs => .ok xs s h | .ro xs => .ok xs s h | _ => .bad := Eq.trans rfl rfl
@[simp] theorem mRg1_ap : mRg1 ms s h = (ms s h).bind fun xs s h => match xs with | [.int j] => if small j then .ok (rg 0 j.toNat) s h else .bad | _ => .bad := Eq.trans rfl rfl
@[simp] theorem mRg2_ap : mRg2 ms s h = (ms s h).bind fun xs s h => match xs with | [.int i, .int j] => if small i && small j then .ok (rg i (j - i).toNat) s h else .bad | _ => .bad := Eq.trans rfl rfl
@[simp] theorem mFor_ap {g : D → M Unit} : mFor ms g m s h = (ms s h).bind fun xs s h => loop g m xs s h := Eq.trans rfl rfl
@[simp] theorem mComp_ap {vs : List Nat} {g : D → M Unit} : mComp ms vs g t e s h = (ms s h).bind fun xs s0 h => (cloop vs g t e xs [] (wipeD s0 vs) h).bd fun ys s1 h => .ok ys (backD s0 s1 vs) h := Eq.trans rfl rfl
@[simp] theorem mYes_ap : mYes s h = .ok true s h := Eq.trans rfl rfl
@[simp] theorem mWhile_ap {fu : Sd → Hd → Nat} : mWhile fu t m s h = wloop t m (fu s h) s h := Eq.trans rfl rfl
@[simp] theorem mSl_ap {l u : M (Option Int)} : mSl a l u s h = (a s h).bind fun x s h => (l s h).bind fun lo s h => (u s h).bind fun hi s h => mOf (slD h x lo hi) s h := Eq.trans rfl rfl
@[simp] theorem mListOf_ap : mListOf ms s h = (ms s h).bind fun xs s h => match xs with | [x] => mOf (seqOf h x) s h | _ => .bad := Eq.trans rfl rfl
@[simp] theorem mListRg1_ap : mListRg1 a s h = (a s h).bind fun x s h => match x with | .int n => if small n then .ok (rg 0 n.toNat) s h else .bad | _ => .bad := Eq.trans rfl rfl
@[simp] theorem mListRg2_ap : mListRg2 a b s h = (a s h).bind fun x s h => (b s h).bind fun y s h => match x, y with | .int i, .int j => if small i && small j then .ok (rg i (j - i).toNat) s h else .bad | _, _ => .bad := Eq.trans rfl rfl
@[simp] theorem mRep_ap : mRep ms b s h = (ms s h).bind fun xs s h => (b s h).bind fun y s h => match y with | .int k => if small k && decide (xs.length * k.toNat ≤ 100000) then .ok (repL xs k.toNat) s h else .bad | _ => .bad := Eq.trans rfl rfl
@[simp] theorem mAppO_ap : mAppO i a s h = (match ownAt s i with | none => .bad | some _ => (a s h).bind fun d s h => match ownAt s i with | none => .bad | some xs => if xs.length < 100000 then .ok .non (s.set i (.own (xs ++ [d]))) h else .bad) := Eq.trans rfl rfl
@[simp] theorem mLenO_ap : mLenO i s h = (match ownAt s i with | none => .bad | some xs => .ok (.int xs.length) s h) := Eq.trans rfl rfl
@[simp] theorem mPn_ap : mPn s h = .ok [] s h := Eq.trans rfl rfl
@[simp] theorem mPv_ap {r : M (List Sl)} : mPv a r s h = (a s h).bind fun d s h => (r s h).bind fun xs s h => .ok (.val d :: xs) s h := Eq.trans rfl rfl
@[simp] theorem mPo_ap {r : M (List Sl)} : mPo ms r s h = (ms s h).bind fun ds s h => (r s h).bind fun xs s h => .ok (.own ds :: xs) s h := Eq.trans rfl rfl
@[simp] theorem mPar_ap {is : List Nat} {r : M (List Sl)} : mPar is r s h = (r s h).bind fun xs s h => if xs.length = is.length then .ok .nx (setAll is xs s) h else .bad := Eq.trans rfl rfl
@[simp] theorem setAll_nil {s : Sd} : setAll [] [] s = s := Eq.trans rfl rfl
@[simp] theorem setAll_cons {is : List Nat} {x : Sl} {xs : List Sl} {s : Sd} : setAll (i :: is) (x :: xs) s = setAll is xs (s.set i x) := Eq.trans rfl rfl
@[simp] theorem mSetR_ap : mSetR a b e s h = (e s h).bind fun v s h => (a s h).bind fun o s h => (b s h).bind fun k s h => match o, k with
  | .ref i, .int k => (match h[i]? with
    | some (.lst xs) => (match ixN xs.length k with
      | some j => .ok .nx s (h.set i (.lst (xs.set j v)))
      | none => .bad)
    | _ => .bad)
  | _, _ => .bad := Eq.trans rfl rfl
@[simp] theorem fnM_ap {k : Nat} {ds : List D} : fnM k m ds h = fin (m (startD k ds) h) := Eq.trans rfl rfl
@[simp] theorem fin_rt : fin (.ok (.rt d) s h) = .ok d [] h := Eq.trans rfl rfl
@[simp] theorem fin_nx : fin (.ok .nx s h) = .ok .non [] h := Eq.trans rfl rfl
@[simp] theorem ownAt_ap : ownAt s i = (match s[i]? with | some (.own xs) => some xs | _ => none) := Eq.trans rfl rfl
end
theorem seq_nx {m n : M Fl} {s s1 : Sd} {h h1 : Hd} (e : m s h = .ok .nx s1 h1) : mSeq m n s h = n s1 h1 := by
  rw [mSeq_ap, e]
  rfl
theorem seq_rt {m n : M Fl} {s s1 : Sd} {h h1 : Hd} {d : D} (e : m s h = .ok (.rt d) s1 h1) : mSeq m n s h = .ok (.rt d) s1 h1 := by
  rw [mSeq_ap, e]
  rfl
theorem s64_of {i : Int} (h1 : -18446744073709551616 < i) (h2 : i < 18446744073709551616) : s64 i = true := s64_iff.mpr ⟨h1, h2⟩
theorem bnd_of {i : Int} (h1 : -(10 ^ 400) ≤ i) (h2 : i ≤ 10 ^ 400) : bnd i = true := by
  have := big_lt
  exact bnd_iff.mpr ⟨by omega, by omega⟩
@[simp] theorem add_int {h : Hd} {i j : Int} : addD h (.int i) (.int j) = some (.int (i + j)) := Eq.trans rfl rfl
@[simp] theorem sub_int {h : Hd} {i j : Int} : subD h (.int i) (.int j) = some (.int (i - j)) := Eq.trans rfl rfl
@[simp] theorem lt_int {h : Hd} {i j : Int} : ltD h (.int i) (.int j) = some (.bl (decide (i < j))) := Eq.trans rfl rfl
@[simp] theorem le_int {h : Hd} {i j : Int} : leD h (.int i) (.int j) = some (.bl (decide (i ≤ j))) := Eq.trans rfl rfl
@[simp] theorem gt_int {h : Hd} {i j : Int} : gtD h (.int i) (.int j) = some (.bl (decide (j < i))) := Eq.trans rfl rfl
@[simp] theorem ge_int {h : Hd} {i j : Int} : geD h (.int i) (.int j) = some (.bl (decide (j ≤ i))) := Eq.trans rfl rfl
@[simp] theorem eq_int {h : Hd} {i j : Int} : eqD h (.int i) (.int j) = some (.bl (decide (i = j))) := Eq.trans rfl rfl
@[simp] theorem ne_int {h : Hd} {i j : Int} : neD h (.int i) (.int j) = some (.bl (!decide (i = j))) := Eq.trans rfl rfl
@[simp] theorem eq_str {h : Hd} {i j : Str} : eqD h (.str i) (.str j) = some (.bl (decide (i = j))) := Eq.trans rfl rfl
@[simp] theorem ne_str {h : Hd} {i j : Str} : neD h (.str i) (.str j) = some (.bl (!decide (i = j))) := Eq.trans rfl rfl
@[simp] theorem neg_int {h : Hd} {i : Int} : negD h (.int i) = some (.int (-i)) := Eq.trans rfl rfl
theorem mul_l {h : Hd} {i j : Int} (hi : s64 i = true) : mulD h (.int i) (.int j) = some (.int (i * j)) := by simp [mulD, hi]
theorem mul_r {h : Hd} {i j : Int} (hi : s64 j = true) : mulD h (.int i) (.int j) = some (.int (i * j)) := by simp [mulD, hi]
theorem mod_p {h : Hd} {i j : Int} (hj : 0 < j) : modD h (.int i) (.int j) = some (.int (i % j)) := by simp [modD, hj]
theorem fdv_p {h : Hd} {i j : Int} (hj : 0 < j) (hb : bnd j = true) : fdvD h (.int i) (.int j) = some (.int (i / j)) := by simp [fdvD, hj, hb]
theorem pow_p {h : Hd} {i j : Int} (hi : s64 i = true) (h0 : 0 ≤ j) (h1 : j ≤ 1000) : powD h (.int i) (.int j) = some (.int (i ^ j.toNat)) := by simp [powD, hi, h0, h1]
theorem small_of {i : Int} (h0 : -100000 ≤ i) (h1 : i ≤ 100000) : small i = true := by simp [small, h0, h1]
@[simp] theorem view_lst' {h : Hd} {xs : List D} : view h (.lst xs) = .lst xs := Eq.trans rfl rfl
@[simp] theorem view_tup' {h : Hd} {xs : List D} : view h (.tup xs) = .tup xs := Eq.trans rfl rfl
@[simp] theorem view_ro' {h : Hd} {xs : List D} : view h (.ro xs) = .ro xs := Eq.trans rfl rfl
@[simp] theorem view_ref {h : Hd} {i : Nat} {xs : List D} (e : h[i]? = some (.lst xs)) : view h (.ref i) = .lst xs := by simp [view, e]
@[simp] theorem int_int {h : Hd} {i : Int} : intD h [.int i] = some (.int i) := Eq.trans rfl rfl
@[simp] theorem int_bl {h : Hd} {b : Bool} : intD h [.bl b] = some (.int (if b then 1 else 0)) := Eq.trans rfl rfl
@[simp] theorem len_lst {h : Hd} {xs : List D} : lenD h [.lst xs] = some (.int xs.length) := Eq.trans rfl rfl
@[simp] theorem len_tup {h : Hd} {xs : List D} : lenD h [.tup xs] = some (.int xs.length) := Eq.trans rfl rfl
@[simp] theorem ix_lst {h : Hd} {xs : List D} {i : Int} : ixD h (.lst xs) (.int i) = atI xs i := Eq.trans rfl rfl
@[simp] theorem ix_tup {h : Hd} {xs : List D} {i : Int} : ixD h (.tup xs) (.int i) = atI xs i := Eq.trans rfl rfl
@[simp] theorem tup_lst {h : Hd} {xs : List D} : tupD h [.lst xs] = some (.tup xs) := Eq.trans rfl rfl
@[simp] theorem tup_tup {h : Hd} {xs : List D} : tupD h [.tup xs] = some (.tup xs) := Eq.trans rfl rfl
@[simp] theorem max_int {h : Hd} {i j : Int} : maxD h [.int i, .int j] = some (.int (if j > i then j else i)) := Eq.trans rfl rfl
@[simp] theorem min_int {h : Hd} {i j : Int} : minD h [.int i, .int j] = some (.int (if j < i then j else i)) := Eq.trans rfl rfl
theorem atI_in {xs : List D} {i : Int} {d : D} (h0 : 0 ≤ i) (h1 : xs[i.toNat]? = some d) : atI xs i = some d := by
  have e : ((i.toNat : Nat) : Int) = i := by omega
  rw [← e]
  exact atI_nat h1
theorem atI_int {ns : List Int} {i : Int} (h0 : 0 ≤ i) (h1 : i < ns.length) : atI (ns.map D.int) i = some (.int (ns.getD i.toNat 0)) := by
  refine atI_in h0 ?_
  have hl : i.toNat < ns.length := by omega
  simp [List.getElem?_map, List.getD_eq_getElem?_getD, hl]
theorem loop_ok {g : D → M Unit} {b : M Fl} : ∀ {xs : List D} {s : Sd} {h : Hd} (I : Nat → Sd → Hd → Prop), I 0 s h →
    (∀ (i : Nat) x s h, xs[i]? = some x → I i s h → ∃ s1 h1 s2 h2, g x s h = .ok () s1 h1 ∧ b s1 h1 = .ok .nx s2 h2 ∧ I (i + 1) s2 h2) → ∃ s' h', loop g b xs s h = .ok .nx s' h' ∧ I xs.length s' h'
  | [], s, h, I, h0, _ => ⟨s, h, rfl, h0⟩
  | x :: xs, s, h, I, h0, st => by
    obtain ⟨s1, h1, s2, h2, e1, e2, i1⟩ := st 0 x s h rfl h0
    obtain ⟨s', h', e3, i3⟩ := loop_ok (xs := xs) (s := s2) (h := h2) (fun i => I (i + 1)) i1 fun i y s h e => st (i + 1) y s h (by simpa using e)
    refine ⟨s', h', ?_, by simpa using i3⟩
    unfold loop
    rw [e1, only_ok, e2]
    exact e3
theorem cloop_ok {vs : List Nat} {g : D → M Unit} {e : M D} {xs : List D} {s : Sd} {h : Hd} (I : Nat → List D → Hd → Prop) (h0 : I 0 [] h) (hl : xs.length ≤ 1000)
    (st : ∀ (i : Nat) x acc h, xs[i]? = some x → acc.length = i → I i acc h → ∃ s1 d s2 h2, g x s h = .ok () s1 h ∧ e s1 h = .ok d s2 h2 ∧ wipeD s2 vs = s ∧ I (i + 1) (acc ++ [d]) h2) :
    ∃ ys h', cloop vs g mYes e xs [] s h = .ok ys s h' ∧ ys.length = xs.length ∧ I xs.length ys h' := by
  have go : ∀ (k : Nat) (zs : List D) (acc : List D) (h : Hd), xs.drop k = zs → k ≤ xs.length → acc.length = k → I k acc h → ∃ ys h', cloop vs g mYes e zs acc s h = .ok ys s h' ∧ ys.length = xs.length ∧ I xs.length ys h' := by
    intro k zs
    induction zs generalizing k with
    | nil =>
      intro acc h hd hk ha hi
      have ek : k = xs.length := by
        have := List.drop_eq_nil_iff.mp hd
        omega
      subst ek
      exact ⟨acc, h, rfl, ha, hi⟩
    | cons z zs ih =>
      intro acc h hd hk ha hi
      have hlt : k < xs.length := by
        have := congrArg List.length hd
        simp at this
        omega
      have ez : xs[k]? = some z := by
        have e2 := List.drop_eq_getElem_cons hlt
        rw [hd] at e2
        injection e2 with e2 e3
        rw [e2]
        exact List.getElem?_eq_getElem hlt
      have ed : xs.drop (k + 1) = zs := by
        have e2 := List.drop_eq_getElem_cons hlt
        rw [hd] at e2
        injection e2 with e2 e3
        exact e3.symm
      obtain ⟨s1, d, s2, h2, f1, f2, f3, f4⟩ := st k z acc h ez ha hi
      obtain ⟨ys, h', r1, r2, r3⟩ := ih (k + 1) (acc ++ [d]) h2 ed hlt (by simp [ha]) f4
      refine ⟨ys, h', ?_, r2, r3⟩
      unfold cloop
      rw [f1, only_ok]
      simp only [mYes_ap, bd_ok, cond_true, f2]
      rw [if_pos (by omega), f3]
      exact r1
  exact go 0 xs [] h rfl (Nat.zero_le _) rfl h0
end Dm
end
section
namespace Dm
open PySem PySem.Spec PyProof.Rows L2
theorem meets_enum_newT (l : Addr) (items : Array Value) (n : Nat) (dct : Option Addr) (sl : Array (Option Value)) :
    Meets (Builtin.«enumerate.__new__» ⟨[.type "enumerate", .ref l], []⟩) (fun _ R s => s.heap.get? l = some { cls := .type "tuple", dict := dct, data := .seq items n, slots := sl } ∧
      R (.ok (.ret (.ref (s.heap.push { cls := .type "tuple_iterator", data := .fields #[.ref l, .int 0 0] }).objs.size)))
        { s with heap := (s.heap.push { cls := .type "tuple_iterator", data := .fields #[.ref l, .int 0 0] }).push { cls := .type "enumerate", data := .fields #[.none, .bool false, .ref s.heap.objs.size, rawInt 0, .none, .none] } }) :=
  .of_wp fun prog w A R s h => by
    obtain ⟨hp, g, d, tk, os⟩ := s
    obtain ⟨hl, h⟩ := h
    have hsub := sub_enumerate
    have hT : Heap.IsTuple (Shared.heap ⟨hp, g, d, tk, os⟩) l items := ⟨_, hl, rfl, n, rfl⟩
    wp_walk using AutoSeq1.wpAny_loadPart' hl
    refine wpAny_stack_any fun st => wpAny_pure ?_
    split
    · rename_i c _ _ _ _ _
      cases (c == Value.type "enumerate")
      · wp_walk using AutoSeq1.wpAny_loadPart' hl, wpAny_pyIter_tuple hT
        exact ⟨_, rfl, h⟩
      · wp_walk using AutoSeq1.wpAny_loadPart' hl, wpAny_pyIter_tuple hT
        exact ⟨_, rfl, h⟩
    · wp_walk using AutoSeq1.wpAny_loadPart' hl, wpAny_pyIter_tuple hT
      exact ⟨_, rfl, h⟩
theorem call_enum_tuple {prog : Program} {w : World} {A : Around} {E : Value → Shared → Prop} {s : Shared} {l : Addr} {items : Array Value} {Q : Value → Shared → Prop} (hL : s.heap.IsTuple l items)
    (h : ∀ h', IsEnum h' (s.heap.objs.size + 1) s.heap.objs.size 0 .none → h'.IsTupleIter s.heap.objs.size l 0 → h'.objs.size = s.heap.objs.size + 2 →
      (∀ b o, s.heap.get? b = some o → h'.get? b = some o) → Q (.ref (s.heap.objs.size + 1)) { s with heap := h' }) :
    wpAny (model prog w) A (call (.type "enumerate") [.ref l]) Q E s := by
  obtain ⟨⟨c, dct, dt, sl⟩, hl, hc, n, hd⟩ := hL
  replace hc : c = .type "tuple" := hc
  replace hd : dt = .seq items n := hd
  subst hc hd
  refine callType_new F.called_enumerate (by decide) (F.typeCall_enumerate_1 _) (F.newCall_enumerate_1 _) (fun obj => F.args_object_init_2 obj _) F.entry_enumerate_new
    (meets_enum_newT l items n dct sl) ⟨hl, ?_⟩
  have hz : (s.heap.push { cls := .type "tuple_iterator", data := .fields #[.ref l, .int 0 0] }).objs.size = s.heap.objs.size + 1 := Heap.size_push ..
  show _ ∧ _
  rw [hz]
  have he : IsEnum ((s.heap.push { cls := .type "tuple_iterator", data := .fields #[.ref l, .int 0 0] }).push
      { cls := .type "enumerate", data := .fields #[.none, .bool false, .ref s.heap.objs.size, rawInt 0, .none, .none] }) (s.heap.objs.size + 1) s.heap.objs.size 0 .none := by
    have := Heap.get?_push_size (s.heap.push { cls := .type "tuple_iterator", data := .fields #[.ref l, .int 0 0] })
      (o := { cls := .type "enumerate", data := .fields #[.none, .bool false, .ref s.heap.objs.size, rawInt 0, .none, .none] }) rfl
    rw [hz] at this
    exact this
  refine ⟨⟨_, he, rfl⟩, h _ he ⟨_, Heap.get?_push_of_some _ (Heap.get?_push_size _ rfl), rfl, rfl⟩ (by rw [Heap.size_push, hz]) fun b o x => Heap.get?_push_of_some _ (Heap.get?_push_of_some _ x)⟩
theorem next_enumT_end {prog : Program} {w : World} {A : Around} {E : Value → Shared → Prop} {s : Shared} {e it l : Addr} {i : Nat} {items : Array Value} {old : Value} {Q : Option Value → Shared → Prop} (hh : A.handled = none)
    (he : IsEnum s.heap e it i old) (hit : s.heap.IsTupleIter it l i) (hl : s.heap.IsTuple l items) (hx : items[i]? = none)
    (hQ : ∀ h', Heap.ExtBut it s.heap h' → Q none { s with heap := h' }) : wpAny (model prog w) A (pyNext (.ref e)) Q E s := by
  have ty : s.TypeIs (.ref e) "enumerate" := ⟨_, he, rfl⟩
  unfold pyNext
  refine wpAny_bind (wpAny_attempt (wpAny_callSpecial?_slot (name := Str.ofString "__next__") ty F.slot_enumerate_next
    (wpAny_call_entry F.slot_enumerate_next ty F.entry_enumerate_next ?_ (F.args_enumerate_next_1 _))))
  show wpAny _ _ (field (.ref e) 2 >>= _) _ _ s
  refine wpAny_bind (wpAny_field he rfl (x := .ref it) rfl (wpAny_bind (wpAny_nextOf_tuple_end hh hit hl hx fun h2 x he2 hx2 => ?_)))
  obtain ⟨o, ho, hc⟩ := hx2
  exact wpAny_bind (wpAny_isInstance (T := "StopIteration") (b := true) ⟨o, ho, hc⟩ isSubtype_stop (wpAny_pure (hQ _ he2)))
def ItT (K : PySem.W.Frag) (a : Addr) : It :=
  ⟨fun i H => ∃ (xs : List V) (x : V), SqT K H a xs ∧ xs[i]? = some x, fun i H v H' => ∃ (T : Addr) (o : Obj) (x : V), v = .ref T ∧ H T = none ∧ o.dict = none ∧ H' = upd H T (.frz o (.tup [.int (i : Nat), x])) ∧ ∀ xs, SqT K H a xs → xs[i]? = some x, fun i H => ∃ xs : List V, SqT K H a xs ∧ xs.length ≤ i⟩
theorem turn_enumT {P : Program} {w : World} {K : PySem.W.Frag} {elts : List Expr} {kk : Nat} {tpos : Pos} (a e it : Addr) (hai : a ≠ it) (hae : e ≠ a) :
    Turn P w K (.Tuple elts kk tpos) (ItT K a) [e, it] e (fun i h => (∃ old, IsEnum h e it ((i : Nat) : Int) old) ∧ h.IsTupleIter it a i ∧ e ≠ it) where
  mem := by simp
  obj := fun i h st b hb => by
    obtain ⟨⟨old, he⟩, ⟨o, ho, hc, hd⟩, _⟩ := st
    have e' : b = e ∨ b = it := by simpa using hb
    rcases e' with z | z
    · rw [z]; exact ⟨_, he, fun v q => nomatch q⟩
    · rw [z]; exact ⟨o, ho, fun v q => by rw [hd] at q; cases q⟩
  keep := fun i h h' st k => let ⟨⟨old, he⟩, hi, hne⟩ := st; ⟨⟨old, k e (by simp) _ he⟩, hi.at fun o q => k it (by simp) o q, hne⟩
  item := by
    intro X hP hw hK hc i pins s σ H E I hf st hg
    subst hP hw hK
    obtain ⟨⟨old, he⟩, hit, hne⟩ := st
    obtain ⟨xs, x, hq, hx⟩ := hg
    obtain ⟨its, rv, p, hz⟩ := I.tuple hq
    obtain ⟨u, hu, ru⟩ := rv.get hx
    have hp : s.heap.IsTuple a its.toArray := p
    have hel : e < s.heap.objs.size := Heap.lt_size he
    have hil : it < s.heap.objs.size := by obtain ⟨_, q, _⟩ := hit; exact Heap.lt_size q
    have hlt : i < its.toArray.size := by simpa using (List.getElem?_eq_some_iff.mp hu).1
    refine wpAny_pyNext_enum_itemD (Draws.tuple (A := X.A.in1) (I.ok.hd hc) it a hai its.toArray) he ⟨hit, hp⟩ hlt hne (by simp [hne, hae]) fun y h' tk hy ho hit' hT hsz hk => ?_
    have ey : y = u := by
      rw [show its.toArray[i]? = its[i]? from by simp] at hy
      rw [hu] at hy
      cases hy
      rfl
    subst ey
    refine ⟨_, rfl, wpAny_letOwnedTupleGo_enum (s := { s with heap := h', toks := tk + 1 }) ho fun h'' he' sb => ?_⟩
    have hT2 : h''.get? s.heap.objs.size = some { cls := .type "tuple", data := .seq #[.int i tk, y] } := (sb.2 _ (Nat.ne_of_gt hel)).trans hT
    have new : ObjOk X.prog X.w (upd H s.heap.objs.size (.frz { cls := .type "tuple", data := .seq #[.int i tk, y] } (.tup [.int (i : Nat), x]))) h'' s.heap.objs.size (.frz { cls := .type "tuple", data := .seq #[.int i tk, y] } (.tup [.int (i : Nat), x])) :=
      ⟨hT2, by show 2 ≤ sizeLine; decide, [.int i tk, y], .cons ⟨_, rfl⟩ (.cons ru .nil), ⟨_, hT2, rfl, _, rfl⟩⟩
    have I1 : Inv X pins σ (upd H s.heap.objs.size (.frz { cls := .type "tuple", data := .seq #[.int i tk, y] } (.tup [.int (i : Nat), x]))) { s with heap := h'', toks := tk + 1 } :=
      I.turnedNew (ch := [e, it]) (fun b ob hb q => (sb.2 b (fun z => hb (by simp [z]))).trans (hk b ob (fun z => hb (by simp [z])) (fun z => hb (by simp [z])) q)) hf (Nat.le_refl _) new
    refine ⟨.ref s.heap.objs.size, _, I1, rfl, ⟨_, _, x, rfl, I.hok.fresh (Nat.le_refl _), rfl, rfl, fun ys hy => by rw [I.tuple_inj hy hq]; exact hx⟩, ⟨⟨y, ?_⟩, hit'.1.at fun o q => (sb.2 it (Ne.symm hne)).trans q, hne⟩, fun b hb => ?_⟩
    · have e1 : ((i + 1 : Nat) : Int) = (i : Int) + 1 := by omega
      rw [e1]; exact he'
    · have hb' : b < s.heap.objs.size := by
        have e' : b = e ∨ b = it := by simpa using hb
        rcases e' with z | z
        · rw [z]; exact hel
        · rw [z]; exact hil
      rw [upd_ne (Nat.ne_of_lt hb')]
      exact (hf b hb).1
  done := by
    intro X hP hw hK hc i pins s σ H E I hf st hg
    subst hP hw hK
    obtain ⟨⟨old, he⟩, hit, hne⟩ := st
    obtain ⟨xs, hq, hx⟩ := hg
    obtain ⟨its, rv, p, hz⟩ := I.tuple hq
    have hp : s.heap.IsTuple a its.toArray := p
    obtain ⟨f0, f1, f2, f3, f4, f5⟩ := hf it (by simp)
    have hl := rv.length
    exact next_enumT_end (I.ok.hd hc) he hit hp (by simp; omega) fun h' eb => ⟨rfl, I.turned (t' := s.toks) (fun b o hb q => eb b o hb q) f0 f1 f3 f4 f5⟩
  self := fun A i s Q E st h => let ⟨⟨_, he⟩, _⟩ := st; wpAny_pyIter_enum he h
theorem pi_enumT {X : Cx} {e : Expr} {ta : TA} {p pos tpos : Pos} {elts : List Expr} {kk : Nat} (hg : Gl X "enumerate") (hm : X.mg "enumerate" = none) (ha : PA X [e] ta) (hs : starEach [e] X.env = [(false, eval e X.env)] := by rfl) :
    PI X (.Tuple elts kk tpos) (.Call (.Name "enumerate" p) [e] [] pos) (fun σ H R => ta σ H fun vs H1 => ∃ a xs, vs = [.ref a] ∧ SqT X.K H1 a xs ∧ R (ItT X.K a) H1) := by
  refine ⟨fun pins s σ H R I h => ?_⟩
  refine Call_ (ld_blt I hg hm boot_enumerate (PyProof.Rows.callWith_type1 (thn (ha.run pos pins s σ H _ I h) fun us s1 ⟨vs, H1, I1, r1, q1⟩ => ?_) hs rfl))
  obtain ⟨a, xs, ex, hq, q⟩ := q1
  subst ex
  cases r1 with
  | cons r rr =>
    cases rr
    cases r
    obtain ⟨its, rv, pt, hz⟩ := I1.tuple hq
    have hT : s1.heap.IsTuple a its.toArray := pt
    have ha : a < s1.heap.objs.size := by obtain ⟨_, q, _⟩ := pt; exact Heap.lt_size q
    refine call_enum_tuple hT fun h2 he hit hsz hk => wpAny_pyIter_enum he ?_
    have I2 : Inv X pins σ H1 { s1 with heap := h2 } := I1.kept (t' := s1.toks) hk
    refine ⟨s1.heap.objs.size + 1, [s1.heap.objs.size + 1, s1.heap.objs.size], _, _, H1, rfl, I2, turn_enumT a (s1.heap.objs.size + 1) s1.heap.objs.size (Nat.ne_of_lt ha) (Nat.ne_of_gt (Nat.lt_succ_of_lt ha)), ⟨⟨.none, he⟩, hit, Nat.succ_ne_self _⟩, fun b hb => ?_, q⟩
    have e2 : b = s1.heap.objs.size + 1 ∨ b = s1.heap.objs.size := by simpa using hb
    have hle : s1.heap.objs.size ≤ b := by
      rcases e2 with z | z <;> rw [z]
      · exact Nat.le_succ _
      · exact Nat.le_refl _
    exact I1.fpOk hle (I1.hok.fresh hle)
def ItL (K : PySem.W.Frag) (a : Addr) : It :=
  ⟨fun i H => ∃ (xs : List V) (x : V), SqL K H a xs ∧ xs[i]? = some x, fun i H v H' => ∃ (T : Addr) (o : Obj) (x : V), v = .ref T ∧ H T = none ∧ o.dict = none ∧ H' = upd H T (.frz o (.tup [.int (i : Nat), x])) ∧ ∀ xs, SqL K H a xs → xs[i]? = some x, fun i H => ∃ xs : List V, SqL K H a xs ∧ xs.length ≤ i⟩
theorem turn_enumL {P : Program} {w : World} {K : PySem.W.Frag} {elts : List Expr} {kk : Nat} {tpos : Pos} (a e it : Addr) (hai : a ≠ it) (hae : e ≠ a) :
    Turn P w K (.Tuple elts kk tpos) (ItL K a) [e, it] e (fun i h => (∃ old, IsEnum h e it ((i : Nat) : Int) old) ∧ h.IsListIter it a i ∧ e ≠ it) where
  mem := by simp
  obj := fun i h st b hb => by
    obtain ⟨⟨old, he⟩, ⟨o, ho, hc, hd⟩, _⟩ := st
    have e' : b = e ∨ b = it := by simpa using hb
    rcases e' with z | z
    · rw [z]; exact ⟨_, he, fun v q => nomatch q⟩
    · rw [z]; exact ⟨o, ho, fun v q => by rw [hd] at q; cases q⟩
  keep := fun i h h' st k => let ⟨⟨old, he⟩, hi, hne⟩ := st; ⟨⟨old, k e (by simp) _ he⟩, hi.at fun o q => k it (by simp) o q, hne⟩
  item := by
    intro X hP hw hK hc i pins s σ H E I hf st hg
    subst hP hw hK
    obtain ⟨⟨old, he⟩, hit, hne⟩ := st
    obtain ⟨xs, x, hq, hx⟩ := hg
    obtain ⟨its, rv, p, hz⟩ := I.list hq
    obtain ⟨u, hu, ru⟩ := rv.get hx
    have hp : s.heap.IsList a its.toArray := p.isList
    have hel : e < s.heap.objs.size := Heap.lt_size he
    have hil : it < s.heap.objs.size := by obtain ⟨_, q, _⟩ := hit; exact Heap.lt_size q
    refine wpAny_pyNext_enum_item he hit hp (x := u) (by simpa using hu) hne fun h' ho hit' hT hsz hk => ?_
    refine ⟨_, rfl, wpAny_letOwnedTupleGo_enum (s := { s with heap := h', toks := s.toks + 1 }) ho fun h'' he' sb => ?_⟩
    have hT2 : h''.get? s.heap.objs.size = some { cls := .type "tuple", data := .seq #[.int i s.toks, u] } := (sb.2 _ (Nat.ne_of_gt hel)).trans hT
    have new : ObjOk X.prog X.w (upd H s.heap.objs.size (.frz { cls := .type "tuple", data := .seq #[.int i s.toks, u] } (.tup [.int (i : Nat), x]))) h'' s.heap.objs.size (.frz { cls := .type "tuple", data := .seq #[.int i s.toks, u] } (.tup [.int (i : Nat), x])) :=
      ⟨hT2, by show 2 ≤ sizeLine; decide, [.int i s.toks, u], .cons ⟨_, rfl⟩ (.cons ru .nil), ⟨_, hT2, rfl, _, rfl⟩⟩
    have I1 : Inv X pins σ (upd H s.heap.objs.size (.frz { cls := .type "tuple", data := .seq #[.int i s.toks, u] } (.tup [.int (i : Nat), x]))) { s with heap := h'', toks := s.toks + 1 } :=
      I.turnedNew (ch := [e, it]) (fun b ob hb q => (sb.2 b (fun z => hb (by simp [z]))).trans (hk b ob (fun z => hb (by simp [z])) (fun z => hb (by simp [z])) q)) hf (Nat.le_refl _) new
    refine ⟨.ref s.heap.objs.size, _, I1, rfl, ⟨_, _, x, rfl, I.hok.fresh (Nat.le_refl _), rfl, rfl, fun ys hy => by rw [I.list_inj hy hq]; exact hx⟩, ⟨⟨u, ?_⟩, hit'.at fun o q => (sb.2 it (Ne.symm hne)).trans q, hne⟩, fun b hb => ?_⟩
    · have e1 : ((i + 1 : Nat) : Int) = (i : Int) + 1 := by omega
      rw [e1]; exact he'
    · have hb' : b < s.heap.objs.size := by
        have e' : b = e ∨ b = it := by simpa using hb
        rcases e' with z | z
        · rw [z]; exact hel
        · rw [z]; exact hil
      rw [upd_ne (Nat.ne_of_lt hb')]
      exact (hf b hb).1
  done := by
    intro X hP hw hK hc i pins s σ H E I hf st hg
    subst hP hw hK
    obtain ⟨⟨old, he⟩, hit, hne⟩ := st
    obtain ⟨xs, hq, hx⟩ := hg
    obtain ⟨its, rv, p, hz⟩ := I.list hq
    have hp : s.heap.IsList a its.toArray := p.isList
    obtain ⟨f0, f1, f2, f3, f4, f5⟩ := hf it (by simp)
    have hl := rv.length
    exact wpAny_pyNext_enum_end (I.ok.hd hc) he hit hp (by simp; omega) fun h' eb => ⟨rfl, I.turned (t' := s.toks) (fun b o hb q => eb b o hb q) f0 f1 f3 f4 f5⟩
  self := fun A i s Q E st h => let ⟨⟨_, he⟩, _⟩ := st; wpAny_pyIter_enum he h
theorem pi_enumL {X : Cx} {e : Expr} {ta : TA} {p pos tpos : Pos} {elts : List Expr} {kk : Nat} (hg : Gl X "enumerate") (hm : X.mg "enumerate" = none) (ha : PA X [e] ta) (hs : starEach [e] X.env = [(false, eval e X.env)] := by rfl) :
    PI X (.Tuple elts kk tpos) (.Call (.Name "enumerate" p) [e] [] pos) (fun σ H R => ta σ H fun vs H1 => ∃ a xs, vs = [.ref a] ∧ SqL X.K H1 a xs ∧ R (ItL X.K a) H1) := by
  refine ⟨fun pins s σ H R I h => ?_⟩
  refine Call_ (ld_blt I hg hm boot_enumerate (PyProof.Rows.callWith_type1 (thn (ha.run pos pins s σ H _ I h) fun us s1 ⟨vs, H1, I1, r1, q1⟩ => ?_) hs rfl))
  obtain ⟨a, xs, ex, hq, q⟩ := q1
  subst ex
  cases r1 with
  | cons r rr =>
    cases rr
    cases r
    obtain ⟨its, rv, pt, hz⟩ := I1.list hq
    have hT : s1.heap.IsList a its.toArray := pt.isList
    have ha : a < s1.heap.objs.size := pt.lt
    refine call_enumerate_list hT fun h2 he hit hsz hk => wpAny_pyIter_enum he ?_
    have I2 : Inv X pins σ H1 { s1 with heap := h2 } := I1.kept (t' := s1.toks) hk
    refine ⟨s1.heap.objs.size + 1, [s1.heap.objs.size + 1, s1.heap.objs.size], _, _, H1, rfl, I2, turn_enumL a (s1.heap.objs.size + 1) s1.heap.objs.size (Nat.ne_of_lt ha) (Nat.ne_of_gt (Nat.lt_succ_of_lt ha)), ⟨⟨.none, he⟩, hit, Nat.succ_ne_self _⟩, fun b hb => ?_, q⟩
    have e2 : b = s1.heap.objs.size + 1 ∨ b = s1.heap.objs.size := by simpa using hb
    have hle : s1.heap.objs.size ≤ b := by
      rcases e2 with z | z <;> rw [z]
      · exact Nat.le_succ _
      · exact Nat.le_refl _
    exact I1.fpOk hle (I1.hok.fresh hle)
def enumD : Nat → List D → List D
  | _, [] => []
  | k, x :: xs => .tup [.int (k : Int), x] :: enumD (k + 1) xs
theorem enumD_len : ∀ (k : Nat) (xs : List D), (enumD k xs).length = xs.length
  | _, [] => rfl
  | k, x :: xs => congrArg (· + 1) (enumD_len (k + 1) xs)
theorem enumD_get : ∀ (k : Nat) (xs : List D) (i : Nat) (d : D), (enumD k xs)[i]? = some d → ∃ x, xs[i]? = some x ∧ d = .tup [.int ((k + i : Nat) : Int), x]
  | _, [], i, d, h => by simp [enumD] at h
  | k, x :: xs, 0, d, h => ⟨x, rfl, by cases h; rfl⟩
  | k, x :: xs, i + 1, d, h => by
    obtain ⟨y, e1, e2⟩ := enumD_get (k + 1) xs i d h
    exact ⟨y, e1, by rw [e2, show k + 1 + i = k + (i + 1) by omega]⟩
def mEnum (ms : M (List D)) : M (List D) := fun s h => (ms s h).bind fun ds s h => match ds with
  | [.tup xs] => .ok (enumD 0 xs) s h
  | [.lst xs] => .ok (enumD 0 xs) s h
  | _ => .bad
theorem it_enumT {K : PySem.W.Frag} {c0 : C} {H0 : Hp} {q : Addr} {ds : List D} {vs : List V} (hl : ∀ c H, Car c0 H0 c H → SqT K H q vs) (r : RelL K c0 H0 ds vs) : ItOk K c0 H0 (enumD 0 ds) (ItT K q) := fun c H x fr =>
  ⟨fun i d e => by
    obtain ⟨y, e1, rfl⟩ := enumD_get 0 ds i d e
    obtain ⟨v, e2, rv⟩ := (r.car x).get e1
    refine ⟨⟨vs, v, hl c H x, e2⟩, fun z H' ⟨T, o, w, ez, hT, ho, eH, hw⟩ => ?_⟩
    have e4 := hw vs (hl c H x)
    rw [e2] at e4
    cases e4
    subst ez eH
    have g := grow_new (o := .frz o (.tup [.int (i : Nat), v])) hT
    exact ⟨g, T, _, rfl, .inl ⟨fr T hT, o, upd_same, ho⟩, ⟨_, _, rfl, by simp [Rel], _, _, rfl, rv.car (Car.grow g), rfl⟩⟩, ⟨vs, hl c H x, by rw [enumD_len, r.len]; exact Nat.le_refl _⟩⟩
theorem it_enumL {K : PySem.W.Frag} {c0 : C} {H0 : Hp} {q : Addr} {ds : List D} {vs : List V} (hl : ∀ c H, Car c0 H0 c H → SqL K H q vs) (r : RelL K c0 H0 ds vs) : ItOk K c0 H0 (enumD 0 ds) (ItL K q) := fun c H x fr =>
  ⟨fun i d e => by
    obtain ⟨y, e1, rfl⟩ := enumD_get 0 ds i d e
    obtain ⟨v, e2, rv⟩ := (r.car x).get e1
    refine ⟨⟨vs, v, hl c H x, e2⟩, fun z H' ⟨T, o, w, ez, hT, ho, eH, hw⟩ => ?_⟩
    have e4 := hw vs (hl c H x)
    rw [e2] at e4
    cases e4
    subst ez eH
    have g := grow_new (o := .frz o (.tup [.int (i : Nat), v])) hT
    exact ⟨g, T, _, rfl, .inl ⟨fr T hT, o, upd_same, ho⟩, ⟨_, _, rfl, by simp [Rel], _, _, rfl, rv.car (Car.grow g), rfl⟩⟩, ⟨vs, hl c H x, by rw [enumD_len, r.len]; exact Nat.le_refl _⟩⟩
theorem i_enum {X : Cx} {W : WX} {a : Expr} {ms : M (List D)} {p pos tpos : Pos} {elts : List Expr} {kk : Nat} (hm : X.mg "enumerate" = none) (ha : PA X [a] (lA X.K X.mg W ms)) (hg : Gl X "enumerate" := by rfl) (hs : starEach [a] X.env = [(false, eval a X.env)] := by rfl) :
    PI X (.Tuple elts kk tpos) (.Call (.Name "enumerate" p) [a] [] pos) (lI X.K X.mg W (mEnum ms)) :=
  pi_imp (pi_or (pi_enumL hg hm ha hs) (pi_enumT hg hm ha hs)) fun s H Q ⟨c, sd, h, rs, rh, q⟩ => by
    unfold mEnum at q
    cases e1 : ms sd h with
    | bad => rw [e1] at q; exact q.elim
    | exc x fs sd1 h1 => rw [e1] at q; exact .inl ⟨c, sd, h, rs, rh, by rw [e1]; exact q⟩
    | ok ds sd1 h1 =>
      rw [e1] at q
      rcases ds with _ | ⟨d, _ | ⟨d2, ds⟩⟩
      · exact q.elim
      · cases d with
        | tup xs =>
          refine .inr ⟨c, sd, h, rs, rh, ?_⟩
          rw [e1]
          intro v c2 H2 x1 r1 r2 rl
          obtain ⟨v1, vr, rfl, ⟨pa, vs, rfl, t, r3⟩, rr⟩ := rl
          cases rr
          refine ⟨pa, vs, rfl, t.sq, q _ c2 H2 x1 r1 r2 (it_enumT (fun c3 H3 x => ?_) r3)⟩
          rcases t with ⟨t1, t2⟩ | t
          · exact .inl (x.kn t1 t2).2.rd
          · exact .inr t.1
        | lst xs =>
          refine .inl ⟨c, sd, h, rs, rh, ?_⟩
          rw [e1]
          intro v c2 H2 x1 r1 r2 rl
          obtain ⟨v1, vr, rfl, ⟨pa, vs, rfl, t, t2, r3⟩, rr⟩ := rl
          cases rr
          exact ⟨pa, vs, rfl, SqL.of t2, q _ c2 H2 x1 r1 r2 (it_enumL (fun c3 H3 x => SqL.of (x.out pa _ t t2).2) r3)⟩
        | _ => exact q.elim
      · cases d <;> exact q.elim
@[simp] theorem mEnum_ap {ms : M (List D)} {s : Sd} {h : Hd} : mEnum ms s h = (ms s h).bind fun ds s h => match ds with
  | [.tup xs] => .ok (enumD 0 xs) s h
  | [.lst xs] => .ok (enumD 0 xs) s h
  | _ => .bad := Eq.trans rfl rfl
end Dm
end
section
namespace Dm
open PySem L2
def cloop2 (vs : List Nat) (g : D → M Unit) (t : M Bool) (ms1 : M (List D)) (vs1 : List Nat) (g1 : D → M Unit) (t1 : M Bool) (e : M D) : List D → List D → Sd → Hd → Res (List D)
  | [], acc, s, h => .ok acc s h
  | x :: xs, acc, s, h => (g x s h).only fun s h => (t s h).bd fun k s h => bif k then (ms1 s h).bd fun ys s h => (cloop vs1 g1 t1 e ys acc (wipeD s vs1) h).bd fun acc s h => cloop2 vs g t ms1 vs1 g1 t1 e xs acc (wipeD s vs) h
      else cloop2 vs g t ms1 vs1 g1 t1 e xs acc (wipeD s vs) h
def mComp2 (ms : M (List D)) (vs : List Nat) (g : D → M Unit) (t : M Bool) (ms1 : M (List D)) (vs1 : List Nat) (g1 : D → M Unit) (t1 : M Bool) (e : M D) : M (List D) := fun s h =>
  (ms s h).bind fun xs s0 h => (cloop2 vs g t ms1 vs1 g1 t1 e xs [] (wipeD s0 vs) h).bd fun ys s1 h => .ok ys (backD s0 s1 vs) h
section
variable {K : PySem.W.Frag} {mg : Str → Option Value}
theorem Car.trans {c c1 c2 : C} {H H1 H2 : Hp} (a : Car c H c1 H1) (b : Car c1 H1 c2 H2) : Car c H c2 H2 := ⟨fun x o h e => b.out x o (a.out x o h e).1 (a.out x o h e).2, fun i x e => b.ref i x (a.ref i x e)⟩
end
section
variable {X : Cx} {W : WX} {elt tg iter tg1 iter1 : Expr} {ifs ifs1 : List Expr} {scope : Scope} {own : List (Str × Nat)} {ts ts1 vs1 : List Nat} {pos spos : Pos} {ms ms1 : M (List D)} {g g1 : D → M Unit} {t t1 : M Bool} {me : M D}
end
@[simp] theorem mComp2_ap {ms ms1 : M (List D)} {vs vs1 : List Nat} {g g1 : D → M Unit} {t t1 : M Bool} {e : M D} {s : Sd} {h : Hd} : mComp2 ms vs g t ms1 vs1 g1 t1 e s h = (ms s h).bind fun xs s0 h => (cloop2 vs g t ms1 vs1 g1 t1 e xs [] (wipeD s0 vs) h).bd fun ys s1 h => .ok ys (backD s0 s1 vs) h := Eq.trans rfl rfl
end Dm
end
section
namespace Dm
open PySem PySem.Spec PyProof.Rows L2
variable {gp : Prop}
section
variable {X : Cx} {W : WX} {k : Nat}
end
def mCmpO (neg : Bool) (i : Nat) (b : M D) : M D := fun s h => match ownAt s i with
  | none => .bad
  | some _ => (b s h).bind fun d s h => match ownAt s i with
    | none => .bad
    | some xs => match D.pyL xs, d.py with
      | some es, some e => if SeqAt.shaped (.list es) && SeqAt.shaped e then .ok (.bl (if neg then !PyData.eqv (.list es) e else PyData.eqv (.list es) e)) s h else .bad
      | _, _ => .bad
def mExtO (i : Nat) (a : M D) : M D := fun s h => match ownAt s i with
  | none => .bad
  | some _ => (a s h).bind fun d s h => match ownAt s i, d with
    | some xs, .lst ys => if xs.length + ys.length ≤ 100000 then .ok .non (s.set i (.own (xs ++ ys))) h else .bad
    | _, _ => .bad
section
variable {K : PySem.W.Frag} {mg : Str → Option Value} {X : Cx} {W : WX} {x : Str} {i k : Nat} {pos p apos cpos : Pos} {a b : Expr} {ma mb me : M D}
theorem e_extO {e : Expr} (he : PE X e (lE X.K X.mg W me)) (hN : X.N[i]? = some x := by rfl) (hv : Vis X.env.scope x := by first | exact Or.inl rfl | exact Or.inr (Or.inl rfl) | exact Or.inr (Or.inr rfl)) (hd : (x == ("__debug__" : Str)) = false := by decide) (hcd : (x == ("__classdict__" : Str)) = false := by decide)
    (hbase : attributeBase (.Name x p) "extend" X.env (eval (.Name x p) X.env) = eval (.Name x p) X.env := by rfl)
    (hfew : ((backTo cpos (starEach [e] X.env)).all (fun x => !x.1) && (backToKw cpos (keywordEach [] X.env)).all (fun x => x.1.isSome) && decide ([e].length + ([] : List Keyword).length + (if ([] : List Keyword).isEmpty then 0 else 1) < 30)) = true := by rfl)
    (hline : (apos.endLine == cpos.line) = true := by rfl) (hs : starEach [e] X.env = (false, eval e X.env) :: starEach [] X.env := by rfl) (hplain : (backTo cpos (starEach [] X.env)).any (·.1) = false := by rfl) :
    PE X (.Call (.Attribute (.Name x p) "extend" apos) [e] [] cpos) (lE X.K X.mg W (mExtO i me)) :=
  pe_imp (pe_bm PySem.F.plainAttrs_list PySem.F.slot_list_extend PySem.F.type_list_extend mt_extend (pe_var hN hv hd hcd) (pa_cons he pa_nil hs) hbase hfew hline hs hplain) fun s H Q ⟨c, sd, h, rs, rh, q⟩ => by
    unfold mExtO at q
    cases e1 : ownAt sd i with
    | none => rw [e1] at q; exact q.elim
    | some xs =>
      rw [e1] at q
      obtain ⟨p1, vs, e2, h1, h2, h3, h4⟩ := rs.own e1
      refine ⟨.ref p1, e2, .inl ⟨rfl, vs, SqL.of h3⟩, c, sd, h, rs, rh, (Out.bind (R := Rel X.K) q).imp fun y H1 ⟨c1, d1, sd1, h1, rs1, rh1, r1, _, q1⟩ => ?_⟩
      cases e3 : ownAt sd1 i with
      | none => rw [e3] at q1; cases d1 <;> exact q1.elim
      | some ys =>
        rw [e3] at q1
        cases d1 with
        | lst zs =>
          have q2 : Out X.K X.mg (Rel X.K) c1 H1 s Q W (if ys.length + zs.length ≤ 100000 then .ok .non (sd1.set i (.own (ys ++ zs))) h1 else .bad) := q1
          by_cases hl : ys.length + zs.length ≤ 100000
          · rw [if_pos hl] at q2
            obtain ⟨p2, ws, f2, g1, g2, g3, g4⟩ := rs1.own e3
            have ep : p2 = p1 := by rw [e2] at f2; injection f2 with f2; injection f2 with f2; injection f2 with f2; exact f2.symm
            subst ep
            obtain ⟨pb, us, rfl, ob, eb, rl⟩ := r1
            refine ⟨p2, pb, ws, us, rfl, rfl, g3, eb, line5 (by rw [← g4.len, ← rl.len]; exact hl), ?_⟩
            exact q2 _ c1 _ (Ext.write (.inr g1)) (rs1.writeO (ownAt_iff.mp e3) f2 (g4.app rl)) (rh1.write g1) rfl
          · rw [if_neg hl] at q2
            exact q2.elim
        | _ => exact q1.elim
end
@[simp] theorem mCmpO_ap {neg : Bool} {i : Nat} {b : M D} {s : Sd} {h : Hd} : mCmpO neg i b s h = (match ownAt s i with
  | none => .bad
  | some _ => (b s h).bind fun d s h => match ownAt s i with
    | none => .bad
    | some xs => match D.pyL xs, d.py with
      | some es, some e => if SeqAt.shaped (.list es) && SeqAt.shaped e then .ok (.bl (if neg then !PyData.eqv (.list es) e else PyData.eqv (.list es) e)) s h else .bad
      | _, _ => .bad) := Eq.trans rfl rfl
@[simp] theorem mExtO_ap {i : Nat} {a : M D} {s : Sd} {h : Hd} : mExtO i a s h = (match ownAt s i with
  | none => .bad
  | some _ => (a s h).bind fun d s h => match ownAt s i, d with
    | some xs, .lst ys => if xs.length + ys.length ≤ 100000 then .ok .non (s.set i (.own (xs ++ ys))) h else .bad
    | _, _ => .bad) := Eq.trans rfl rfl
end Dm
end
section
namespace Dm
open PySem PySem.Spec PyProof.Rows L2
def tyN : D → Option String
  | .non => some "NoneType"
  | .bl _ => some "bool"
  | .int _ => some "int"
  | .str _ => some "str"
  | .tup _ => some "tuple"
  | .lst _ => some "list"
  | .ro _ => some "list"
  | .edt => some "dict"
  | .dtx _ _ => some "dict"
  | .ref _ => none
def isiD (T : String) (_ : Hd) (d : D) : Option D := (tyN d).bind fun n => (kitB n T).map .bl
theorem Rel.ty {K : PySem.W.Frag} {c : C} {H : Hp} {d : D} {v : V} {n : String} (r : Rel K c H d v) (e : tyN d = some n) : TyX K H v (.type n) := by
  cases d with
  | non => cases e; cases r; exact .base .non
  | bl b => cases e; cases r; exact .base (.bl b)
  | int i => cases e; cases r; exact .base (.int i)
  | str x => cases e; cases r; exact .base (.str x)
  | tup xs =>
    cases e
    obtain ⟨a, vs, rfl, t, _⟩ := r
    rcases t with ⟨_, o, t, _⟩ | ⟨⟨o, its, m, hk, hc, _⟩, _⟩
    · exact .fTuple t
    · exact .kTuple hk hc
  | lst xs =>
    cases e
    obtain ⟨a, vs, rfl, _, t, _⟩ := r
    exact .base (.lst t)
  | ro xs =>
    cases e
    obtain ⟨a, vs, rfl, t, _⟩ := r
    rcases t with ⟨_, t⟩ | ⟨o, its, m, hk, hc, _⟩
    · rcases t with t | ⟨o, t⟩
      · exact .base (.lst t)
      · exact .base (.frz t)
    · exact .kList hk hc
  | edt =>
    cases e
    obtain ⟨a, rfl, _, t⟩ := r
    exact .base (.dK t)
  | dtx k n =>
    cases e
    obtain ⟨a, rfl, _, t⟩ := r
    exact .base (.dK t)
  | ref i => cases e
section
variable {X : Cx} {W : WX} {a : Expr} {ma : M D} {p p2 pos : Pos} {tn : Str} {T : String}
theorem e_isi (hmi : X.mg "isinstance" = none) (hmt : X.mg tn = none) (ha : PE X a (lE X.K X.mg W ma)) (hvt : bootBuiltins tn = some (.type T) := by decide +kernel) (hvi : bootBuiltins "isinstance" = some (.builtin "isinstance") := by decide +kernel) (hg : Gl X "isinstance" := by rfl) (hgt : Gl X tn := by rfl) (hn : tn ≠ "__name__" := by decide) (hd : (tn == ("__debug__" : Str)) = false := by decide)
    (he : starEach [a, .Name tn p2] X.env = (false, eval a X.env) :: starEach [.Name tn p2] X.env := by rfl) (he2 : starEach [.Name tn p2] X.env = (false, eval (.Name tn p2) X.env) :: starEach [] X.env := by rfl) (hpl : (backTo pos (starEach [.Name tn p2] X.env)).any (·.1) = false := by rfl) :
    PE X (.Call (.Name "isinstance" p) [a, .Name tn p2] [] pos) (lE X.K X.mg W (mUn (isiD T) ma)) :=
  pe_imp (pe_callB (call_isi (X := X)) hg hmi hvi (pa_cons ha (pa_cons (pe_bltn (v := .ty T) hgt hmt hvt rfl hn hd) pa_nil he2) he) (by decide) (by decide) he hpl) fun s H Q ⟨c, sd, h, rs, rh, q⟩ => ⟨c, sd, h, rs, rh, (Out.bind (R := Rel X.K) q).imp fun x H1 ⟨c1, d1, sd1, h1, rs1, rh1, r1, _, q1⟩ => by
    have q2 : Out X.K X.mg (Rel X.K) c1 H1 s Q W (mOf (isiD T h1 d1) sd1 h1) := q1
    unfold isiD at q2
    cases e1 : tyN d1 with
    | none => rw [e1] at q2; exact q2.elim
    | some n =>
      rw [e1] at q2
      simp only [Option.bind_some] at q2
      cases e2 : kitB n T with
      | none => rw [e2] at q2; exact q2.elim
      | some b =>
        rw [e2] at q2
        exact ⟨x, .ty T, .type n, .type T, b, rfl, .ty T, r1.ty e1, kit_ty e2, q2 _ c1 H1 (Ext.refl _ _) rs1 rh1 rfl⟩⟩
end
end Dm
end
section
namespace Dm
open PySem PySem.Spec PyProof.Rows L2
def tixD (xs : List D) (d : D) : Option D := match d with
  | .int k => (intsOf xs).bind fun ns => if k ∈ ns then some (.int (ns.idxOf k : Nat)) else none
  | _ => none
def mTix (a : M D) (ms : M (List D)) : M D := fun s h => (a s h).bind fun o s h => match o with
  | .tup xs => (ms s h).bind fun ds s h => match ds with
    | [d] => mOf (tixD xs d) s h
    | _ => .bad
  | _ => .bad
section
variable {X : Cx} {W : WX} {o e : Expr} {ma : M D} {ms : M (List D)} {apos cpos : Pos}
def tyTup (K : PySem.W.Frag) (x : V) (H : Hp) : Prop := ∃ p vs, x = .ref p ∧ (KnT H p vs ∨ (KTup K p vs ∧ ∀ o, K.lookup p = some o → o.dict = none))
theorem ty_tup : TyOk X "tuple" (tyTup X.K) := by
  intro pins σ H s x v I r ty
  obtain ⟨p, vs, rfl, t⟩ := ty
  cases r
  rcases t with ⟨o, e, d⟩ | ⟨⟨o, its, n, hk, hc, _⟩, hd⟩
  · obtain ⟨e1, _, its, _, o2, e2, hc, _⟩ := (show ObjOk X.prog X.w H s.heap p (.frz o (.tup vs)) from I.hok p _ e)
    rw [e1] at e2
    cases e2
    exact ⟨⟨o, e1, hc⟩, fun b z => by cases z; exact ⟨o, e1, d⟩⟩
  · exact ⟨⟨o, I.kIn p o hk, hc⟩, fun b z => by cases z; exact ⟨o, I.kIn _ o hk, hd o hk⟩⟩
end
@[simp] theorem mTix_ap {a : M D} {ms : M (List D)} {s : Sd} {h : Hd} : mTix a ms s h = (a s h).bind fun o s h => match o with
  | .tup xs => (ms s h).bind fun ds s h => match ds with
    | [d] => mOf (tixD xs d) s h
    | _ => .bad
  | _ => .bad := Eq.trans rfl rfl
end Dm
end
section
namespace Dm
open PySem PySem.Spec PyProof.Rows L2
open PySem.Builtin.ObjectAttr
section
open PySem.Builtin PySem.Builtin.ObjectAttr PySem.HandSPX
variable {prog : Program} {w : World} {A : Around} {R : Result → Shared → Prop} {hp : Heap} {g : Array GenState} {d : Drawn} {t : Nat} {os : OsState}
structure MroG (l : List Value) : Prop where
  pass : ∀ self : Value, refuseLoop self "__setattr__" l = pure ()
  ne : l.isEmpty = false
  ob : l.contains (.type "object") = true
section
variable {K : PySem.W.Frag} {name : Str} {tk : Tok} {v : Value} {x C dx : Addr} {fv : Array Value} {cd : ClassData} {m0 : Str → Option Value} {nl : List Str}
theorem osaG {ox : Obj} {od : Option Obj} {Q : Fin → Shared → Prop} {E : Value → Shared → Prop} (X : K.In hp) (I : PySem.W.InstAt hp x ox C od) (hcd : PySem.W.clsIn K C = some cd) (m : MroG cd.mro) (ha : PySem.W.findIn K (.ref C) name = some none)
    (hq : wpAny (model prog w) A (storeInOwnDict (.ref x) (.ref C) (.str name tk) name v false) Q E ⟨hp, g, d, t, os⟩) : wpAny (model prog w) A (Builtin.«object.__setattr__» ⟨[.ref x, .str name tk, v], []⟩) Q E ⟨hp, g, d, t, os⟩ := by
  have lm : PySem.W.Looks (model prog w) hp (mroOf (.ref C)) cd.mro := (PySem.W.looks_clsIn X hcd).andThen .now
  have ln : PySem.W.Looks (model prog w) hp (storeTaker? none) none := .now
  rw [PySem.W.osa_eq, refuse_eq]
  refine wpAny_bind (wpAny_bind (I.type.at (wpAny_bind (lm.at ?_))))
  rw [m.pass]
  exact wpAny_pure (wpAny_bind (I.type.at (wpAny_bind ((PySem.W.looks_findIn X ha).at (wpAny_bind (ln.at hq))))))
theorem subG {ox : Obj} {od : Option Obj} (X : K.In hp) (I : PySem.W.InstAt hp x ox C od) (hcd : PySem.W.clsIn K C = some cd) (m : MroG cd.mro) : PySem.W.Looks (model prog w) hp (isInstance (.ref x) (.type "object")) true :=
  I.type.andThen (PySem.W.looks_mroIn X (by unfold PySem.W.mroIn; rw [hcd, Option.bind_some, if_neg (by rw [m.ne]; decide), m.ob]))
theorem setNewG (X : K.In hp) (hx : hp.get? x = some { cls := .ref C, data := .fields fv }) (hcd : PySem.W.clsIn K C = some cd) (m : MroG cd.mro) (hh : cd.hasDict = true) (ha : PySem.W.findIn K (.ref C) name = some none)
    (hq : ∀ h' tk' dx, (∀ b o, b ≠ x → hp.get? b = some o → h'.get? b = some o) → hp.objs.size ≤ dx → dx ≠ x → h'.get? x = some { cls := .ref C, dict := some dx, data := .fields fv } →
      h'.Ns1 dx (fun y => if y = name then some v else none) → R (.ok (.ret .none)) ⟨h', g, d, tk', os⟩) :
    codeAny (model prog w) A (.call (.builtin "object.__setattr__") ⟨[.ref x, .str name tk, v], []⟩) R ⟨hp, g, d, t, os⟩ := by
  have I : PySem.W.InstAt hp x { cls := .ref C, data := .fields fv } C none := ⟨hx, rfl, rfl, trivial⟩
  have nx : x ≠ hp.objs.size := Nat.ne_of_lt (Heap.lt_size hx)
  have lc : PySem.W.Looks (model prog w) hp (classData C) cd := PySem.W.looks_clsIn X hcd
  have S0 := F.store_object
  refine codeAny_call_builtin S0.slot.plain S0.entry (@PySem.W.check_slot (model prog w) _ _ ⟨hp, g, d, t, os⟩ "object.__setattr__" "object" "__setattr__" (.ref x) [.str name tk, v] [] _ S0.kind S0.split (subG X I hcd m) (S0.args (.ref x) (.str name tk) v) (osaG X I hcd m ha ?_))
  show wpAny _ _ (storeInOwnDict (.ref x) (.ref C) (.str name tk) name v false) _ _ _
  obtain ⟨nm, bs, mro, ns, qn, hd, sn, sb, ab, col, del⟩ := cd
  cases (show hd = true from hh)
  unfold storeInOwnDict ownDictForStores
  repeat (first | with_reducible refine store_in_new ?_ ?_ | with_reducible refine wpAny_loadPart_at hx ?_ | with_reducible refine lc.at ?_ | wp_step)
  · exact ⟨_, #[], _, (Heap.get?_update_ne _ _ _ _ nx.symm).trans (Heap.get?_push_at rfl rfl), rfl, fun e he => absurd he (by simp), fun _ => rfl⟩
  · intro h' tk' hn' hs
    have hx1 : (hp.push { cls := .type "dict", data := .dict #[] }).get? x = some { cls := .ref C, data := .fields fv } := Heap.get?_push_of_some _ hx
    refine hq h' tk' hp.objs.size ?_ (Nat.le_refl _) nx.symm ((hs.2 x nx).trans (Heap.get?_update_self _ hx1 rfl)) hn'
    intro b o hb ho
    exact (hs.2 b (Nat.ne_of_lt (Heap.lt_size ho))).trans ((Heap.get?_update_ne _ _ _ _ hb).trans (Heap.get?_push_of_some _ ho))
theorem setOldG (X : K.In hp) (hx : hp.get? x = some { cls := .ref C, dict := some dx, data := .fields fv }) (hns : hp.Ns1 dx m0) (hw : PySem.Within m0 nl) (hz : nl.length ≤ 1000) (hcd : PySem.W.clsIn K C = some cd) (m : MroG cd.mro) (hh : cd.hasDict = true)
    (ha : PySem.W.findIn K (.ref C) name = some none)
    (hq : ∀ h' tk', (∀ b o, b ≠ dx → hp.get? b = some o → h'.get? b = some o) → h'.Ns1 dx (fun y => if y = name then some v else m0 y) → R (.ok (.ret .none)) ⟨h', g, d, tk', os⟩) :
    codeAny (model prog w) A (.call (.builtin "object.__setattr__") ⟨[.ref x, .str name tk, v], []⟩) R ⟨hp, g, d, t, os⟩ := by
  obtain ⟨oD, _, _, hoD, _, _⟩ := hns.count hw
  have I : PySem.W.InstAt hp x { cls := .ref C, dict := some dx, data := .fields fv } C (some oD) := ⟨hx, rfl, rfl, hoD⟩
  have lc : PySem.W.Looks (model prog w) hp (classData C) cd := PySem.W.looks_clsIn X hcd
  have S0 := F.store_object
  refine codeAny_call_builtin S0.slot.plain S0.entry (@PySem.W.check_slot (model prog w) _ _ ⟨hp, g, d, t, os⟩ "object.__setattr__" "object" "__setattr__" (.ref x) [.str name tk, v] [] _ S0.kind S0.split (subG X I hcd m) (S0.args (.ref x) (.str name tk) v) (osaG X I hcd m ha ?_))
  show wpAny _ _ (storeInOwnDict (.ref x) (.ref C) (.str name tk) name v false) _ _ _
  obtain ⟨nm, bs, mro, ns, qn, hd, sn, sb, ab, col, del⟩ := cd
  cases (show hd = true from hh)
  unfold storeInOwnDict ownDictForStores
  repeat (first | with_reducible refine PySem.OEX.store_in_old hns hw hz ?_ | with_reducible refine wpAny_loadPart_at hx ?_ | with_reducible refine lc.at ?_ | wp_step)
  intro h' tk' hn' hs
  exact hq h' tk' (fun b o hb ho => (hs.2 b hb).trans ho) hn'
end
end
structure OexG (K : PySem.W.Frag) (C : Addr) (B : String) : Prop where
  cls : ∃ nm q N bs bm sn sub ab col dd k0 k1 k2 k3 k5 bmB, ExcBaseFacts B (B ++ ".__new__") (B ++ ".__init__") bmB ∧ K.lookup C = some (excClassObj nm q C N bs bm true sn sub ab col dd k0 k1 k2 k3 k5 (B ++ ".__new__")) ∧
    (∀ X : String, bm.contains (.type X) = bmB.contains (.type X)) ∧ MroG (.ref C :: bm)
  sa : PySem.W.findIn K (.ref C) "__setattr__" = some (some (.builtin "object.__setattr__"))
  exC : PySem.W.subIn K (.ref C) (.type "BaseException") = some true
  tyC : PySem.W.typeIn K (.ref C) = some (.type "type")
  kC : PySem.W.keepIn K (.ref C) = true
section
variable {X : Cx} {pins : List (Addr × Obj)} {σ : L2.St} {H : Hp} {s : Shared} {a C dx : Addr} {f : Str} {y : V} {u : Value} {fs : List (Str × V)} {Q : Unit → Shared → Prop} {E : Value → Shared → Prop} {A : Around} {B : String}
theorem OexG.data (T : OexG X.K C B) : ∃ cd, PySem.W.clsIn X.K C = some cd ∧ MroG cd.mro ∧ cd.hasDict = true := by
  obtain ⟨nm, q, N, bs, bm, sn, sub, ab, col, dd, k0, k1, k2, k3, k5, bmB, F, hC, hT, hm⟩ := T.cls
  refine ⟨{ name := nm, bases := bs, mro := .ref C :: bm, ns := N, qualname := q, hasDict := true, slotNames := sn, subclasses := sub, abstract := ab, collection := col, hasDel := false }, ?_, hm, rfl⟩
  unfold PySem.W.clsIn
  rw [hC] <;> rfl
theorem exo_un {hp h' : Heap} {o' : Obj} (I : HOk X.prog X.w H hp) (e : H a = some (exo a C none)) (dn : hp.objs.size ≤ dx) (k : ∀ b o, b ≠ a → hp.get? b = some o → h'.get? b = some o) (hx : h'.get? a = some o') (D O : HO) :
    Un X.fs [] H (upd (upd H dx D) a O) hp h' := by
  have hnd : H dx = none := I.fresh dn
  have nd : ∀ {b : Addr} {o : Obj}, hp.get? b = some o → b ≠ dx := fun {b o} q => Nat.ne_of_lt (Nat.lt_of_lt_of_le (Heap.lt_size q) dn)
  have na : ∀ {b : Addr}, H b = none → b ≠ a := fun {b} n z => by subst z; rw [e] at n; cases n
  constructor
  · exact fun b o q n _ _ => k b o (na n) q
  · exact fun b o q n _ _ => ⟨o.slots, k b o (na n) q⟩
  · exact fun b o q n _ => by rw [upd_ne (na n), upd_ne (nd q)]; exact n
  · intro b o q _
    by_cases hb : b = a
    · subst hb; exact ⟨_, hx⟩
    · exact ⟨o, k b o hb q⟩
  · exact fun b xs q => by rw [upd_ne (at_ne e q exo_tup), upd_ne (ne_of_none q hnd)]; exact q
  · exact fun b o v q => by rw [upd_ne (at_ne e q exo_frz), upd_ne (ne_of_none q hnd)]; exact q
  · exact fun b ps q => ⟨#[], by rw [upd_ne (at_ne e q exo_tbl), upd_ne (ne_of_none q hnd), q]; simp⟩
theorem ostNewG (T : OexG X.K C B) (I : Inv X pins σ H s) (e : H a = some (exo a C none)) (hno : PySem.W.findIn X.K (.ref C) f = some none) (ry : RelV y u)
    (h : ∀ dx s', H dx = none → dx ≠ a → Inv X pins σ (upd (upd H dx (exd dx [(f, y)])) a (exo a C (some dx))) s' → Q () s') : wpAny (model X.prog X.w) A (setAttr (.ref a) f u) Q E s := by
  obtain ⟨cd, hcl, hm, hh⟩ := T.data
  obtain ⟨t1, ho⟩ := exo_at I.hok e
  obtain ⟨hp, g, d, t, os⟩ := s
  refine PySem.W.set_plain I.kIn (ox := { cls := .ref C, dict := none, data := .fields #[.ref t1, .none, .none, .none, .bool false, .none] }) (od := none) ⟨ho, rfl, rfl, trivial⟩ T.sa (setNewG I.kIn ho hcl hm hh hno ?_)
  intro h' tk' dx k dn dne hx hn
  have hnd : H dx = none := I.hok.fresh dn
  refine h dx _ hnd dne (I.un (t' := tk') (exo_un (X := X) I.hok e dn k hx (exd dx [(f, y)]) (exo a C (some dx))) ?_)
  intro b o q
  by_cases hb : b = a
  · subst hb
    rw [upd_same] at q
    cases q
    exact exo_ok hx
  · rw [upd_ne hb] at q
    by_cases hd : b = dx
    · subst hd
      rw [upd_same] at q
      cases q
      exact exd_ok hn (relO_put (fs := []) ry fun g => True.intro)
    · rw [upd_ne hd] at q
      refine (I.hok b o q).stay ?_ ?_ ?_
      · intro c v hc z
        refine k c v ?_ z
        rcases hc with rfl | hc
        · exact hb
        · exact at_ne e hc exo_own
      · intro c hc
        rw [upd_ne (at_ne e hc exo_own), upd_ne (ne_of_none hc hnd)]
        exact hc
      · intro c xs hc
        rw [upd_ne (at_ne e hc exo_tup), upd_ne (ne_of_none hc hnd)]
        exact hc
theorem ostOldG (T : OexG X.K C B) (I : Inv X pins σ H s) (e : H a = some (exo a C (some dx))) (ed : H dx = some (exd dx fs)) (hl : fs.length ≤ 900) (hno : PySem.W.findIn X.K (.ref C) f = some none) (ry : RelV y u)
    (h : ∀ s', Inv X pins σ (upd H dx (exd dx ((f, y) :: fs))) s' → Q () s') : wpAny (model X.prog X.w) A (setAttr (.ref a) f u) Q E s := by
  obtain ⟨cd, hcl, hm, hh⟩ := T.data
  obtain ⟨t1, ho⟩ := exo_at I.hok e
  obtain ⟨mA, hns, rel⟩ := exd_at I.hok ed
  have hw := within_of rel
  obtain ⟨hp, g, d, t, os⟩ := s
  obtain ⟨oD, _, _, hoD, _, _⟩ := hns.count hw
  refine PySem.W.set_plain I.kIn (ox := { cls := .ref C, dict := some dx, data := .fields #[.ref t1, .none, .none, .none, .bool false, .none] }) (od := some oD) ⟨ho, rfl, rfl, hoD⟩ T.sa (setOldG I.kIn ho hns hw (by rw [List.length_map]; omega) hcl hm hh hno ?_)
  intro h' tk' k hn
  have hd : ∃ o, h'.get? dx = some o := let ⟨o, _, _, e', _⟩ := hn; ⟨o, e'⟩
  exact h _ (I.write (t' := tk') (x := dx) (e := dx) (o := exd dx ((f, y) :: fs)) (by rw [ed]; exact True.intro) (.inl rfl) k hd (exd_ok hn (relO_put ry rel)))
theorem oinitG {us : List Value} {Q : Value → Shared → Prop} (T : OexG X.K C B) (I : Inv X pins σ H s) (e : H a = some (exo a C none)) (hl : us.length ≤ sizeLine) (h : ∀ s', Inv X pins σ H s' → Q .none s') :
    wpAny (model X.prog X.w) A (call (.builtin (B ++ ".__init__")) (.ref a :: us)) Q E s := by
  obtain ⟨nm, q, N, bs, bm, sn, sub, ab, col, dd, k0, k1, k2, k3, k5, bmB, F, hC, hT, hm⟩ := T.cls
  obtain ⟨t1, ho⟩ := exo_at I.hok e
  obtain ⟨hp, g, d, t, os⟩ := s
  refine wpAny_call (PySem.HandSPX.init_base F hT (I.kIn _ _ hC) ho hl ?_)
  intro h' t2 k hx
  have J := I.write (t' := t) (x := a) (e := a) (o := exo a C none) (by rw [e]; exact True.intro) (.inl rfl) k ⟨_, hx⟩ (exo_ok hx)
  have eu : upd H a (exo a C none) = H := funext fun b => by
    by_cases hb : b = a
    · rw [hb, upd_same, e]
    · rw [upd_ne hb]
  rw [eu] at J
  exact h _ J
end
def tBiG (K : PySem.W.Frag) (B : String) (ta : TA) : TE := fun σ H Q => ta σ H fun vs H1 => ∃ (a C : Addr) (ws : List V), vs = .ref a :: ws ∧ ws.length ≤ 1000 ∧ OexG K C B ∧ H1 a = some (exo a C none) ∧ Q .non H1
def tOstG (K : PySem.W.Frag) (f : Str) (to te : TE) : TS := fun D σ H => te σ H fun y H1 => to σ H1 fun x H2 => ∃ (a C : Addr) (B : String), x = .ref a ∧ OexG K C B ∧ PySem.W.findIn K (.ref C) f = some none ∧
  ((H2 a = some (exo a C none) ∧ ∀ dx, H2 dx = none → dx ≠ a → D.nx σ (upd (upd H2 dx (exd dx [(f, y)])) a (exo a C (some dx)))) ∨
    ∃ (dx : Addr) (fs : List (Str × V)), H2 a = some (exo a C (some dx)) ∧ H2 dx = some (exd dx fs) ∧ fs.length ≤ 900 ∧ D.nx σ (upd H2 dx (exd dx ((f, y) :: fs))))
section
variable {X : Cx} {o e : Expr} {es : List Expr} {to te : TE} {ta : TA} {f : Str} {p p' p1 p2 pos : Pos} {B : String} {Bn : Str}
theorem pe_initG {pl : Sem Bool} (hg : Gl X Bn) (hm : X.mg Bn = none) (hB : bootBuiltins Bn = some (.type B)) (hty : typeOf (.type B) = pure (.type "type")) (hst : Manifest.isStub B = false) (hh : PySem.W.handedIn (.builtin (B ++ ".__init__")) = true)
    (vV : PySem.W.findCls X.K (.type B) (.type "type") "__init__" = some (.val (.builtin (B ++ ".__init__")))) (ha : PA X (e :: es) ta)
    (hn : Bn ≠ "__name__" := by decide) (hd : (Bn == ("__debug__" : Str)) = false := by decide)
    (hc : eval (.Call (.Attribute (.Name Bn p1) "__init__" p2) (e :: es) [] pos) X.env = (do
      let ov ← eval (.Name Bn p1) X.env
      standAt p2.atName
      let (f, first) ← holding [ov] (getMethod ov "__init__" pl)
      callWith pos f first (backTo pos (starEach (e :: es) X.env)) (backToKw pos (keywordEach [] X.env))) := by rfl)
    (he : starEach (e :: es) X.env = (false, eval e X.env) :: starEach es X.env := by rfl) (hpl : (backTo pos (starEach es X.env)).any (·.1) = false := by rfl) :
    PE X (.Call (.Attribute (.Name Bn p1) "__init__" p2) (e :: es) [] pos) (tBiG X.K B ta) := by
  constructor
  intro pins s σ H Q I h
  refine PySem.W.methodCall_KW (ld_blt I hg hm hB ?_ hn hd) hc
  obtain ⟨m, fr⟩ := I.fr
  refine PySem.W.method_type fr I.ok.mod.kin hty hst vV hh ?_
  have run := ha.run pos pins _ σ H _ (I.tok (s.toks + 1)) h
  refine PyProof.Rows.callWith_method1 (thn run ?_) he hpl
  rintro us s1 ⟨vs, H1, I1, r1, a, C, ws, ev, hl, T, ea, q⟩
  subst ev
  cases r1 with
  | @cons _ u0 _ ur ra rw' =>
    obtain rfl : u0 = Value.ref a := ra
    refine oinitG (us := ur) T I1 ea ?_ fun s' J => ⟨.non, H1, J, rfl, q⟩
    rw [← Paired.length rw', sizeLine_eq]
    omega
theorem ps_ostG (ho : PE X o to) (he : PE X e te) (hs : swapsWith e (some (.Attribute o f p')) pos.line X.env = pure false := by rfl) : PS X (.Assign [.Attribute o f p'] e pos) (tOstG X.K f to te) := by
  constructor
  intro pins s σ H D I h
  refine plainObj_wpAny_Assign_Attribute (thn (he.run pins s σ H _ I h) ?_) hs
  rintro v s1 ⟨y, H1, I1, r1, q1⟩
  refine thn (ho.run pins s1 σ H1 _ I1 q1) ?_
  rintro u s2 ⟨x, H2, I2, r2, a, C, B, ex, T, hno, q⟩
  subst ex
  obtain rfl : u = Value.ref a := r2
  rcases q with ⟨ea, q⟩ | ⟨dx, fs, ea, ed, hl, q⟩
  · exact ostNewG T I2 ea hno r1 fun dx s' n ne J => ⟨σ, _, J, q dx n ne⟩
  · exact ostOldG T I2 ea ed hl hno r1 fun s' J => ⟨σ, _, J, q⟩
theorem pmk_G {CX : CXT} {x : Str} {C fI : Addr} {k : Nat} {fd : FuncData} {ps : List Str} {sp : Sp} {ds : List Value} {dvs : List V} (T : OexG X.K C B) (iC : PySem.W.findIn X.K (.ref C) "__init__" = some (some (.ref fI))) (tI : PySem.W.typeIn X.K (.ref fI) = some (.type "function"))
    (F1 : FnOk X.prog X.w X.K X.mg X.base CX k fI fd ps sp) (hr : Room (k + 1) X.A) (hb : Binds X.K fd ps ds) (hd : Vals dvs ds) (hx : Passes CX X (fun _ _ _ => False)) (hg : Gl X x) (hm : X.mg x = some (.ref C)) (ha : PA X (e :: es) ta)
    (hdb : (x == ("__debug__" : Str)) = false := by decide) (he : starEach (e :: es) X.env = (false, eval e X.env) :: starEach es X.env := by rfl) (hpl : (backTo pos (starEach es X.env)).any (·.1) = false := by rfl) :
    L2N.PMk X (.Call (.Name x p) (e :: es) [] pos) (tMkO C sp dvs ta) := by
  obtain ⟨nm, q, N, bs, bm, sn, sub, ab, col, dd, k0, k1, k2, k3, k5, bmB, F, hC, hT, hm1⟩ := T.cls
  intro pins s σ H Q I h
  refine wpAny_Call_Name_kw (ld_glob I hg hm ?_ hdb)
  refine PySem.W.callWith_K (h₀ := X.base) I.ok.mod.kin T.kC (thn (ha.run pos pins s σ H _ I h) ?_) he hpl
  rintro us ⟨hp, g, dr, tk, os⟩ ⟨vs, H1, I1, r1, hz, q1⟩
  refine ⟨I1.kIn, ?_⟩
  have hsz : hp.objs.size ≤ hp.objs.size + 1 := Nat.le_succ _
  have hq := q1 (hp.objs.size + 1) (I1.hok.fresh hsz)
  let G : Heap := (hp.push (PySem.W.kdv_tup us)).push (PySem.HandSPX.excO C hp.objs.size)
  have kk : ∀ b o, hp.get? b = some o → G.get? b = some o := fun b o z => Heap.get?_push_of_some _ (Heap.get?_push_of_some _ z)
  have hget : G.get? (hp.objs.size + 1) = some (PySem.HandSPX.excO C hp.objs.size) := by
    show ((hp.push (PySem.W.kdv_tup us)).push (PySem.HandSPX.excO C hp.objs.size)).get? (hp.objs.size + 1) = _
    heap_get
  have I2 := I1.laid (t' := tk) (a := hp.objs.size + 1) (o := exo (hp.objs.size + 1) C none) (h' := G) kk hsz (exo_ok hget)
  have r2 : Vals (V.ref (hp.objs.size + 1) :: (vs ++ dvs)) (Value.ref (hp.objs.size + 1) :: (us ++ ds)) := .cons rfl (r1.append hd)
  have hl : (Value.ref (hp.objs.size + 1) :: us ++ ds).length = ps.length := (r2.length.symm.trans (F1.len _ _ _ _ hq))
  have hus : us.length ≤ sizeLine := by
    rw [← Paired.length r1, sizeLine_eq]
    omega
  show wpAny _ _ (call (.ref C) us) _ _ _
  refine wpAny_call (PySem.HandSPX.call_own F hT (I1.kIn _ _ hC) (PySem.W.looks_findIn I1.kIn iC) (fun self => PySem.W.bind_fn I1.kIn self tI) hus (codeAny_mono (F1.run _ X.stack _ _ ⟨Value.ref (hp.objs.size + 1) :: us, []⟩ (Value.ref (hp.objs.size + 1) :: (us ++ ds)) _ _ (fun _ _ _ => False) (hr.make C us []) (I2.env0.make C us []) (hb _ (Value.ref (hp.objs.size + 1) :: us) I2.kIn hl) r2 hq) ?_))
  intro r s' hq'
  cases r with
  | error er => exact hx pins σ _ _ er s' I2 hq'
  | ok fl =>
    cases fl with
    | ret u =>
      obtain ⟨h2, g2, d2, t2, os'⟩ := s'
      obtain ⟨v, H2, os2, bare2, un2, hok2, rv, ev, d, fs, ea, ed, hd1, q2⟩ := hq'
      subst ev
      obtain ⟨t0, G0, J, kG, ge, hoe, na⟩ := mk_end0 (d2 := d2) (t2 := t2) I1 hsz kk un2 hok2 os2 bare2 ea ed hd1
      exact ⟨rv, hp.objs.size + 1, _, _, ⟨G0, g2, d2, t2, os'⟩, _, .ref C, some d, rfl, J, kG, ge, hoe, ⟨rfl, rfl, fun vs hv => by cases hv; rfl⟩, rfl, rfl, na, rfl, bare2, raises_own T.exC T.tyC, q2⟩
    | next => exact False.elim hq'
    | brk => exact False.elim hq'
    | cont => exact False.elim hq'
end
structure BaseG (Bn : Str) (B : String) : Prop where
  boot : bootBuiltins Bn = some (.type B)
  ty : typeOf (.type B) = pure (.type "type")
  stub : Manifest.isStub B = false
  hand : PySem.W.handedIn (.builtin (B ++ ".__init__")) = true
  nn : Bn ≠ "__name__"
  nd : (Bn == ("__debug__" : Str)) = false
theorem base_VE : BaseG "ValueError" "ValueError" := ⟨PyProof.Rows.Boot.«ValueError», PySem.OEX.typ_VE, by decide +kernel, by decide +kernel, by decide, by decide⟩
def bTail (B : String) : List Value := [.type B, .type "Exception", .type "BaseException", .type "object"]
theorem mroG_one {C : Addr} {B : String} (h : ∀ self : Value, refuseLoop self "__setattr__" (bTail B) = pure ()) : MroG (.ref C :: bTail B) := by
  refine ⟨fun self => ?_, rfl, ?_⟩
  · rw [refuseLoop_ref]
    exact h self
  · unfold bTail
    simp
structure ExB (Bn : Str) (B : String) : Prop where
  F : ExcBaseFacts B (B ++ ".__new__") (B ++ ".__init__") (bTail B)
  pass : ∀ self : Value, refuseLoop self "__setattr__" (bTail B) = pure ()
  bs : BaseG Bn B
theorem exb_VE : ExB "ValueError" "ValueError" := ⟨F.excBase_ValueError, F.store_ValueError.passes, base_VE⟩
def oexGB (K : PySem.W.Frag) (C : Addr) (B : String) : Bool := (match K.lookup C with
  | some ⟨.type "type", _, .cls cd, sl⟩ => (match sl.toList with
    | [_, _, _, _, some (.builtin n), _] => cd.mro == .ref C :: bTail B && n == B ++ ".__new__" && !cd.hasDel && cd.hasDict
    | _ => false)
  | _ => false) && (decide (PySem.W.findIn K (.ref C) "__setattr__" = some (some (.builtin "object.__setattr__"))) && (decide (PySem.W.subIn K (.ref C) (.type "BaseException") = some true) && (decide (PySem.W.typeIn K (.ref C) = some (.type "type")) && PySem.W.keepIn K (.ref C))))
theorem oexGB_ok {K : PySem.W.Frag} {C : Addr} {Bn : Str} {B : String} (b : ExB Bn B) (h : oexGB K C B = true) : OexG K C B := by
  unfold oexGB at h
  simp only [Bool.and_eq_true, decide_eq_true_eq] at h
  obtain ⟨h1, h2, h3, h4, h5⟩ := h
  refine ⟨?_, h2, h3, h4, h5⟩
  split at h1
  · rename_i dd cd sl lk
    split at h1
    · rename_i k0 k1 k2 k3 n k5 es
      simp only [Bool.and_eq_true, beq_iff_eq, Bool.not_eq_true'] at h1
      obtain ⟨⟨⟨r1, r2⟩, r3⟩, r4⟩ := h1
      obtain ⟨nm, bs, mro, ns, qn, hd, sn, sb, ab, col, dl⟩ := cd
      obtain ⟨l⟩ := sl
      dsimp only at r1 r3 r4 es
      subst r1 r3 r4 r2 es
      exact ⟨nm, qn, ns, bs, bTail B, sn, sb, ab, col, dd, k0, k1, k2, k3, k5, bTail B, b.F, lk, fun _ => rfl, mroG_one b.pass⟩
    · cases h1
  · cases h1
end Dm
end
section
namespace Dm
open PySem PySem.Spec PyProof.Rows L2
variable {gp : Prop}
def spI (C : Addr) (f : Str) : Sp := fun vs H Q _ => ∃ (a : Addr) (y : V), vs = [.ref a, y] ∧ H a = some (exo a C none) ∧ ∀ dx, H dx = none → dx ≠ a → Q .non (upd (upd H dx (exd dx [(f, y)])) a (exo a C (some dx)))
structure XCl (P : Program) (w : World) (K : PySem.W.Frag) (mg : Str → Option Value) (base : Heap) (x f : Str) (C : Addr) (B : String) : Prop where
  at_ : mg x = some (.ref C)
  oex : OexG K C B
  xf : XfC K C
  no : PySem.W.findIn K (.ref C) f = some none
  ec : ExcC K C
  ve : B = "ValueError" → PySem.W.kitOne K (.ref C) (.type "ValueError") = some true
  ini : ∃ (fI : Addr) (fd : FuncData) (y : Str), PySem.W.findIn K (.ref C) "__init__" = some (some (.ref fI)) ∧ PySem.W.typeIn K (.ref fI) = some (.type "function") ∧ Binds K fd ["self", y] [] ∧ FnOk P w K mg base (L2N.CX P w) 1 fI fd ["self", y] (spI C f)
def mRaise (x f : Str) (a : M D) : M Fl := fun s h => (a s h).bind fun d s h => .exc x [(f, d)] s h
section
variable {X : Cx} {W : WX} {k : Nat} {x f : Str} {C : Addr} {B : String} {a : Expr} {ma : M D} {p pos pos' : Pos}
theorem s_raise (T : XCl X.prog X.w X.K X.mg X.base x f C B) (q : Cq gp X W k) (ha : PE X a (lE X.K X.mg W ma)) (hk : 2 ≤ k := by decide) (hg : Gl X x := by rfl) (hdb : (x == ("__debug__" : Str)) = false := by decide)
    (hs : starEach [a] X.env = [(false, eval a X.env)] := by rfl) : PS X (.Raise (some (.Call (.Name x p) [a] [] pos)) none pos') (lS X.K X.mg W (mRaise x f ma)) := by
  obtain ⟨fI, fd, y, i1, i2, i3, i4⟩ := T.ini
  have hx : Passes (L2N.CX X.prog X.w) X (fun _ _ _ => False) := L2N.passes_call q.tk fun _ _ _ _ z => z.elim
  have hp : PA X [a] (lA X.K X.mg W (mCons ma mNil)) := a_cons ha a_nil (by rw [hs]; rfl)
  have B := L2N.ps_raise (pos := pos') q.cm q.tk (pmk_G (p := p) (pos := pos) (dvs := []) (ds := []) T.oex i1 i2 i4 (q.rm.mono hk) i3 .nil hx hg T.at_ hp hdb (by rw [hs]; rfl) (by rfl))
  refine ps_imp B fun E s H ⟨c, sd, h, rs, rh, o⟩ => ⟨c, sd, h, rs, rh, ?_⟩
  have e1 : mCons ma mNil sd h = (ma sd h).bind fun d s h => .ok [d] s h := by
    unfold mCons mNil
    cases ma sd h <;> rfl
  show Out X.K X.mg (RelL X.K) c H s _ W (mCons ma mNil sd h)
  rw [e1]
  unfold mRaise at o
  cases e2 : ma sd h with
  | bad => rw [e2] at o; exact o.elim
  | exc y2 fs sd1 h1 => rw [e2] at o; exact fun cls dx c' H' x1 x2 x3 x4 => o s cls dx c' H' x1 x2 x3 x4
  | ok d sd1 h1 =>
    rw [e2] at o
    intro vs c1 H1 x1 rs1 rh1 rl
    obtain ⟨v, rfl, rv⟩ := rel1 rl
    refine ⟨by simp, fun b hb => ?_⟩
    refine ⟨b, v, by simp, upd_same, fun dx hdx hne => ⟨rfl, dx, [(f, v)], upd_same, by rw [upd_ne hne]; exact upd_same, by rw [← hdx, upd_ne hne], ?_⟩⟩
    have hd1 : H1 dx = none := by rw [← hdx, upd_ne hne]
    have eH : upd (del (upd (upd (upd H1 b (exo b C none)) dx (exd dx [(f, v)])) b (exo b C (some dx))) b) dx (HO.xd [(f, v)]) = upd H1 dx (.xd [(f, v)]) := by
      funext z
      by_cases h1 : z = dx
      · subst h1; rw [upd_same, upd_same]
      · rw [upd_ne h1, upd_ne h1]
        by_cases h2 : z = b
        · subst h2; rw [del_same, hb]
        · rw [del_ne h2, upd_ne h2, upd_ne h1, upd_ne h2]
    rw [eH]
    have g := grow_new (o := .xd [(f, v)]) hd1
    exact o s (.ref C) (some dx) c1 _ (x1.trans (Ext.grow g)) (rs1.grow g) (rh1.grow g) ⟨C, T.at_, rfl, fun _ => ⟨dx, [(f, v)], rfl, rh1.out hd1, upd_same, ⟨(f, v), [], rfl, rfl, rv.car (Car.grow g), rfl⟩⟩⟩
end
def mFld (fs : List (Str × D)) (f : Str) : M D := mOf (fs.lookup f)
def lXE (K : PySem.W.Frag) (mg : Str → Option Value) (i : Nat) (a : Addr) (cls : Value) (d : Option Addr) (x : Str) (fs : List (Str × D)) (m : M D) : TE := fun s H Q => s[i]? = some (some (.ref a)) ∧ ∃ c sd h, RelS K c H sd s ∧ RelH K c H h ∧ ExR K mg c H x fs cls d ∧ Out K mg (Rel K) c H s Q W0 (m sd h)
def lXA (K : PySem.W.Frag) (mg : Str → Option Value) (i : Nat) (a : Addr) (cls : Value) (d : Option Addr) (x : Str) (fs : List (Str × D)) (m : M (List D)) : TA := fun s H Q => s[i]? = some (some (.ref a)) ∧ ∃ c sd h, RelS K c H sd s ∧ RelH K c H h ∧ ExR K mg c H x fs cls d ∧ Out K mg (RelL K) c H s Q W0 (m sd h)
def lXS (K : PySem.W.Frag) (mg : Str → Option Value) (i : Nat) (a : Addr) (cls : Value) (d : Option Addr) (x : Str) (su : List (Str × D) → M Fl) : TS := fun E s H => s[i]? = some (some (.ref a)) ∧ ∃ c sd h fs, RelS K c H sd s ∧ RelH K c H h ∧ ExR K mg c H x fs cls d ∧ OutS K mg c H E W0 (su fs sd h)
theorem relF_look {K : PySem.W.Frag} {c : C} {H : Hp} {f : Str} {y : D} : ∀ {fs : List (Str × D)} {vs : List (Str × V)}, RelF K c H fs vs → fs.lookup f = some y → ∃ v, vs.lookup f = some v ∧ Rel K c H y v
  | [], vs, _, e => by simp at e
  | (g, z) :: fs, vs, h, e => by
    obtain ⟨⟨g', v⟩, r, e1, e2, h1, h2⟩ := (show ∃ v r, vs = v :: r ∧ g = v.1 ∧ Rel K c H z v.2 ∧ RelF K c H fs r from h)
    subst e1
    have e2' : g = g' := e2
    subst e2'
    by_cases hf : f = g
    · subst hf
      rw [List.lookup_cons_self] at e
      cases e
      exact ⟨v, List.lookup_cons_self, h1⟩
    · have hb : (f == g) = false := by simpa using hf
      rw [List.lookup_cons, hb] at e
      obtain ⟨u, e3, r3⟩ := relF_look h2 e
      exact ⟨u, by rw [List.lookup_cons, hb]; exact e3, r3⟩
section
variable {X : Cx} {i : Nat} {a : Addr} {oe : Obj} {cls : Value} {d : Option Addr} {pn : List (Addr × Obj)} {x n f : Str} {fs : List (Str × D)} {e : Expr} {es : List Expr} {m : M D} {ms : M (List D)} {C : Addr} {pos p : Pos} {P : Program} {w : World} {base : Heap} {B : String}
theorem x_of (h : PE (X.suite a ((a, oe) :: pn)) e (lE X.K X.mg W0 m)) : PE (X.suite a ((a, oe) :: pn)) e (lXE X.K X.mg i a cls d x fs m) := pe_imp h fun s H Q ⟨_, c, sd, h, rs, rh, _, q⟩ => ⟨c, sd, h, rs, rh, q⟩
theorem x_fld (T : XCl P w X.K X.mg base x f C B) (hz : Zc cls d oe) (hf : ∃ vs, oe.data = .fields vs) (hN : X.N[i]? = some n := by rfl) (hv : Vis X.env.scope n := by first | exact Or.inl rfl | exact Or.inr (Or.inl rfl) | exact Or.inr (Or.inr rfl)) (hd : (n == ("__debug__" : Str)) = false := by decide)
    (hcd : (n == ("__classdict__" : Str)) = false := by decide) : PE (X.suite a ((a, oe) :: pn)) (.Attribute (.Name n p) f pos) (lXE X.K X.mg i a cls d x fs (mFld fs f)) := by
  refine pe_imp (pe_xf (X := X) (pn := pn) T.xf T.no hz hf (pe_var (X := X.suite a ((a, oe) :: pn)) (pos := p) (i := i) hN hv hd hcd) (by rfl)) fun s H Q ⟨hs, c, sd, h, rs, rh, xr, q⟩ => ⟨.ref a, hs, rfl, ?_⟩
  obtain ⟨T0, e1, e2, e3⟩ := xr
  unfold mFld at q
  cases e4 : fs.lookup f with
  | none =>
    unfold mOf at q
    rw [e4] at q
    exact q.elim
  | some y =>
    rw [e4] at q
    have ne : fs ≠ [] := fun z => by rw [z] at e4; simp at e4
    obtain ⟨dd, vs, f1, f2, f3, f4⟩ := e3 ne
    obtain ⟨v, g1, g2⟩ := relF_look f4 e4
    rw [T.at_] at e1
    cases e1
    exact ⟨e2, dd, vs, v, f1, f3, g1, q v c H (Ext.refl _ _) rs rh g2⟩
theorem xa_nil : PA (X.suite a ((a, oe) :: pn)) [] (lXA X.K X.mg i a cls d x fs mNil) := pa_imp pa_nil fun s H Q ⟨_, c, sd, h, rs, rh, _, q⟩ => q [] c H (Ext.refl _ _) rs rh rfl
theorem xa_cons (ha : PE (X.suite a ((a, oe) :: pn)) e (lXE X.K X.mg i a cls d x fs m)) (hr : PA (X.suite a ((a, oe) :: pn)) es (lXA X.K X.mg i a cls d x fs ms)) (hs : starEach (e :: es) X.env = (false, eval e X.env) :: starEach es X.env := by rfl) : PA (X.suite a ((a, oe) :: pn)) (e :: es) (lXA X.K X.mg i a cls d x fs (mCons m ms)) :=
  pa_imp (pa_cons ha hr hs) fun s H Q ⟨hs, c, sd, h, rs, rh, xr, q⟩ => ⟨hs, c, sd, h, rs, rh, xr, (Out.bind (R := Rel X.K) q).imp fun v H1 ⟨c1, d1, sd1, h1, rs1, rh1, r1, x1, q1⟩ =>
    ⟨hs, c1, sd1, h1, rs1, rh1, xr.car x1.car, (Out.bind (R := RelL X.K) q1).imp fun y H2 ⟨c2, d2, sd2, h2, rs2, rh2, r2, x2, q2⟩ => q2 _ c2 H2 (Ext.refl _ _) rs2 rh2 ⟨v, y, rfl, r1.car x2.car, r2⟩⟩⟩
theorem x_tup {k} (h : PA (X.suite a ((a, oe) :: pn)) es (lXA X.K X.mg i a cls d x fs ms)) : PE (X.suite a ((a, oe) :: pn)) (.Tuple es k pos) (lXE X.K X.mg i a cls d x fs (mTup ms)) :=
  pe_imp (pe_tupF h) fun s H Q ⟨hs, c, sd, h, rs, rh, xr, q⟩ => ⟨hs, c, sd, h, rs, rh, xr, (Out.bind (R := RelL X.K) q).imp fun y H1 ⟨c1, d1, sd1, h1, rs1, rh1, r1, _, q1⟩ => by
    by_cases hl : d1.length ≤ 100000
    · rw [if_pos hl] at q1
      refine ⟨line5 (by rw [← r1.len]; exact hl), fun p o hp ho => ?_⟩
      have g := grow_new (o := .frz o (.tup y)) hp
      exact q1 _ c1 _ (Ext.grow g) (rs1.grow g) (rh1.grow g) ⟨p, y, rfl, .inl ⟨rh1.out hp, o, upd_same, ho⟩, r1.car (Car.grow g)⟩
    · rw [if_neg hl] at q1
      exact q1.elim⟩
theorem xs_ret {mf : List (Str × D) → M D} (ha : ∀ fs, PE (X.suite a ((a, oe) :: pn)) e (lXE X.K X.mg i a cls d x fs (mf fs))) : PS (X.suite a ((a, oe) :: pn)) (.Return (some e) pos) (lXS X.K X.mg i a cls d x fun fs => mRet (mf fs)) :=
  ⟨fun pins st s H D I ⟨hs, c, sd, h, fs, rs, rh, xr, q⟩ => (ps_imp (t' := fun E s H => lXE X.K X.mg i a cls d x fs (mf fs) s H E.rt) (ps_ret (ha fs)) fun E s H z => z).run pins st s H D I ⟨hs, c, sd, h, rs, rh, xr, (OutS.bind (R := Rel X.K) q).imp fun v H1 ⟨c1, d1, sd1, h1, rs1, rh1, r1, _, q1⟩ => q1 v c1 H1 (Ext.refl _ _) rh1 r1⟩⟩
theorem xss_one {st : Stmt} {su : List (Str × D) → M Fl} (h : PS (X.suite a ((a, oe) :: pn)) st (lXS X.K X.mg i a cls d x su)) : PSs (X.suite a ((a, oe) :: pn)) [st] (lXS X.K X.mg i a cls d x su) := pss_one h
end
structure Away (K : PySem.W.Frag) (mg : Str → Option Value) (x : Str) (xs : List Str) : Prop where
  self : ∀ C, mg x = some (.ref C) → PySem.W.exmOne K (.ref C) (.ref C) = some true
  other : ∀ y ∈ xs, ∀ B C, mg y = some (.ref B) → mg x = some (.ref C) → PySem.W.exmOne K (.ref B) (.ref C) = some false
def unset (i : Nat) : Res Fl → Res Fl
  | .ok .nx s h => .ok .nx (s.set i .no) h
  | .ok .bk s h => .ok .bk (s.set i .no) h
  | .ok .ct s h => .ok .ct (s.set i .no) h
  | .ok (.rt d) s h => .ok (.rt d) s h
  | _ => .bad
def mTry (xs : List Str) (x : Str) (i : Nat) (b : M Fl) (su : List (Str × D) → M Fl) : M Fl := fun s h => match b s h with
  | .exc y fs s1 h1 => if y = x then (if i < s1.length then unset i (su fs (s1.set i .no) h1) else .bad) else if y ∈ xs then .exc y fs s1 h1 else .bad
  | r => r
theorem Cq.tr {X : Cx} {W W' : WX} {k : Nat} (q : Cq gp X W k) {pn : List (Addr × Obj)} {xe : Value → Shared → Prop} (tk : L2N.Takes (X.tr pn xe) W') : Cq gp (X.tr pn xe) W' k := ⟨tk, q.gu, q.rm, q.cm, q.nd⟩
theorem s_tryN {X : Cx} {W : WX} {k i : Nat} {x n : Str} {xs : List Str} {C : Addr} {body suite : List Stmt} {b₀ : Stmt} {np pos pos' : Pos} {mb : M Fl} {su : List (Str × D) → M Fl} (q : Cq gp X W k) (hC : X.mg x = some (.ref C)) (ap : Away X.K X.mg x xs)
    (hb : ∀ (W' : WX) (pn : List (Addr × Obj)) (xe : Value → Shared → Prop), Cq gp (X.tr pn xe) W' k → PassesOwn (model X.prog X.w) X.A X.env xe → PSs (X.tr pn xe) body (lS X.K X.mg W' mb))
    (hsu : ∀ (a : Addr) (oe : Obj) (cls : Value) (d : Option Addr) (pn : List (Addr × Obj)), L2N.Zn cls d oe → (∃ vs, oe.data = .fields vs) → PSs (X.suite a ((a, oe) :: pn)) (b₀ :: suite) (lXS X.K X.mg i a cls d x su))
    (hg : Gl X x := by rfl) (hdb : (x == ("__debug__" : Str)) = false := by decide) (hi : X.N[i]? = some n := by rfl) (hln : X.env.kindOf n = some .local := by rfl) (hs : X.stack = X.env :: X.outer := by rfl) (hf : X.env.frame = some X.env.locals := by rfl) :
    PS X (.Try body [.ExceptHandler (some (.Name x np)) (some n) (b₀ :: suite) pos'] [] [] pos) (lS X.K X.mg W (mTry xs x i mb su)) := by
  refine ps_imp (L2N.ps_try_as (i := i) (c := .ref C) (tb := fun W' => lS X.K X.mg W' mb) hs hf q.nd hi hln ⟨hg, hdb, .inl hC⟩ q.tk (fun W' pn xe tk po => hb W' pn xe (q.tr tk) po) hsu) fun E s H ⟨c, sd, h, rs, rh, o⟩ => ⟨c, sd, h, rs, rh, ?_⟩
  unfold mTry at o
  cases e1 : mb sd h with
  | bad => rw [e1] at o; exact o.elim
  | ok f sd1 h1 =>
    rw [e1] at o
    cases f <;> exact o
  | exc y fs sd1 h1 =>
    rw [e1] at o
    intro s' cls dx c' H' x1 rs1 rh1 xr
    obtain ⟨T, t1, t2, t3⟩ := id xr
    subst t2
    have o' : OutS X.K X.mg c H E W (if y = x then (if i < sd1.length then unset i (su fs (sd1.set i .no) h1) else .bad) else if y ∈ xs then .exc y fs sd1 h1 else .bad) := o
    by_cases hy : y = x
    · subst hy
      rw [if_pos rfl] at o'
      have hl0 : i < sd1.length := Classical.byContradiction fun hn => by
        rw [if_neg hn] at o'
        exact o'.elim
      rw [if_pos hl0] at o'
      rw [hC] at t1
      cases t1
      refine ⟨true, ap.self C hC, fun _ a na => ?_, fun z => nomatch z⟩
      have hl : i < s'.length := by rw [← rs1.len]; exact hl0
      refine ⟨List.getElem?_set_self hl, c', sd1.set i .no, h1, fs, rs1.none _, rh1, xr, ?_⟩
      have o2 := OutS.shift (m := unset i (su fs (sd1.set i .no) h1)) o' x1
      cases e2 : su fs (sd1.set i .no) h1 with
      | bad => rw [e2] at o2; exact o2.elim
      | exc z gs sd2 h2 => rw [e2] at o2; exact o2.elim
      | ok f sd2 h2 =>
        rw [e2] at o2
        cases f with
        | nx => exact fun s2 c2 H2 x2 r2 r3 => o2 _ c2 H2 x2 (r2.none _) r3
        | bk => exact fun s2 c2 H2 x2 r2 r3 => o2 _ c2 H2 x2 (r2.none _) r3
        | ct => exact fun s2 c2 H2 x2 r2 r3 => o2 _ c2 H2 x2 (r2.none _) r3
        | rt d => exact o2
    · rw [if_neg hy] at o'
      by_cases hm : y ∈ xs
      · rw [if_pos hm] at o'
        exact ⟨false, ap.other y hm T C t1 hC, fun z => (nomatch z), fun _ => o' s' _ dx c' H' x1 rs1 rh1 xr⟩
      · rw [if_neg hm] at o'
        exact o'.elim
end Dm
end
section
namespace Dm
open PySem PySem.Spec PyProof.Rows L2
abbrev frM (g : Addr → Option Obj) (n : Nat) : PySem.W.Frag := He.frT g (sysModules :: He.asD g n)
structure SaysM (fa : List He.Fa) (fn : List He.DefD) (tf : List He.Defn) (ex : PySem.W.Frag → Bool) (h : Heap) (K : PySem.W.Frag) : Prop where
  d : He.SaysD fa fn K
  more : ex K = true
  hd : ∀ p ∈ tf, PySem.W.codeHdIn K (He.cT K p).1 (He.cT K p).2 = true
  out : ∀ p ∈ tf, K.lookup (He.cT K p).2 = none
  emp : ∀ p ∈ tf, h.get? (He.cT K p).2 = some { cls := .none, data := .fields #[] }
abbrev AlM : Type := He.AlD × Bool
def obsM (n : Nat) (fa : List He.Fa) (fn : List He.DefD) (tf : List He.Defn) (ex : PySem.W.Frag → Bool) (g : Addr → Option Obj) : AlM := (He.obsD fa fn (frM g n), ex (frM g n) && He.tabsB g tf (frM g n))
theorem saysM_of {n : Nat} {fa : List He.Fa} {fn : List He.DefD} {tf : List He.Defn} {ex : PySem.W.Frag → Bool} {h : Heap} (e : obsM n fa fn tf ex h.get? = (He.valD fn, true)) : SaysM fa fn tf ex h (frM h.get? n) := by
  injection e with e1 e2
  obtain ⟨m1, m2⟩ := Bool.and_eq_true_iff.mp e2
  have row : ∀ p ∈ tf, PySem.W.codeHdIn (frM h.get? n) (He.cT (frM h.get? n) p).1 (He.cT (frM h.get? n) p).2 = true ∧ ∃ o, h.get? (He.cT (frM h.get? n) p).2 = some o ∧ He.emptyTab o = true := fun p hp => by
    obtain ⟨r1, r2⟩ := Bool.and_eq_true_iff.mp (List.all_eq_true.mp m2 p hp)
    cases z : h.get? (He.cT (frM h.get? n) p).2 with
    | none => rw [z] at r2; cases r2
    | some o => rw [z] at r2; exact ⟨r1, o, rfl, r2⟩
  refine ⟨e1, m1, fun p hp => (row p hp).1, fun p hp => ?_, fun p hp => ?_⟩
  · obtain ⟨_, o, z1, z2⟩ := row p hp
    exact He.frT_none z1 z2
  · obtain ⟨_, o, z1, z2⟩ := row p hp
    rw [z1, He.emptyTab_eq z2]
def hkM (n : Nat) (fa : List He.Fa) (fn : List He.DefD) (tf : List He.Defn) (ex : PySem.W.Frag → Bool) : PySem.W.Hook where
  α := AlM
  obs := fun s => obsM n fa fn tf ex s.heap.get?
  val := fun _ => (He.valD fn, true)
  says := fun _ h => ∃ K : PySem.W.Frag, K.In h ∧ SaysM fa fn tf ex h K
  of := fun _ _ e => ⟨_, He.frT_in, saysM_of e⟩
  keeps := fun _ _ _ ⟨K, a, b⟩ k => ⟨K, PySem.W.Frag.In.keeps a k, b.d, b.more, b.hd, b.out, fun p hp => k _ _ (b.emp p hp)⟩
theorem obsM_eq {n : Nat} {fa : List He.Fa} {fn : List He.DefD} {tf : List He.Defn} {ex : PySem.W.Frag → Bool} {g : Addr → Option Obj} {s : Shared} (h : ∀ a, g a = s.heap.get? a) : obsM n fa fn tf ex g = (hkM n fa fn tf ex).obs s := by
  rw [show g = s.heap.get? from funext h]
  rfl
def smB (K : PySem.W.Frag) : Bool := He.dictB K sysModules
def clsBd : Stmt → List Stmt
  | .ClassDef (body := bs) .. => bs
  | _ => []
def excB (K : PySem.W.Frag) (C : Addr) : Bool := decide (PySem.W.findIn K (.ref C) "__class__" = some (some (.builtin "object.__class__"))) && (decide (PySem.W.specialIn K (.builtin "object.__class__") "__get__" = some (some (.builtin "getset_descriptor.__get__"))) && (decide (PySem.W.takesIn K (.builtin "object.__class__") = some true) && (decide (PySem.W.mroIn K C (.type "object") = some true))))
def xclB (K : PySem.W.Frag) (x f : Str) (B : String) : Bool := (oexGB K (He.ga K x) B && (!decide (B = "ValueError") || decide (PySem.W.kitOne K (.ref (He.ga K x)) (.type "ValueError") = some true))) && (xfB K (He.ga K x) && (decide (PySem.W.findIn K (.ref (He.ga K x)) f = some none) && (decide (PySem.W.findIn K (.ref (He.ga K x)) "__init__" = some (some (.ref (He.ma K (He.ga K x) "__init__")))) && (decide (PySem.W.typeIn K (.ref (He.ma K (He.ga K x) "__init__")) = some (.type "function")) && excB K (He.ga K x)))))
theorem xcl_mk {P : Program} {w : World} {K : PySem.W.Frag} {mg : Str → Option Value} {base : Heap} {x f y Bn : Str} {B : String} {fd : FuncData} (bB : ExB Bn B) (hx : mg x = some (.ref (He.ga K x))) (h : xclB K x f B = true) (hb : Binds K fd ["self", y] [])
    (F : OexG K (He.ga K x) B → PySem.W.findIn K (.ref (He.ga K x)) f = some none → FnOk P w K mg base (L2N.CX P w) 1 (He.ma K (He.ga K x) "__init__") fd ["self", y] (spI (He.ga K x) f)) : XCl P w K mg base x f (He.ga K x) B := by
  unfold xclB at h
  simp only [Bool.and_eq_true, decide_eq_true_eq] at h
  obtain ⟨⟨h1, h7⟩, h2, h3, h4, h5, h6⟩ := h
  unfold excB at h6
  simp only [Bool.and_eq_true, decide_eq_true_eq] at h6
  obtain ⟨g1, g2, g3, g4⟩ := h6
  have X := xfB_ok h2
  exact ⟨hx, oexGB_ok bB h1, X, h3, ⟨X.ga, X.gg, X.exC, X.hdC, g1, g2, g3, g4⟩, fun e => by simpa [e] using h7, _, fd, y, h4, h5, hb, F (oexGB_ok bB h1) h3⟩
def awayB (K : PySem.W.Frag) (x : Str) (xs : List Str) : Bool := decide (PySem.W.exmOne K (.ref (He.ga K x)) (.ref (He.ga K x)) = some true) && xs.all fun y => decide (PySem.W.exmOne K (.ref (He.ga K y)) (.ref (He.ga K x)) = some false)
theorem away_mk {K : PySem.W.Frag} {mg : Str → Option Value} {x : Str} {xs : List Str} (hx : mg x = some (.ref (He.ga K x))) (hxs : ∀ y ∈ xs, mg y = some (.ref (He.ga K y))) (h : awayB K x xs = true) : Away K mg x xs := by
  obtain ⟨h1, h2⟩ := Bool.and_eq_true_iff.mp h
  refine ⟨fun C e => ?_, fun y hy B C e1 e2 => ?_⟩
  · rw [hx] at e
    cases e
    exact of_decide_eq_true h1
  · rw [hx] at e2
    rw [hxs y hy] at e1
    cases e1
    cases e2
    exact of_decide_eq_true (List.all_eq_true.mp h2 y hy)
end Dm
end
section
namespace Dm
open PySem PySem.Spec PyProof.Rows L2
variable {gp : Prop}
mutual
def D.pyx : D → Option PyData
  | .non => some .none
  | .bl b => some (.bool b)
  | .int i => some (.int i)
  | .str x => some (.str x)
  | .tup xs => (D.pyxL xs).map .tuple
  | .lst xs => (D.pyxL xs).map .list
  | .ro xs => (D.pyxL xs).map .list
  | .edt => some (.dict [])
  | .dtx k n => some (.dict [(.str k, .int n)])
  | .ref _ => none
def D.pyxL : List D → Option (List PyData)
  | [] => some []
  | d :: ds => match D.pyx d, D.pyxL ds with
    | some e, some es => some (e :: es)
    | _, _ => none
end
section
variable {X : Cx} {pins : List (Addr × Obj)} {σ : L2.St} {H : Hp} {s : Shared} {c : C}
def Sound (K : PySem.W.Frag) (H : Hp) (b : Addr) : Prop := H b ≠ none ∨ (∃ o, K.lookup b = some o ∧ o.cls = .type "list") ∨ (b == sysModules) = false
theorem edt_at (I : Inv X pins σ H s) {a : Addr} (e : H a = some (.dK [])) : ∃ o es n, s.heap.get? a = some o ∧ o.cls = .type "dict" ∧ o.data = .dict es n ∧ es.toList = [] ∧ (a == sysModules) = false := by
  obtain ⟨_, h2, vs, kv, o, es, ep, h3, h4, h5, h6, h7, h8⟩ : ([] : List (Key × V)).length ≤ sizeLine ∧ (a == sysModules) = false ∧ ∃ vs, KV [] vs ∧ s.heap.DictOf (mixKind X.prog X.w) a vs := I.hok a _ e
  cases kv
  have l := h7.length
  exact ⟨o, es, ep, h3, h4.1, h5, List.eq_nil_of_length_eq_zero l, h2⟩
theorem dtx_at (I : Inv X pins σ H s) {a : Addr} {k : Str} {m : Int} (e : H a = some (.dK [(.inr k, .int m)])) : ∃ o es n t u, s.heap.get? a = some o ∧ o.cls = .type "dict" ∧ o.data = .dict es n ∧ es.toList.map (·.key) = [.str k t] ∧ es.toList.map (·.val) = [.int m u] ∧ (a == sysModules) = false := by
  obtain ⟨_, h2, vs, kv, o, es, ep, h3, h4, h5, h6, h7, h8⟩ : ([((Sum.inr k : Key), .int m)] : List (Key × V)).length ≤ sizeLine ∧ (a == sysModules) = false ∧ ∃ vs, KV [((Sum.inr k : Key), .int m)] vs ∧ s.heap.DictOf (mixKind X.prog X.w) a vs := I.hok a _ e
  cases kv with
  | @cons _ q _ qs g1 g2 =>
    cases g2
    obtain ⟨q1, q2⟩ := q
    obtain ⟨rfl, u, rfl⟩ : Sum.inr k = q1 ∧ ∃ u, q2 = .int m u := ⟨g1.1, g1.2⟩
    cases hes : es.toList with
    | nil => rw [hes] at h7; cases h7
    | cons en r =>
      rw [hes] at h7
      cases h7 with
      | cons w1 w2 w3 =>
        cases w3
        rcases keyIs_shape (k := Sum.inr k) (v := en.key) w1 with ⟨j, t, z, _⟩ | ⟨y, t, z, z2⟩
        · cases z
        · cases z
          exact ⟨o, es, ep, t, u, h3, h4.1, h5, by rw [hes]; simp [z2], by rw [hes]; simp [w2], h2⟩
mutual
theorem Rel.rds (I : Inv X pins σ H s) : ∀ {d : D} {v : V} {u : Value} {e : PyData}, Rel X.K c H d v → RelV v u → d.pyx = some e → ∃ as, Reads s.heap u e as ∧ ∀ b ∈ as, Sound X.K H b
  | .non, v, u, e, r, ru, h => by cases h; cases r; cases ru; exact ⟨_, Reads.none, by simp⟩
  | .bl b, v, u, e, r, ru, h => by cases h; cases r; cases ru; exact ⟨_, Reads.bool b, by simp⟩
  | .int i, v, u, e, r, ru, h => by cases h; cases r; obtain ⟨t, rfl⟩ := ru; exact ⟨_, Reads.int i t, by simp⟩
  | .str x, v, u, e, r, ru, h => by cases h; cases r; obtain ⟨t, rfl⟩ := ru; exact ⟨_, Reads.str x t, by simp⟩
  | .tup xs, v, u, e, r, ru, h => by
    obtain ⟨a, vs, rfl, t, rl⟩ := r
    cases ru
    cases q : D.pyxL xs with
    | none => simp [D.pyx, q] at h
    | some es =>
      simp [D.pyx, q] at h
      subst h
      obtain ⟨its, rv, ⟨o, ho, hc, n, hd⟩, _⟩ := I.tuple t.sq
      obtain ⟨as, hr, ok⟩ := RelL.rds I rl rv q
      exact ⟨_, Reads.tuple ho hc hd hr, ok⟩
  | .lst xs, v, u, e, r, ru, h => by
    obtain ⟨a, vs, rfl, _, t, rl⟩ := r
    cases ru
    cases q : D.pyxL xs with
    | none => simp [D.pyx, q] at h
    | some es =>
      simp [D.pyx, q] at h
      subst h
      obtain ⟨its, rv, ⟨o, n, ho, hc, _, hd⟩, _⟩ := I.list (SqL.of t)
      obtain ⟨as, hr, ok⟩ := RelL.rds I rl rv q
      refine ⟨_, Reads.list ho hc hd hr, fun b hb => ?_⟩
      rcases List.mem_cons.mp hb with z | z
      · subst z; exact .inl (by rw [t]; simp)
      · exact ok b z
  | .ro xs, v, u, e, r, ru, h => by
    obtain ⟨a, vs, rfl, t, rl⟩ := r
    cases ru
    cases q : D.pyxL xs with
    | none => simp [D.pyx, q] at h
    | some es =>
      simp [D.pyx, q] at h
      subst h
      obtain ⟨its, rv, ⟨o, n, ho, hc, _, hd⟩, _⟩ := I.list t.sq
      obtain ⟨as, hr, ok⟩ := RelL.rds I rl rv q
      refine ⟨_, Reads.list ho hc hd hr, fun b hb => ?_⟩
      rcases List.mem_cons.mp hb with z | z
      · subst z
        rcases t with ⟨_, t⟩ | t
        · rcases t with t | ⟨_, t⟩ <;> exact .inl (by rw [t]; simp)
        · obtain ⟨o, its, n, t1, t2, _⟩ := t
          exact .inr (.inl ⟨o, t1, t2⟩)
      · exact ok b z
  | .edt, v, u, e, r, ru, h => by
    obtain ⟨a, rfl, _, t⟩ := r
    cases ru
    simp [D.pyx] at h
    subst h
    obtain ⟨o, es, n, h1, h2, h3, h4, h5⟩ := edt_at I t
    refine ⟨_, Reads.dict (kvs := []) (as := []) (bs := []) h1 h2 h3 (by rw [h4]; exact .nil) (by rw [h4]; exact .nil), fun b hb => ?_⟩
    simp at hb
    subst hb
    exact .inr (.inr h5)
  | .dtx k m, v, u, e, r, ru, h => by
    obtain ⟨a, rfl, _, t⟩ := r
    cases ru
    simp [D.pyx] at h
    subst h
    obtain ⟨o, es, n, t1, t2, h1, h2, h3, h4, h5, h6⟩ := dtx_at I t
    refine ⟨_, Reads.dict (kvs := [(.str k, .int m)]) (as := []) (bs := []) h1 h2 h3 (by rw [h4]; exact .cons (as := []) (bs := []) (.str k t1) .nil) (by rw [h5]; exact .cons (as := []) (bs := []) (.int m t2) .nil), fun b hb => ?_⟩
    simp at hb
    subst hb
    exact .inr (.inr h6)
  | .ref i, v, u, e, r, ru, h => by simp [D.pyx] at h
theorem RelL.rds (I : Inv X pins σ H s) : ∀ {ds : List D} {vs : List V} {us : List Value} {es : List PyData}, RelL X.K c H ds vs → Vals vs us → D.pyxL ds = some es → ∃ as, ReadsAll s.heap us es as ∧ ∀ b ∈ as, Sound X.K H b
  | [], vs, us, es, r, ru, h => by cases r; cases ru; simp [D.pyxL] at h; subst h; exact ⟨_, .nil, by simp⟩
  | d :: ds, vs, us, es, r, ru, h => by
    obtain ⟨v, vr, rfl, h1, h2⟩ := (show ∃ v r, vs = v :: r ∧ Rel X.K c H d v ∧ RelL X.K c H ds r from r)
    cases ru with
    | cons r1 r2 =>
      cases q1 : D.pyx d with
      | none => simp [D.pyxL, q1] at h
      | some x =>
        cases q2 : D.pyxL ds with
        | none => simp [D.pyxL, q1, q2] at h
        | some xs =>
          simp [D.pyxL, q1, q2] at h
          subst h
          obtain ⟨as, a1, a2⟩ := Rel.rds I h1 r1 q1
          obtain ⟨bs, b1, b2⟩ := RelL.rds I h2 r2 q2
          exact ⟨_, .cons a1 b1, fun b hb => (List.mem_append.mp hb).elim (a2 b) (b2 b)⟩
end
theorem sound_sys (I : Inv X pins σ H s) (sm : smB X.K = true) {as : List Addr} (h : ∀ b ∈ as, Sound X.K H b) : sysModules ∉ as := fun hm => by
  obtain ⟨es, n, sl, lk⟩ := He.dictB_ok sm
  rcases h _ hm with z | ⟨o, z1, z2⟩ | z
  · exact z (I.env0.bs _ _ (I.ok.mod.kin _ _ lk)).2
  · rw [lk] at z1
    cases z1
    have z3 : Value.type "dict" = .type "list" := z2
    exact absurd z3 (by decide)
  · simp at z
end
def niceX (e : PyData) : Bool := e.showable && e.leavesShort 2000 && decide (e.bulk ≤ 8000) && decide (e.depth ≤ 50)
def reprX (_ : Hd) : List D → Option D
  | [a] => match a.pyx with
    | some e => if niceX e then some (.str e.shown) else none
    | none => none
  | _ => none
section
variable {X : Cx} {W : WX} {k : Nat}
theorem c_reprX (q : Cq True X W k) (sm : smB X.K = true) : CallR X (.builtin "repr") (DCl X.K reprX) := by
  intro pins s σ H xs us Q I r hq
  obtain ⟨c, h, as, d, rh, ra, e, hq⟩ := hq
  unfold reprX at e
  split at e
  · rename_i a
    obtain ⟨v, rfl, rv⟩ := rel1 ra
    obtain ⟨u, rfl, ru⟩ := r.one
    split at e
    · rename_i e0 e1
      split at e
      · rename_i hn
        cases e
        unfold niceX at hn
        simp only [Bool.and_eq_true, decide_eq_true_eq] at hn
        obtain ⟨⟨⟨n1, h3⟩, h4⟩, n4⟩ := hn
        have n3 : e0.shown.length ≤ sizeLine := by
          have := PyData.shown_le_bulk 2000 (by decide) e0 h3
          rw [sizeLine_eq]
          omega
        have fin : ∀ s' t, Inv X pins σ H s' → EP X pins σ Q (.str e0.shown t) s' := fun s' t J => ⟨.str e0.shown, H, J, ⟨t, rfl⟩, hq _ H (fun _ _ z => z) rfl⟩
        obtain ⟨as, rd, ok⟩ := rv.rds I ru e1
        have un : X.A.units + (e0.depth + 1) < cLine := by have := q.rm.un; omega
        have road : ∀ p, u = .ref p → wpAny (model X.prog X.w) X.A (call (.builtin "repr") [u]) (EP X pins σ Q) X.xe s := fun p e2 => by
          subst e2
          exact repr_of_reads' rd n1 (fun z => sound_sys I sm ok) (q.gu trivial) un (fun _ _ z => z) (fun h' t tk hk => fin _ t (I.kept hk)) n3
        cases a with
        | non =>
          cases e1; cases rv; cases ru
          exact PySem.P.repr_of_none (fin _ _ (I.tok _))
        | bl b =>
          cases e1; cases rv; cases ru
          exact PySem.P.repr_of_bool (fin _ _ (I.tok _))
        | int i =>
          cases e1; cases rv
          obtain ⟨t, rfl⟩ := ru
          have n1' : i.natAbs.log2 < 1920 := by simpa [PyData.showable] using n1
          exact PySem.P.repr_of_int n1' (fin _ _ (I.tok _))
        | str x =>
          cases e1; cases rv
          obtain ⟨t, rfl⟩ := ru
          exact PySem.P.repr_of_str (fin _ _ (I.tok _)) n3
        | tup xs => obtain ⟨p, vs, e3, _⟩ := rv; subst e3; exact road p ru
        | lst xs => obtain ⟨p, vs, e3, _⟩ := rv; subst e3; exact road p ru
        | ro xs => obtain ⟨p, vs, e3, _⟩ := rv; subst e3; exact road p ru
        | edt => obtain ⟨p, e3, _⟩ := rv; subst e3; exact road p ru
        | dtx k n => obtain ⟨p, e3, _⟩ := rv; subst e3; exact road p ru
        | ref i => cases e1
      · cases e
    · cases e
  · cases e
end
theorem dict_declines_int (l : Addr) (es : Array DictEntry) (n : Nat) (dd : Option Addr) (sl : Array (Option Value)) (b : Int) (u : Tok) :
    Meets (Builtin.«dict.__eq__» ⟨[.ref l, .int b u], []⟩) (fun _ R s => s.heap.get? l = some { cls := .type "dict", dict := dd, data := .dict es n, slots := sl } ∧ R (.ok (.ret .notImplemented)) s) :=
  .of_wp fun prog w A R s h => by obtain ⟨hp, g, d, tk, os⟩ := s; obtain ⟨hl, h⟩ := h; have f1 := F.sub_int_dict; wp_walk using AutoSeq1.wpAny_loadPart' hl; exact ⟨_, rfl, h⟩
theorem int_declines_dict (b : Int) (u : Tok) (l : Addr) (es : Array DictEntry) (n : Nat) (dd : Option Addr) (sl : Array (Option Value)) :
    Meets (Builtin.«int.__eq__» ⟨[.int b u, .ref l], []⟩) (fun _ R s => s.heap.get? l = some { cls := .type "dict", dict := dd, data := .dict es n, slots := sl } ∧ R (.ok (.ret .notImplemented)) s) :=
  .of_wp fun prog w A R s h => by obtain ⟨hp, g, d, tk, os⟩ := s; obtain ⟨hl, h⟩ := h; wp_walk using AutoSeq1.wpAny_loadPart' hl, wpAny_load hl; exact ⟨_, rfl, h⟩
theorem eqAt_dict_int {A : Around} {s : Shared} {l : Addr} {o : Obj} {es : Array DictEntry} {n : Nat} (b : Int) (u : Tok) (ho : s.heap.get? l = some o) (hc : o.cls = .type "dict") (hd : o.data = .dict es n) (hu : A.units < cLine) : SeqAt.EqAt A s (.ref l) (.int b u) false := fun prog w E Q h => by
  obtain ⟨oc, dd, dt, sl⟩ := o
  dsimp only at hc hd
  subst hc hd
  unfold eqBool
  refine wpAny_holding (wpAny_ite_split (fun z => absurd (eq_of_beq z) nofun) fun _ => wpAny_bind ?_)
  refine SeqAt.rc_eq_decline_or (k := false) (Tb := "int") ⟨_, ho, rfl⟩ (typeIs_int s b u) (by decide) F.sub_int_dict F.slot_dict_eq F.slot_int_eq_refl ?_ ?_ (fun _ q => wpAny_of_eq (rfl : isSame (.ref l) (.int b u) = pure false) q) (.inr hu) (wpAny_truthy_bool h)
  · exact fun _ q => call_meets F.slot_dict_eq ⟨_, ho, rfl⟩ F.entry_dict_eq (F.args_dict_eq_2 _ _) (dict_declines_int l es n dd sl b u) ⟨ho, q⟩
  · exact fun _ q => call_meets F.slot_int_eq_refl (typeIs_int s b u) F.entry_int_eq (F.args_int_eq_2 _ _) (int_declines_dict b u l es n dd sl) ⟨ho, q⟩
def eqV (i : Int) : D → Option Bool
  | .int j => some (j == i)
  | .bl b => some ((if b then 1 else 0) == i)
  | .ref _ => none
  | _ => some false
def anyV (i : Int) : List D → Option Bool
  | [] => some false
  | y :: ys => match eqV i y, anyV i ys with
    | some a, some b => some (a || b)
    | _, _ => none
def anyQ (x : D) (xs : List D) : Option Bool := match x with
  | .int i => anyV i xs
  | x => match D.pyL xs, x.py with
    | some ds, some e => if PyData.canLayAll0 ds && e.canLay0 && decide (e.depth ≤ 40) then some (ds.any fun y => PyData.eqv y e) else none
    | _, _ => none
def inXS (x y : D) : Option Bool := match y with
  | .tup xs => anyQ x xs
  | .lst xs => anyQ x xs
  | .ro xs => anyQ x xs
  | _ => none
def inX (_ : Hd) (x y : D) : Option D := (inXS x y).map .bl
def ninX (_ : Hd) (x y : D) : Option D := (inXS x y).map fun k => .bl !k
def eqW (i : Int) : Value → Bool
  | .int j _ => j == i
  | .bool b => (if b then 1 else 0) == i
  | _ => false
section
variable {X : Cx} {W : WX} {k : Nat} {pins : List (Addr × Obj)} {σ : L2.St} {H : Hp} {s : Shared} {c : C}
theorem eqV_at (I : Inv X pins σ H s) (hu : X.A.units + 64 < cLine) {i : Int} {tk : Tok} {y : D} {w : V} {t : Value} {r : Bool} (ry : Rel X.K c H y w) (rt : RelV w t) (e : eqV i y = some r) : SeqAt.EqAt X.A.in1 s t (.int i tk) r ∧ eqW i t = r := by
  have hu1 : X.A.in1.units < cLine := show X.A.units + 1 < cLine by omega
  unfold eqV at e
  cases y with
  | int j =>
    cases e
    cases ry
    obtain ⟨tt, rfl⟩ := rt
    exact ⟨SeqAt.EqAt.int_int j tt i tk, rfl⟩
  | bl b =>
    cases e
    cases ry
    cases rt
    exact ⟨SeqAt.EqAt.bool_int b i tk, rfl⟩
  | non =>
    cases e
    cases ry
    cases rt
    exact ⟨SeqAt.EqAt.none_int i tk, rfl⟩
  | str x =>
    cases e
    cases ry
    obtain ⟨tt, rfl⟩ := rt
    exact ⟨SeqAt.EqAt.str_int x tt i tk, rfl⟩
  | tup xs =>
    cases e
    obtain ⟨a, vs, rfl, h1, _⟩ := ry
    cases rt
    obtain ⟨its, rv, hT, _⟩ := I.tuple h1.sq
    exact ⟨SeqAt.EqAt.tuple_int i tk hT hu1, rfl⟩
  | lst xs =>
    cases e
    obtain ⟨a, vs, rfl, _, h1, _⟩ := ry
    cases rt
    obtain ⟨its, rv, ⟨o, n, ho, hc, _, hd⟩, _⟩ := I.list (SqL.of h1)
    exact ⟨SeqAt.EqAt.list_int i tk ⟨o, ho, hc, n, hd⟩ hu1, rfl⟩
  | ro xs =>
    cases e
    obtain ⟨a, vs, rfl, h1, _⟩ := ry
    cases rt
    obtain ⟨its, rv, ⟨o, n, ho, hc, _, hd⟩, _⟩ := I.list h1.sq
    exact ⟨SeqAt.EqAt.list_int i tk ⟨o, ho, hc, n, hd⟩ hu1, rfl⟩
  | edt =>
    cases e
    obtain ⟨a, rfl, _, h1⟩ := ry
    cases rt
    obtain ⟨o, es, n, q1, q2, q3, _, _⟩ := edt_at I h1
    exact ⟨eqAt_dict_int i tk q1 q2 q3 hu1, rfl⟩
  | dtx k m =>
    cases e
    obtain ⟨a, rfl, _, h1⟩ := ry
    cases rt
    obtain ⟨o, es, n, _, _, q1, q2, q3, _, _, _⟩ := dtx_at I h1
    exact ⟨eqAt_dict_int i tk q1 q2 q3 hu1, rfl⟩
  | ref j => cases e
theorem anyV_at (I : Inv X pins σ H s) (hu : X.A.units + 64 < cLine) {i : Int} {tk : Tok} : ∀ {xs : List D} {vs : List V} {us : List Value} {r : Bool}, RelL X.K c H xs vs → Vals vs us → anyV i xs = some r →
    (∀ y ∈ us, SeqAt.EqAt X.A.in1 s y (.int i tk) (eqW i y)) ∧ us.any (eqW i) = r
  | [], vs, us, r, rl, ru, e => by
    cases rl; cases ru; cases e
    exact ⟨by simp, rfl⟩
  | y :: ys, vs, us, r, rl, ru, e => by
    obtain ⟨v, vr, rfl, h1, h2⟩ := (show ∃ v r, vs = v :: r ∧ Rel X.K c H y v ∧ RelL X.K c H ys r from rl)
    cases ru with
    | cons r1 r2 =>
      unfold anyV at e
      cases q1 : eqV i y with
      | none => rw [q1] at e; cases e
      | some a =>
        cases q2 : anyV i ys with
        | none => rw [q1, q2] at e; cases e
        | some b =>
          rw [q1, q2] at e
          cases e
          obtain ⟨a1, a2⟩ := eqV_at (tk := tk) I hu h1 r1 q1
          obtain ⟨b1, b2⟩ := anyV_at I hu h2 r2 q2
          refine ⟨fun z hz => ?_, by rw [List.any_cons, a2, b2]⟩
          rcases List.mem_cons.mp hz with rfl | hz
          · rw [a2]; exact a1
          · exact b1 z hz
theorem in_at (I : Inv X pins σ H s) (hu : X.A.units + 64 < cLine) {x y : D} {v w : V} {u t : Value} {r : Bool} (rx : Rel X.K c H x v) (ru : RelV v u) (ry : Rel X.K c H y w) (rt : RelV w t) (e : inXS x y = some r) :
    (∀ Q : Value → Shared → Prop, Q (.bool r) s → wpAny (model X.prog X.w) X.A (compareOp .In u t) Q X.xe s) ∧ ∀ Q : Value → Shared → Prop, Q (.bool !r) s → wpAny (model X.prog X.w) X.A (compareOp .NotIn u t) Q X.xe s := by
  have seq : ∀ (xs : List D) (vs : List V) (us : List Value) (a : Addr), RelL X.K c H xs vs → Vals vs us → (s.heap.IsTuple a us.toArray ∨ s.heap.IsList a us.toArray) → anyQ x xs = some r →
      (∀ Q : Value → Shared → Prop, Q (.bool r) s → wpAny (model X.prog X.w) X.A (compareOp .In u (.ref a)) Q X.xe s) ∧ ∀ Q : Value → Shared → Prop, Q (.bool !r) s → wpAny (model X.prog X.w) X.A (compareOp .NotIn u (.ref a)) Q X.xe s := fun xs vs us a rl rus hT e => by
    have go : (∃ f : Value → Bool, (∀ z ∈ us.toArray, SeqAt.EqAt X.A.in1 s z u (f z)) ∧ us.toArray.any f = r) → (∀ Q : Value → Shared → Prop, Q (.bool r) s → wpAny (model X.prog X.w) X.A (compareOp .In u (.ref a)) Q X.xe s) ∧ ∀ Q : Value → Shared → Prop, Q (.bool !r) s → wpAny (model X.prog X.w) X.A (compareOp .NotIn u (.ref a)) Q X.xe s := fun ⟨f, f1, f2⟩ => by
      rcases hT with hT | hT
      · exact ⟨fun Q q => SeqAt.in_tupleAt f hT f1 (by rw [f2]; exact q), fun Q q => SeqAt.notIn_tupleAt f hT f1 (by rw [f2]; exact q)⟩
      · exact ⟨fun Q q => SeqAt.in_listAt f hT f1 (by rw [f2]; exact q), fun Q q => SeqAt.notIn_listAt f hT f1 (by rw [f2]; exact q)⟩
    have data : ∀ {ds : List PyData} {f : PyData}, D.pyL xs = some ds → x.py = some f → PyData.canLayAll0 ds = true → f.canLay0 = true → f.depth ≤ 40 → r = ds.any (fun z => PyData.eqv z f) → ∃ f : Value → Bool, (∀ z ∈ us.toArray, SeqAt.EqAt X.A.in1 s z u (f z)) ∧ us.toArray.any f = r := fun {ds f} h1 h2 h3 h4 h5 h6 => by
      obtain ⟨as, r1⟩ := Dp.readsAll I ds vs us (rl.dp h1) rus
      obtain ⟨bs, r2⟩ := Dp.reads I f v u (rx.dp h2) ru
      have r1' : ReadsAll s.heap us.toArray.toList ds as := by simpa using r1
      refine ⟨fun z => PyData.eqv (SeqAt.readOf s.heap z) f, SeqAt.items_eqAt r1' r2 h3 h4 ?_, by rw [SeqAt.any_by_data r1' h3, h6]⟩
      have := Nat.min_le_right (PyData.depthAll ds) f.depth
      omega
    unfold anyQ at e
    split at e
    · rename_i i
      cases rx
      obtain ⟨tk, rfl⟩ := ru
      obtain ⟨a1, a2⟩ := anyV_at (tk := tk) I hu rl rus e
      exact go ⟨eqW _, by simpa using a1, by simpa using a2⟩
    · split at e
      · rename_i ds f h1 h2
        split at e
        · rename_i h3
          simp only [Bool.and_eq_true, decide_eq_true_eq] at h3
          cases e
          exact go (data h1 h2 h3.1.1 h3.1.2 h3.2 rfl)
        · cases e
      · cases e
  unfold inXS at e
  cases y with
  | tup xs =>
    obtain ⟨a, vs, rfl, h1, rl⟩ := ry
    cases rt
    obtain ⟨its, rv, hT, _⟩ := I.tuple h1.sq
    exact seq xs vs its a rl rv (.inl hT) e
  | lst xs =>
    obtain ⟨a, vs, rfl, _, h1, rl⟩ := ry
    cases rt
    obtain ⟨its, rv, ⟨o, n, ho, hc, _, hd⟩, _⟩ := I.list (SqL.of h1)
    exact seq xs vs its a rl rv (.inr ⟨o, ho, hc, n, hd⟩) e
  | ro xs =>
    obtain ⟨a, vs, rfl, h1, rl⟩ := ry
    cases rt
    obtain ⟨its, rv, ⟨o, n, ho, hc, _, hd⟩, _⟩ := I.list h1.sq
    exact seq xs vs its a rl rv (.inr ⟨o, ho, hc, n, hd⟩) e
  | _ => cases e
theorem o_inX (q : Cq gp X W k) : OpR X (compareOp .In) (DOp X.K inX) := fun pins s σ H v w u t Q I rv rt ⟨c, h, x, y, d, rh, ra, rb, e, hq⟩ => by
  unfold inX at e
  cases e1 : inXS x y with
  | none => rw [e1] at e; cases e
  | some r =>
    rw [e1] at e
    cases e
    exact (in_at I q.rm.units ra rv rb rt e1).1 _ ⟨.bl r, H, I, rfl, hq _ H (fun _ _ z => z) rfl⟩
theorem o_ninX (q : Cq gp X W k) : OpR X (compareOp .NotIn) (DOp X.K ninX) := fun pins s σ H v w u t Q I rv rt ⟨c, h, x, y, d, rh, ra, rb, e, hq⟩ => by
  unfold ninX at e
  cases e1 : inXS x y with
  | none => rw [e1] at e; cases e
  | some r =>
    rw [e1] at e
    cases e
    exact (in_at I q.rm.units ra rv rb rt e1).2 _ ⟨.bl !r, H, I, rfl, hq _ H (fun _ _ z => z) rfl⟩
end
def eqB2 : D → D → Option Bool
  | .tup xs, .tup [] => some xs.isEmpty
  | a, b => eqB a b
def eqX (_ : Hd) (a b : D) : Option D := (eqB2 a b).map .bl
theorem o_eqXU {X : Cx} (hu0 : X.A.units + 64 < cLine) : OpR X (compareOp .Eq) (DOp X.K eqX) := fun pins s σ H v w u t Q I rv rt ⟨c, h, x, y, d, rh, ra, rb, e, hq⟩ => by
  unfold eqX at e
  cases e1 : eqB2 x y with
  | none => rw [e1] at e; cases e
  | some r =>
    rw [e1] at e
    unfold eqB2 at e1
    split at e1
    · rename_i xs
      cases e
      cases e1
      obtain ⟨a, vs, rfl, h1, rl⟩ := ra
      obtain ⟨b, ws, rfl, h2, rl2⟩ := rb
      cases rl2
      cases rv
      cases rt
      obtain ⟨its, r1, t1, _⟩ := I.tuple h1.sq
      obtain ⟨its2, r2, t2, _⟩ := I.tuple h2.sq
      cases r2
      have hu : X.A.units < cLine := by have := hu0; omega
      refine SeqAt.eq_tupleAt (e := fun _ => true) t1 t2 hu (fun j _ z => absurd z (by simp)) ?_
      have hb : ((List.range (min its.toArray.size ([] : List Value).toArray.size)).all (fun _ => true) && its.toArray.size == ([] : List Value).toArray.size) = xs.isEmpty := by
        have hl : xs.length = its.length := by rw [rl.len, r1.length]
        simp only [List.size_toArray, List.length_nil, Nat.min_zero, List.range_zero, List.all_nil, Bool.true_and, ← hl]
        cases xs <;> rfl
      rw [hb]
      exact ⟨.bl _, H, I, rfl, hq _ H (fun _ _ z => z) rfl⟩
    · exact o_eqU hu0 pins s σ H v w u t Q I rv rt ⟨c, h, x, y, d, rh, ra, rb, by unfold eqD; rw [e1]; exact e, hq⟩
theorem o_eqX {X : Cx} {W : WX} {k : Nat} (q : Cq gp X W k) : OpR X (compareOp .Eq) (DOp X.K eqX) := o_eqXU q.rm.units
end Dm
end
section
namespace Dm
open PySem PySem.Spec PyProof.Rows L2
def stepL {A : Type} (xs : List A) (lo hi : Option Int) (st : Int) : List A :=
  (List.range (Builtin.Slice.slicePlaces (Builtin.Slice.sliceAdjust lo hi st (xs.length : Int)).1 (Builtin.Slice.sliceAdjust lo hi st (xs.length : Int)).2 st)).filterMap fun (k : Nat) => xs[((Builtin.Slice.sliceAdjust lo hi st (xs.length : Int)).1 + (k : Int) * st).toNat]?
section
variable {prog : Program} {w : World} {A : Around} {E : Value → Shared → Prop} {s : Shared}
end
section
variable {K : PySem.W.Frag} {c : C} {H : Hp}
theorem RelL.pick {ds : List D} {vs : List V} (r : RelL K c H ds vs) (f : Nat → Nat) : ∀ ks : List Nat, RelL K c H (ks.filterMap fun k => ds[f k]?) (ks.filterMap fun k => vs[f k]?)
  | [] => rfl
  | k :: ks => by
    have ih := RelL.pick r f ks
    cases e : ds[f k]? with
    | none =>
      have e2 : vs[f k]? = none := List.getElem?_eq_none (by rw [← r.len]; exact List.getElem?_eq_none_iff.mp e)
      simp only [List.filterMap_cons, e, e2]
      exact ih
    | some d =>
      obtain ⟨v, e2, rv⟩ := r.get e
      simp only [List.filterMap_cons, e, e2]
      exact ⟨v, _, rfl, rv, ih⟩
theorem RelL.step {ds : List D} {vs : List V} (r : RelL K c H ds vs) (lo hi : Option Int) (st : Int) : RelL K c H (stepL ds lo hi st) (stepL vs lo hi st) := by
  unfold stepL
  rw [r.len]
  exact r.pick _ _
end
end Dm
end
section
namespace Dm
open PySem L2
abbrev Ex := Str → List (Str × D) → Sd → Hd → Prop
@[reducible] def Tg {α β : Sort _} (_ : α) (_ : β) : Type := Unit
def Wq {A : Type} (Q : A → Sd → Hd → Prop) (E : Ex) (_ : Tg Q E) (r : Res A) : Prop := match r with
  | .ok a s h => Q a s h
  | .exc x fs s h => E x fs s h
  | .bad => False
abbrev nX : Ex := fun _ _ _ _ => False
def atV (Q : D → Prop) (_ : Tg Q Q) : Sd → Nat → Prop
  | .val d :: _, 0 => Q d
  | _ :: s, i + 1 => atV Q () s i
  | _, _ => False
def atO (Q : List D → Prop) (_ : Tg Q Q) : Sd → Nat → Prop
  | .own d :: _, 0 => Q d
  | _ :: s, i + 1 => atO Q () s i
  | _, _ => False
def opQ {A : Type} (Q : A → Prop) (_ : Tg Q Q) : Option A → Prop
  | some d => Q d
  | none => False
def blQ (Q : Bool → Prop) (_ : Tg Q Q) : D → Prop
  | .bl b => Q b
  | _ => False
def inQ (Q : Int → Prop) (_ : Tg Q Q) : D → Prop
  | .int i => Q i
  | _ => False
def Cd (P Q : Prop) (_ : Tg P Q) : Bool → Prop
  | true => P
  | false => Q
def nxQ (P Q : Prop) (_ : Tg P Q) : Fl → Prop
  | .nx => P
  | _ => Q
def itQ (Q : List D → Prop) (_ : Tg Q Q) : D → Prop
  | .tup xs => Q xs
  | .lst xs => Q xs
  | .ro xs => Q xs
  | _ => False
def onQ (Q : D → Prop) (_ : Tg Q Q) : List D → Prop
  | [d] => Q d
  | _ => False
def i1Q (Q : Int → Prop) (_ : Tg Q Q) : List D → Prop
  | [.int i] => Q i
  | _ => False
def i2Q (Q : Int → Int → Prop) (_ : Tg Q Q) : List D → Prop
  | [.int i, .int j] => Q i j
  | _ => False
def lsQ (Q : List D → Prop) (_ : Tg Q Q) : D → Prop
  | .lst xs => Q xs
  | _ => False
def enQ (Q : List D → Prop) (_ : Tg Q Q) : List D → Prop
  | [.tup xs] => Q xs
  | [.lst xs] => Q xs
  | _ => False
def tpQ (Q : List D → Prop) (_ : Tg Q Q) : D → Prop
  | .tup xs => Q xs
  | _ => False
def fnQ (Q : D → Hd → Prop) (_ : Tg Q Q) : Fl → Hd → Prop
  | .rt d, h => Q d h
  | .nx, h => Q .non h
  | _, _ => False
section
variable {A B : Type} {Q : A → Sd → Hd → Prop} {R : B → Sd → Hd → Prop} {E : Ex} {s : Sd} {h : Hd} {r : Res A} {i : Nat} {d x : D} {xs : List D} {P P' : Prop}
theorem Wq.eq (r : Res A) : Wq Q E () r = (match r with | .ok a s h => Q a s h | .exc x fs s h => E x fs s h | .bad => False) := rfl
theorem y_ok {a : A} : Wq Q E () (.ok a s h) = Q a s h := Eq.trans rfl rfl
theorem y_exc {x : Str} {fs : List (Str × D)} : Wq Q E () (.exc x fs s h : Res A) = E x fs s h := Eq.trans rfl rfl
theorem y_bad : Wq Q E () (.bad : Res A) = False := Eq.trans rfl rfl
theorem y_bind {f : A → Sd → Hd → Res B} : Wq R E () (r.bind f) = Wq (fun a s h => Wq R E () (f a s h)) E () r := by cases r <;> rfl
theorem y_bd {f : A → Sd → Hd → Res B} : Wq R E () (r.bd f) = Wq (fun a s h => Wq R E () (f a s h)) nX () r := by cases r <;> rfl
theorem y_only {u : Res Unit} {f : Sd → Hd → Res B} : Wq R E () (u.only f) = Wq (fun _ s h => Wq R E () (f s h)) nX () u := by cases u <;> rfl
theorem y_fin {r : Res Fl} {Q : D → Sd → Hd → Prop} : Wq Q E () (fin r) = Wq (fun f _ h => fnQ (fun d h => Q d [] h) () f h) (fun x fs _ h => E x fs [] h) () r := by
  cases r with
  | ok f s h => cases f <;> rfl
  | exc x fs s h => rfl
  | bad => rfl
theorem atV_0 {Q : D → Prop} : atV Q () (.val d :: s) 0 = Q d := Eq.trans rfl rfl
theorem atV_S {Q : D → Prop} {x : Sl} : atV Q () (x :: s) (i + 1) = atV Q () s i := by cases x <;> rfl
theorem atO_0 {Q : List D → Prop} : atO Q () (.own xs :: s) 0 = Q xs := Eq.trans rfl rfl
theorem atO_S {Q : List D → Prop} {x : Sl} : atO Q () (x :: s) (i + 1) = atO Q () s i := by cases x <;> rfl
theorem opQ_some {Q : B → Prop} {b : B} : opQ Q () (some b) = Q b := Eq.trans rfl rfl
theorem blQ_bl {Q : Bool → Prop} {b : Bool} : blQ Q () (.bl b) = Q b := Eq.trans rfl rfl
theorem inQ_int {Q : Int → Prop} {i : Int} : inQ Q () (.int i) = Q i := Eq.trans rfl rfl
theorem Cd_t : Cd P P' () true = P := Eq.trans rfl rfl
theorem Cd_f : Cd P P' () false = P' := Eq.trans rfl rfl
theorem nxQ_nx : nxQ P P' () .nx = P := Eq.trans rfl rfl
theorem nxQ_rt : nxQ P P' () (.rt d) = P' := Eq.trans rfl rfl
theorem nxQ_bk : nxQ P P' () .bk = P' := Eq.trans rfl rfl
theorem nxQ_ct : nxQ P P' () .ct = P' := Eq.trans rfl rfl
theorem itQ_tup {Q : List D → Prop} : itQ Q () (.tup xs) = Q xs := Eq.trans rfl rfl
theorem itQ_lst {Q : List D → Prop} : itQ Q () (.lst xs) = Q xs := Eq.trans rfl rfl
theorem itQ_ro {Q : List D → Prop} : itQ Q () (.ro xs) = Q xs := Eq.trans rfl rfl
theorem onQ_1 {Q : D → Prop} : onQ Q () [d] = Q d := Eq.trans rfl rfl
theorem i1Q_1 {Q : Int → Prop} {i : Int} : i1Q Q () [.int i] = Q i := Eq.trans rfl rfl
theorem i2Q_2 {Q : Int → Int → Prop} {i j : Int} : i2Q Q () [.int i, .int j] = Q i j := Eq.trans rfl rfl
theorem lsQ_l {Q : List D → Prop} : lsQ Q () (.lst xs) = Q xs := Eq.trans rfl rfl
theorem enQ_t {Q : List D → Prop} : enQ Q () [.tup xs] = Q xs := Eq.trans rfl rfl
theorem enQ_l {Q : List D → Prop} : enQ Q () [.lst xs] = Q xs := Eq.trans rfl rfl
theorem tpQ_t {Q : List D → Prop} : tpQ Q () (.tup xs) = Q xs := Eq.trans rfl rfl
theorem fnQ_rt {Q : D → Hd → Prop} : fnQ Q () (.rt d) h = Q d h := Eq.trans rfl rfl
theorem fnQ_nx {Q : D → Hd → Prop} : fnQ Q () .nx h = Q .non h := Eq.trans rfl rfl
end
section
variable {A : Type} {E : Ex} {s : Sd} {h : Hd} {i : Nat} {d : D} {a b e : M D} {t u : M Bool} {m n : M Fl} {ms : M (List D)} {Q : D → Sd → Hd → Prop} {QB : Bool → Sd → Hd → Prop} {QF : Fl → Sd → Hd → Prop} {QL : List D → Sd → Hd → Prop} {QO : Option Int → Sd → Hd → Prop} {QS : List Sl → Sd → Hd → Prop} {QU : Unit → Sd → Hd → Prop} {QA : A → Sd → Hd → Prop}
theorem sk {A B : Type} {r : Res A} {f : A → Sd → Hd → Res B} {F : A → Sd → Hd → Prop} {R : B → Sd → Hd → Prop} (hf : ∀ a s h, Wq R E () (f a s h) = F a s h) : Wq R E () (r.bind f) = Wq F E () r := by
  cases r with
  | ok a s h => exact hf a s h
  | exc x fs s h => rfl
  | bad => rfl
theorem y_C : Wq Q E () (mC d s h) = Q d s h := Eq.trans rfl rfl
theorem y_var : Wq Q E () (mVar i s h) = atV (fun d => Q d s h) () s i := by
  have key : ∀ (s0 : Sd) (i : Nat), (match s0[i]? with | some (.val d) => Q d s h | _ => False) = atV (fun d => Q d s h) () s0 i := by
    intro s0
    induction s0 with
    | nil => intro i; rfl
    | cons x s0 ih =>
      intro i
      cases i with
      | zero => cases x <;> rfl
      | succ i => rw [atV_S, ← ih i]; rfl
  rw [← key s i]
  unfold mVar
  cases s[i]? with
  | none => rfl
  | some x => cases x <;> rfl
theorem y_of {o : Option A} : Wq QA E () (mOf o s h) = opQ (fun a => QA a s h) () o := by cases o <;> rfl
theorem y_un {f : Hd → D → Option D} : Wq Q E () (mUn f a s h) = Wq (fun x s h => opQ (fun d => Q d s h) () (f h x)) E () (a s h) := sk fun _ _ _ => y_of
theorem y_bin {f : Hd → D → D → Option D} : Wq Q E () (mBin f a b s h) = Wq (fun x s h => Wq (fun y s h => opQ (fun d => Q d s h) () (f h x y)) E () (b s h)) E () (a s h) := sk fun _ _ _ => sk fun _ _ _ => y_of
theorem y_chain {f g : Hd → D → D → Option D} : Wq Q E () (mChain f g a b e s h) = Wq (fun x s h => Wq (fun y s h => opQ (fun d => blQ (fun k => Cd (Wq (fun z s h => opQ (fun d => Q d s h) () (g h y z)) E () (e s h)) (Q (.bl false) s h) () k) () d) () (f h x y)) E () (b s h)) E () (a s h) := sk fun x _ _ => sk fun y s h => by
  cases f h x y with
  | none => rfl
  | some d =>
    cases d with
    | bl k =>
      cases k with
      | false => rfl
      | true => exact sk fun _ _ _ => y_of
    | _ => rfl
theorem y_nil : Wq QL E () (mNil s h) = QL [] s h := Eq.trans rfl rfl
theorem y_cons : Wq QL E () (mCons a ms s h) = Wq (fun x s h => Wq (fun xs s h => QL (x :: xs) s h) E () (ms s h)) E () (a s h) := sk fun _ _ _ => sk fun _ _ _ => rfl
theorem y_ite {c : Prop} [Decidable c] {r : Res A} : Wq QA E () (if c then r else .bad) = (c ∧ Wq QA E () r) := by
  by_cases hc : c
  · rw [if_pos hc]; simp [hc]
  · rw [if_neg hc]; simp [hc, y_bad]
theorem y_tup : Wq Q E () (mTup ms s h) = Wq (fun xs s h => xs.length ≤ 100000 ∧ Q (.tup xs) s h) E () (ms s h) := sk fun _ _ _ => y_ite
theorem y_test : Wq QB E () (mTest a s h) = Wq (fun x s h => blQ (fun b => QB b s h) () x) E () (a s h) := sk fun x _ _ => by cases x <;> rfl
theorem y_notV : Wq Q E () (mNotV a s h) = Wq (fun x s h => blQ (fun b => Q (.bl !b) s h) () x) E () (a s h) := sk fun x _ _ => by cases x <;> rfl
theorem y_andV : Wq Q E () (mAndV a b s h) = Wq (fun x s h => blQ (fun k => Cd (Wq Q E () (b s h)) (Q (.bl false) s h) () k) () x) E () (a s h) := sk fun x _ _ => by
  cases x with
  | bl k => cases k <;> rfl
  | _ => rfl
theorem y_orV : Wq Q E () (mOrV a b s h) = Wq (fun x s h => blQ (fun k => Cd (Q (.bl true) s h) (Wq Q E () (b s h)) () k) () x) E () (a s h) := sk fun x _ _ => by
  cases x with
  | bl k => cases k <;> rfl
  | _ => rfl
theorem y_and : Wq QB E () (mAnd t u s h) = Wq (fun k s h => Cd (Wq QB E () (u s h)) (QB false s h) () k) E () (t s h) := sk fun k _ _ => by cases k <;> rfl
theorem y_or : Wq QB E () (mOr t u s h) = Wq (fun k s h => Cd (QB true s h) (Wq QB E () (u s h)) () k) E () (t s h) := sk fun k _ _ => by cases k <;> rfl
theorem y_not : Wq QB E () (mNot t s h) = Wq (fun k s h => QB (!k) s h) E () (t s h) := sk fun _ _ _ => rfl
theorem y_if {x y : M A} : Wq QA E () (mIf t x y s h) = Wq (fun k s h => Cd (Wq QA E () (x s h)) (Wq QA E () (y s h)) () k) E () (t s h) := sk fun k _ _ => by cases k <;> rfl
theorem y_call {f : MF} : Wq Q E () (mCall f ms s h) = Wq (fun xs s h => Wq (fun d _ h => Q d s h) (fun x fs _ h => E x fs s h) () (f xs h)) E () (ms s h) := sk fun xs s h => by
  cases f xs h <;> rfl
theorem y_cb {f : Hd → List D → Option D} : Wq Q E () (mCB f ms s h) = Wq (fun xs s h => opQ (fun d => Q d s h) () (f h xs)) E () (ms s h) := sk fun _ _ _ => y_of
theorem y_noP : Wq QO E () (mNoP s h) = QO none s h := Eq.trans rfl rfl
theorem y_part : Wq QO E () (mPart a s h) = Wq (fun x s h => inQ (fun i => QO (some i) s h) () x) E () (a s h) := sk fun x _ _ => by cases x <;> rfl
theorem y_val : Wq Q E () (mVal ms s h) = Wq (fun xs s h => Q (.lst xs) s h) E () (ms s h) := sk fun _ _ _ => rfl
theorem y_mat : Wq Q E () (mMat ms s h) = Wq (fun xs s h => Q (.ref h.length) s (h ++ [.lst xs])) E () (ms s h) := sk fun _ _ _ => rfl
theorem y_lst : Wq QL E () (mLst ms s h) = Wq (fun xs s h => xs.length ≤ 100000 ∧ QL xs s h) E () (ms s h) := sk fun _ _ _ => y_ite
theorem y_nx : Wq QF E () (mNx s h) = QF .nx s h := Eq.trans rfl rfl
theorem y_seq : Wq QF E () (mSeq m n s h) = Wq (fun f s h => nxQ (Wq QF E () (n s h)) (QF f s h) () f) E () (m s h) := sk fun f _ _ => by cases f <;> rfl
theorem y_drop : Wq QF E () (mDrop a s h) = Wq (fun _ s h => QF .nx s h) E () (a s h) := sk fun _ _ _ => rfl
theorem y_ret : Wq QF E () (mRet a s h) = Wq (fun d s h => QF (.rt d) s h) E () (a s h) := sk fun _ _ _ => rfl
theorem y_asg : Wq QF E () (mAsg i a s h) = Wq (fun d s h => QF .nx (s.set i (.val d)) h) E () (a s h) := sk fun _ _ _ => rfl
theorem y_own : Wq QF E () (mOwn i ms s h) = Wq (fun xs s h => QF .nx (s.set i (.own xs)) h) E () (ms s h) := sk fun _ _ _ => rfl
theorem y_gN : Wq QU E () (gN i d s h) = QU () (s.set i (.val d)) h := Eq.trans rfl rfl
theorem y_gNl : Wq QU E () (gNl [] s h) = QU () s h := Eq.trans rfl rfl
theorem y_gCn {g : D → M Unit} {r : List D → M Unit} {ds : List D} : Wq QU E () (gCn g r (d :: ds) s h) = Wq (fun _ s h => Wq QU E () (r ds s h)) E () (g d s h) := sk fun _ _ _ => rfl
theorem y_gTp {k : Nat} {r : List D → M Unit} {ds : List D} : Wq QU E () (gTp k r (.tup ds) s h) = (ds.length = k ∧ Wq QU E () (r ds s h)) := y_ite
theorem y_asgG {g : D → M Unit} : Wq QF E () (mAsgG a g s h) = Wq (fun d s h => Wq (fun _ s h => QF .nx s h) nX () (g d s h)) E () (a s h) := sk fun d s h => y_only.trans (by rfl)
theorem y_iter : Wq QL E () (mIter a s h) = Wq (fun d s h => itQ (fun xs => QL xs s h) () d) E () (a s h) := sk fun x _ _ => by cases x <;> rfl
theorem y_rg1 : Wq QL E () (mRg1 ms s h) = Wq (fun xs s h => i1Q (fun j => small j = true ∧ QL (rg 0 j.toNat) s h) () xs) E () (ms s h) := sk fun xs _ _ => by
  match xs with
  | [.int j] => exact y_ite
  | [] => rfl
  | [.non] => rfl
  | [.bl _] => rfl
  | [.str _] => rfl
  | [.tup _] => rfl
  | [.lst _] => rfl
  | [.ro _] => rfl
  | [.edt] => rfl
  | [.dtx _ _] => rfl
  | [.ref _] => rfl
  | _ :: _ :: _ => simp only [i1Q]; rfl
theorem y_for {g : D → M Unit} : Wq QF E () (mFor ms g m s h) = Wq (fun xs s h => Wq QF E () (loop g m xs s h)) E () (ms s h) := sk fun _ _ _ => rfl
theorem y_comp {vs : List Nat} {g : D → M Unit} : Wq QL E () (mComp ms vs g t e s h) = Wq (fun xs s0 h => Wq (fun ys s1 h => QL ys (backD s0 s1 vs) h) nX () (cloop vs g t e xs [] (wipeD s0 vs) h)) E () (ms s h) := sk fun _ _ _ => y_bd.trans (by rfl)
theorem y_yes : Wq QB E () (mYes s h) = QB true s h := Eq.trans rfl rfl
theorem y_sl {l v : M (Option Int)} : Wq Q E () (mSl a l v s h) = Wq (fun x s h => Wq (fun lo s h => Wq (fun hi s h => opQ (fun d => Q d s h) () (slD h x lo hi)) E () (v s h)) E () (l s h)) E () (a s h) := sk fun _ _ _ => sk fun _ _ _ => sk fun _ _ _ => y_of
theorem y_listOf : Wq QL E () (mListOf ms s h) = Wq (fun xs s h => onQ (fun x => opQ (fun ys => QL ys s h) () (seqOf h x)) () xs) E () (ms s h) := sk fun xs _ _ => by
  match xs with
  | [] => rfl
  | [x] => exact y_of
  | _ :: _ :: _ => rfl
theorem y_lrg1 : Wq QL E () (mListRg1 a s h) = Wq (fun x s h => inQ (fun j => small j = true ∧ QL (rg 0 j.toNat) s h) () x) E () (a s h) := sk fun x _ _ => by
  cases x with
  | int j => exact y_ite
  | _ => rfl
theorem atO_eq (F : List D → Prop) : ∀ (s : Sd) (i : Nat), (match ownAt s i with | none => False | some xs => F xs) = atO F () s i := by
  intro s
  induction s with
  | nil => intro i; rfl
  | cons x s ih =>
    intro i
    cases i with
    | zero => cases x <;> rfl
    | succ i => rw [atO_S, ← ih i]; rfl
theorem y_appO : Wq Q E () (mAppO i a s h) = atO (fun _ => Wq (fun d s h => atO (fun xs => xs.length + 1 ≤ 100000 ∧ Q .non (s.set i (.own (xs ++ [d]))) h) () s i) E () (a s h)) () s i := by
  rw [← atO_eq]
  unfold mAppO
  cases ownAt s i with
  | none => rfl
  | some _ =>
    refine sk fun d s h => ?_
    rw [← atO_eq]
    cases ownAt s i with
    | none => rfl
    | some xs => exact y_ite
theorem y_lenO : Wq Q E () (mLenO i s h) = atO (fun xs => Q (.int xs.length) s h) () s i := by
  rw [← atO_eq]
  unfold mLenO
  cases ownAt s i <;> rfl
theorem y_ixO : Wq Q E () (mIxO i a s h) = atO (fun _ => Wq (fun d s h => atO (fun xs => inQ (fun k => opQ (fun d => Q d s h) () (atI xs k)) () d) () s i) E () (a s h)) () s i := by
  rw [← atO_eq]
  unfold mIxO
  cases ownAt s i with
  | none => rfl
  | some _ =>
    refine sk fun d s h => ?_
    rw [← atO_eq]
    cases ownAt s i with
    | none => rfl
    | some xs =>
      cases d with
      | int k => exact y_of
      | _ => rfl
theorem y_setO : Wq QF E () (mSetO i b e s h) = Wq (fun v s h => atO (fun _ => Wq (fun d s h => atO (fun xs => inQ (fun k => opQ (fun j => QF .nx (s.set i (.own (xs.set j v))) h) () (ixN xs.length k)) () d) () s i) E () (b s h)) () s i) E () (e s h) := by
  refine sk fun v s h => ?_
  rw [← atO_eq]
  cases ownAt s i with
  | none => rfl
  | some _ =>
    refine sk fun d s h => ?_
    rw [← atO_eq]
    cases ownAt s i with
    | none => rfl
    | some xs =>
      cases d with
      | int k =>
        show Wq QF E () (match ixN xs.length k with | some j => .ok .nx (s.set i (.own (xs.set j v))) h | none => .bad) = opQ (fun j => QF .nx (s.set i (.own (xs.set j v))) h) () (ixN xs.length k)
        cases ixN xs.length k <;> rfl
      | _ => rfl
theorem y_extO : Wq Q E () (mExtO i a s h) = atO (fun _ => Wq (fun d s h => atO (fun xs => lsQ (fun ys => xs.length + ys.length ≤ 100000 ∧ Q .non (s.set i (.own (xs ++ ys))) h) () d) () s i) E () (a s h)) () s i := by
  rw [← atO_eq]
  unfold mExtO
  cases ownAt s i with
  | none => rfl
  | some _ =>
    refine sk fun d s h => ?_
    rw [← atO_eq]
    cases ownAt s i with
    | none => rfl
    | some xs =>
      cases d with
      | lst ys => exact y_ite
      | _ => rfl
theorem y_frz : Wq QF E () (mFrz i s h) = atO (fun xs => QF .nx (s.set i (.val (.lst xs))) h) () s i := by
  rw [← atO_eq]
  unfold mFrz ownAt
  cases s[i]? with
  | none => rfl
  | some x => cases x <;> rfl
theorem y_pn : Wq QS E () (mPn s h) = QS [] s h := Eq.trans rfl rfl
theorem y_pv {r : M (List Sl)} : Wq QS E () (mPv a r s h) = Wq (fun d s h => Wq (fun xs s h => QS (.val d :: xs) s h) E () (r s h)) E () (a s h) := sk fun _ _ _ => sk fun _ _ _ => rfl
theorem y_po {r : M (List Sl)} : Wq QS E () (mPo ms r s h) = Wq (fun ds s h => Wq (fun xs s h => QS (.own ds :: xs) s h) E () (r s h)) E () (ms s h) := sk fun _ _ _ => sk fun _ _ _ => rfl
theorem y_par {is : List Nat} {r : M (List Sl)} : Wq QF E () (mPar is r s h) = Wq (fun xs s h => xs.length = is.length ∧ QF .nx (setAll is xs s) h) E () (r s h) := sk fun _ _ _ => y_ite
theorem y_fld {fs : List (Str × D)} {f : Str} : Wq Q E () (mFld fs f s h) = opQ (fun d => Q d s h) () (fs.lookup f) := y_of
theorem y_raise {x f : Str} : Wq QF E () (mRaise x f a s h) = Wq (fun d s h => E x [(f, d)] s h) E () (a s h) := sk fun _ _ _ => rfl
theorem y_enum : Wq QL E () (mEnum ms s h) = Wq (fun xs s h => enQ (fun ys => QL (enumD 0 ys) s h) () xs) E () (ms s h) := sk fun xs _ _ => by
  match xs with
  | [.int j] => rfl
  | [] => rfl
  | [.non] => rfl
  | [.bl _] => rfl
  | [.str _] => rfl
  | [.tup _] => rfl
  | [.lst _] => rfl
  | [.ro _] => rfl
  | [.edt] => rfl
  | [.dtx _ _] => rfl
  | [.ref _] => rfl
  | x :: _ :: _ => cases x <;> rfl
theorem y_fnM {k : Nat} {ds : List D} : Wq Q E () (fnM k m ds h) = Wq (fun f _ h => fnQ (fun d h => Q d [] h) () f h) (fun x fs _ h => E x fs [] h) () (m (startD k ds) h) := y_fin
theorem y_try {xs : List Str} {x : Str} {su : List (Str × D) → M Fl} : Wq QF E () (mTry xs x i m su s h) = Wq QF (fun y fs s1 h1 => Cd (i + 1 ≤ s1.length ∧ Wq QF nX () (unset i (su fs (s1.set i .no) h1))) (y ∈ xs ∧ E y fs s1 h1) () (decide (y = x))) () (m s h) := by
  unfold mTry
  cases m s h with
  | ok f s1 h1 => rfl
  | bad => rfl
  | exc y fs s1 h1 =>
    show Wq QF E () (if y = x then (if i < s1.length then unset i (su fs (s1.set i .no) h1) else .bad) else if y ∈ xs then .exc y fs s1 h1 else .bad) = Cd _ _ () (decide (y = x))
    by_cases hy : y = x
    · rw [if_pos hy, decide_eq_true hy, Cd_t, y_ite]
      have e : ∀ r : Res Fl, Wq QF E () (unset i r) = Wq QF nX () (unset i r) := fun r => by
        cases r with
        | ok f s h => cases f <;> rfl
        | exc x fs s h => rfl
        | bad => rfl
      rw [e]
      rfl
    · rw [if_neg hy, decide_eq_false hy, Cd_f, y_ite]
      rfl
theorem y_unset {r : Res Fl} : Wq QF nX () (unset i r) = Wq (fun f s h => match f with | .rt d => QF (.rt d) s h | f => QF f (s.set i .no) h) nX () r := by
  cases r with
  | ok f s h => cases f <;> rfl
  | exc x fs s h => rfl
  | bad => rfl
end
theorem kt_NoneType_int : kitB "NoneType" "int" = some false := by decide +kernel
theorem kt_NoneType_bool : kitB "NoneType" "bool" = some false := by decide +kernel
theorem kt_NoneType_tuple : kitB "NoneType" "tuple" = some false := by decide +kernel
theorem kt_NoneType_str : kitB "NoneType" "str" = some false := by decide +kernel
theorem kt_NoneType_list : kitB "NoneType" "list" = some false := by decide +kernel
theorem kt_NoneType_dict : kitB "NoneType" "dict" = some false := by decide +kernel
theorem kt_bool_int : kitB "bool" "int" = some true := by decide +kernel
theorem kt_bool_bool : kitB "bool" "bool" = some true := by decide +kernel
theorem kt_bool_tuple : kitB "bool" "tuple" = some false := by decide +kernel
theorem kt_bool_str : kitB "bool" "str" = some false := by decide +kernel
theorem kt_bool_list : kitB "bool" "list" = some false := by decide +kernel
theorem kt_bool_dict : kitB "bool" "dict" = some false := by decide +kernel
theorem kt_int_int : kitB "int" "int" = some true := by decide +kernel
theorem kt_int_bool : kitB "int" "bool" = some false := by decide +kernel
theorem kt_int_tuple : kitB "int" "tuple" = some false := by decide +kernel
theorem kt_int_str : kitB "int" "str" = some false := by decide +kernel
theorem kt_int_list : kitB "int" "list" = some false := by decide +kernel
theorem kt_int_dict : kitB "int" "dict" = some false := by decide +kernel
theorem kt_str_int : kitB "str" "int" = some false := by decide +kernel
theorem kt_str_bool : kitB "str" "bool" = some false := by decide +kernel
theorem kt_str_tuple : kitB "str" "tuple" = some false := by decide +kernel
theorem kt_str_str : kitB "str" "str" = some true := by decide +kernel
theorem kt_str_list : kitB "str" "list" = some false := by decide +kernel
theorem kt_str_dict : kitB "str" "dict" = some false := by decide +kernel
theorem kt_tuple_int : kitB "tuple" "int" = some false := by decide +kernel
theorem kt_tuple_bool : kitB "tuple" "bool" = some false := by decide +kernel
theorem kt_tuple_tuple : kitB "tuple" "tuple" = some true := by decide +kernel
theorem kt_tuple_str : kitB "tuple" "str" = some false := by decide +kernel
theorem kt_tuple_list : kitB "tuple" "list" = some false := by decide +kernel
theorem kt_tuple_dict : kitB "tuple" "dict" = some false := by decide +kernel
theorem kt_list_int : kitB "list" "int" = some false := by decide +kernel
theorem kt_list_bool : kitB "list" "bool" = some false := by decide +kernel
theorem kt_list_tuple : kitB "list" "tuple" = some false := by decide +kernel
theorem kt_list_str : kitB "list" "str" = some false := by decide +kernel
theorem kt_list_list : kitB "list" "list" = some true := by decide +kernel
theorem kt_list_dict : kitB "list" "dict" = some false := by decide +kernel
theorem kt_dict_int : kitB "dict" "int" = some false := by decide +kernel
theorem kt_dict_bool : kitB "dict" "bool" = some false := by decide +kernel
theorem kt_dict_tuple : kitB "dict" "tuple" = some false := by decide +kernel
theorem kt_dict_str : kitB "dict" "str" = some false := by decide +kernel
theorem kt_dict_list : kitB "dict" "list" = some false := by decide +kernel
theorem kt_dict_dict : kitB "dict" "dict" = some true := by decide +kernel
section
variable {A : Type} {Q : A → Sd → Hd → Prop} {E : Ex} {s : Sd} {h : Hd} {r : Res A}
theorem Wq.imp {Q' : A → Sd → Hd → Prop} (w : Wq Q E () r) (i : ∀ a s h, Q a s h → Q' a s h) : Wq Q' E () r := by
  cases r with
  | ok a s h => exact i a s h w
  | exc x fs s h => exact w
  | bad => exact w
theorem Wq.of {a : A} (e : r = .ok a s h) (q : Q a s h) : Wq Q E () r := by rw [e]; exact q
theorem Wq.ex (w : Wq Q nX () r) : ∃ a s h, r = .ok a s h ∧ Q a s h := by
  cases r with
  | ok a s h => exact ⟨a, s, h, rfl, w⟩
  | exc x fs s h => exact w.elim
  | bad => exact w.elim
theorem Cd.mk {P Q : Prop} {b : Bool} (h1 : b = true → P) (h2 : b = false → Q) : Cd P Q () b := by
  cases b with
  | true => exact h1 rfl
  | false => exact h2 rfl
end
theorem Wq.loop {g : D → M Unit} {b : M Fl} {Q : Fl → Sd → Hd → Prop} {E : Ex} : ∀ {xs : List D} {s : Sd} {h : Hd} (I : Nat → Sd → Hd → Prop), I 0 s h →
    (∀ (i : Nat) x s h, xs[i]? = some x → I i s h → Wq (fun _ s h => Wq (fun f s h => match f with | .nx => I (i + 1) s h | .ct => I (i + 1) s h | .bk => Q .nx s h | .rt d => Q (.rt d) s h) E () (b s h)) nX () (g x s h)) →
    (∀ s h, I xs.length s h → Q .nx s h) → Wq Q E () (loop g b xs s h)
  | [], s, h, I, h0, _, fin => fin s h h0
  | x :: xs, s, h, I, h0, st, fin => by
    have w := st 0 x s h rfl h0
    unfold Dm.loop
    rw [y_only]
    refine Wq.imp w fun _ s1 h1 w1 => ?_
    rw [y_bind]
    cases e : b s1 h1 with
    | ok f s2 h2 =>
      rw [e] at w1
      have go : I 1 s2 h2 → Wq Q E () (Dm.loop g b xs s2 h2) := fun i1 => Wq.loop (xs := xs) (fun i => I (i + 1)) i1 (fun i y s h e => st (i + 1) y s h (by simpa using e)) fun s h q => fin s h (by simpa using q)
      cases f with
      | nx => exact go w1
      | ct => exact go w1
      | bk => exact w1
      | rt d => exact w1
    | exc y fs s2 h2 => rw [e] at w1; exact w1
    | bad => rw [e] at w1; exact w1
end Dm
end
section
namespace Dm
open PySem L2
def okStr (x : Str) : Bool := decide (x.length ≤ 100) && x.cps.toList.all fun c => decide (c < 16 ^ 8)
mutual
def Fd (m : Int) : Nat → Nat → D → Prop
  | _, _, .non => True
  | _, _, .bl _ => True
  | _, _, .int i => -m ≤ i ∧ i ≤ m
  | b, _, .str x => okStr x = true ∧ x.length ≤ b
  | b, k, .tup xs => ∃ k', k = k' + 1 ∧ FdL m b k' xs
  | b, k, .lst xs => ∃ k', k = k' + 1 ∧ FdL m b k' xs
  | b, k, .ro xs => ∃ k', k = k' + 1 ∧ FdL m b k' xs
  | _, k, .edt => 1 ≤ k
  | b, k, .dtx x i => okStr x = true ∧ x.length + 2 ≤ b ∧ (-m ≤ i ∧ i ≤ m) ∧ 1 ≤ k
  | _, _, .ref _ => False
def FdL (m : Int) : Nat → Nat → List D → Prop
  | _, _, [] => True
  | b, k, x :: xs => ∃ b1 b2, b1 + 1 + b2 ≤ b ∧ Fd m b1 k x ∧ FdL m b2 k xs
end
section
variable {m m' : Int} {b b' k k' : Nat}
mutual
theorem Fd.mono (hm : m ≤ m') : ∀ {d : D} {b b' k k' : Nat}, b ≤ b' → k ≤ k' → Fd m b k d → Fd m' b' k' d
  | .non, _, _, _, _, _, _, _ => trivial
  | .bl _, _, _, _, _, _, _, _ => trivial
  | .int i, _, _, _, _, _, _, h => ⟨by have := h.1; omega, by have := h.2; omega⟩
  | .str x, _, _, _, _, hb, _, h => ⟨h.1, Nat.le_trans h.2 hb⟩
  | .tup xs, b, b', k, k', hb, hk, h => by
    obtain ⟨j, e, h⟩ := h
    exact ⟨k' - 1, by omega, FdL.mono hm hb (by omega) h⟩
  | .lst xs, b, b', k, k', hb, hk, h => by
    obtain ⟨j, e, h⟩ := h
    exact ⟨k' - 1, by omega, FdL.mono hm hb (by omega) h⟩
  | .ro xs, b, b', k, k', hb, hk, h => by
    obtain ⟨j, e, h⟩ := h
    exact ⟨k' - 1, by omega, FdL.mono hm hb (by omega) h⟩
  | .edt, _, _, _, _, _, hk, h => Nat.le_trans h hk
  | .dtx x i, _, _, _, _, hb, hk, h => ⟨h.1, Nat.le_trans h.2.1 hb, ⟨by have := h.2.2.1.1; omega, by have := h.2.2.1.2; omega⟩, Nat.le_trans h.2.2.2 hk⟩
  | .ref _, _, _, _, _, _, _, h => h.elim
theorem FdL.mono (hm : m ≤ m') : ∀ {xs : List D} {b b' k k' : Nat}, b ≤ b' → k ≤ k' → FdL m b k xs → FdL m' b' k' xs
  | [], _, _, _, _, _, _, _ => trivial
  | x :: xs, b, b', k, k', hb, hk, h => by
    obtain ⟨b1, b2, e, h1, h2⟩ := h
    exact ⟨b1, b2, by omega, Fd.mono hm (Nat.le_refl _) hk h1, FdL.mono hm (Nat.le_refl _) hk h2⟩
end
mutual
theorem Fd.py : ∀ {d : D} {b k : Nat}, m ≤ 10 ^ 400 → Fd m b k d → ∃ e, d.pyx = some e ∧ e.showable = true ∧ e.leavesShort 2000 = true ∧ e.bulk ≤ b ∧ e.depth ≤ k
  | .non, _, _, _, _ => ⟨.none, rfl, rfl, rfl, Nat.zero_le _, Nat.zero_le _⟩
  | .bl x, _, _, _, _ => ⟨.bool x, rfl, rfl, rfl, Nat.zero_le _, Nat.zero_le _⟩
  | .int i, _, _, hm, h => by
    have hl := big_log (i := i) (bnd_of (by have := h.1; omega) (by have := h.2; omega))
    refine ⟨.int i, rfl, ?_, ?_, Nat.zero_le _, Nat.zero_le _⟩
    · simp only [PyData.showable]
      exact decide_eq_true (by omega)
    · simp only [PyData.leavesShort, PyData.shown_int]
      have := PyProof.Rows.int_text_len_1921 (i := i) (by omega)
      exact decide_eq_true (by omega)
  | .str x, b, _, _, h => by
    obtain ⟨h1, h2⟩ := h
    unfold okStr at h1
    rw [Bool.and_eq_true] at h1
    exact ⟨.str x, rfl, rfl, by simpa [PyData.leavesShort] using h1.2, by simp only [PyData.bulk]; exact h2, Nat.zero_le _⟩
  | .tup xs, b, k, hm, h => by
    obtain ⟨j, e, h⟩ := h
    obtain ⟨es, g1, g2, g3, g4, g5⟩ := FdL.py hm h
    exact ⟨.tuple es, by simp [D.pyx, g1], by simpa [PyData.showable] using g2, by simpa [PyData.leavesShort] using g3, by simpa [PyData.bulk] using g4, by simp only [PyData.depth]; omega⟩
  | .lst xs, b, k, hm, h => by
    obtain ⟨j, e, h⟩ := h
    obtain ⟨es, g1, g2, g3, g4, g5⟩ := FdL.py hm h
    exact ⟨.list es, by simp [D.pyx, g1], by simpa [PyData.showable] using g2, by simpa [PyData.leavesShort] using g3, by simpa [PyData.bulk] using g4, by simp only [PyData.depth]; omega⟩
  | .ro xs, b, k, hm, h => by
    obtain ⟨j, e, h⟩ := h
    obtain ⟨es, g1, g2, g3, g4, g5⟩ := FdL.py hm h
    exact ⟨.list es, by simp [D.pyx, g1], by simpa [PyData.showable] using g2, by simpa [PyData.leavesShort] using g3, by simpa [PyData.bulk] using g4, by simp only [PyData.depth]; omega⟩
  | .edt, b, k, _, h => ⟨.dict [], rfl, rfl, rfl, Nat.zero_le _, h⟩
  | .dtx x i, b, k, hm, h => by
    obtain ⟨h1, h2, h3, h4⟩ := h
    unfold okStr at h1
    rw [Bool.and_eq_true] at h1
    have hl := big_log (i := i) (bnd_of (by have := h3.1; omega) (by have := h3.2; omega))
    have := PyProof.Rows.int_text_len_1921 (i := i) (by omega)
    refine ⟨.dict [(.str x, .int i)], rfl, ?_, ?_, ?_, ?_⟩
    · have e : PyData.showable (.dict [(.str x, .int i)]) = (true && decide (i.natAbs.log2 < 1920) && true) := rfl
      rw [e, decide_eq_true (by omega)]
      rfl
    · simp only [PyData.leavesShort, PyData.leavesShortKv, PyData.shown_int, Bool.and_true, Bool.and_eq_true, decide_eq_true_eq]
      exact ⟨by simpa using h1.2, by omega⟩
    · have e : PyData.bulk (.dict [(.str x, .int i)]) = x.length + 0 + 2 + 0 := rfl
      omega
    · have e : PyData.depth (.dict [(.str x, .int i)]) = 1 := rfl
      omega
  | .ref _, _, _, _, h => h.elim
theorem FdL.py : ∀ {xs : List D} {b k : Nat}, m ≤ 10 ^ 400 → FdL m b k xs → ∃ es, D.pyxL xs = some es ∧ PyData.showableAll es = true ∧ PyData.leavesShortAll 2000 es = true ∧ PyData.bulkAll es ≤ b ∧ PyData.depthAll es ≤ k
  | [], _, _, _, _ => ⟨[], rfl, rfl, rfl, Nat.zero_le _, Nat.zero_le _⟩
  | x :: xs, b, k, hm, h => by
    obtain ⟨b1, b2, e, h1, h2⟩ := h
    obtain ⟨d, a1, a2, a3, a4, a5⟩ := Fd.py hm h1
    obtain ⟨ds, g1, g2, g3, g4, g5⟩ := FdL.py hm h2
    exact ⟨d :: ds, by simp [D.pyxL, a1, g1], by simp [PyData.showableAll, a2, g2], by simp [PyData.leavesShortAll, a3, g3], by simp only [PyData.bulkAll]; omega, by simp only [PyData.depthAll]; omega⟩
end
def shw (d : D) : Str := ((d.pyx).getD .none).shown
theorem Fd.repr {d : D} {h : Hd} (hd : Fd m 8000 50 d) (hm : m ≤ 10 ^ 400) : reprX h [d] = some (.str (shw d)) := by
  obtain ⟨e, h1, h2, h3, h4, h5⟩ := Fd.py hm hd
  have hn : niceX e = true := by simp [niceX, h2, h3, h4, h5]
  simp [reprX, shw, h1, hn]
theorem FdL.mem : ∀ {xs : List D} {b k : Nat} {x : D}, FdL m b k xs → x ∈ xs → Fd m b k x
  | [], _, _, _, _, h => nomatch h
  | y :: ys, b, k, x, h, hx => by
    obtain ⟨b1, b2, e, h1, h2⟩ := h
    rcases List.mem_cons.mp hx with rfl | hx
    · exact Fd.mono (Int.le_refl m) (by omega) (Nat.le_refl _) h1
    · exact Fd.mono (Int.le_refl m) (by omega) (Nat.le_refl _) (FdL.mem h2 hx)
theorem FdL.len : ∀ {xs : List D} {b k : Nat}, FdL m b k xs → xs.length ≤ b
  | [], _, _, _ => Nat.zero_le _
  | y :: ys, b, k, h => by
    obtain ⟨b1, b2, e, h1, h2⟩ := h
    have := FdL.len h2
    simp only [List.length_cons]
    omega
theorem FdL.app : ∀ {xs ys : List D} {b c k : Nat}, FdL m b k xs → FdL m c k ys → FdL m (b + c) k (xs ++ ys)
  | [], ys, b, c, k, _, g => FdL.mono (Int.le_refl m) (by omega) (Nat.le_refl _) g
  | x :: xs, ys, b, c, k, h, g => by
    obtain ⟨b1, b2, e, h1, h2⟩ := h
    exact ⟨b1, b2 + c, by omega, h1, FdL.app h2 g⟩
theorem FdL.sub {xs ys : List D} (p : xs.Sublist ys) : ∀ {b k : Nat}, FdL m b k ys → FdL m b k xs := by
  induction p with
  | slnil => exact fun h => h
  | cons x p ih =>
    intro b k h
    obtain ⟨b1, b2, e, h1, h2⟩ := h
    exact FdL.mono (Int.le_refl m) (by omega) (Nat.le_refl _) (ih h2)
  | cons_cons x p ih =>
    intro b k h
    obtain ⟨b1, b2, e, h1, h2⟩ := h
    exact ⟨b1, b2, e, h1, ih h2⟩
theorem FdL.split : ∀ {xs : List D} {b k : Nat} {i : Nat} {x : D}, FdL m b k xs → xs[i]? = some x → ∃ b1 b2, b1 + 1 + b2 ≤ b ∧ Fd m b1 k x ∧ FdL m b2 k (xs.take i ++ xs.drop (i + 1))
  | [], _, _, _, _, _, e => by simp at e
  | y :: ys, b, k, 0, x, h, e => by
    obtain ⟨b1, b2, e1, h1, h2⟩ := h
    simp at e
    subst e
    exact ⟨b1, b2, e1, h1, by simpa using h2⟩
  | y :: ys, b, k, i + 1, x, h, e => by
    obtain ⟨b1, b2, e1, h1, h2⟩ := h
    obtain ⟨c1, c2, e2, g1, g2⟩ := FdL.split (i := i) h2 (by simpa using e)
    exact ⟨c1, b1 + 1 + c2, by omega, g1, b1, c2, Nat.le_refl _, h1, by simpa using g2⟩
theorem FdL.one {x : D} {b k : Nat} (h : Fd m b k x) : FdL m (b + 1) k [x] := ⟨b, 0, Nat.le_refl _, h, trivial⟩
theorem FdL.ints {ns : List Int} : (∀ i ∈ ns, -m ≤ i ∧ i ≤ m) → FdL m ns.length 0 (ns.map D.int) := by
  induction ns with
  | nil => exact fun _ => trivial
  | cons n ns ih => exact fun h => ⟨0, ns.length, by simp; omega, h n List.mem_cons_self, ih fun i hi => h i (List.mem_cons_of_mem _ hi)⟩
end
mutual
def szD : D → Nat
  | .str x => x.length
  | .dtx x _ => x.length + 2
  | .tup xs => szDL xs
  | .lst xs => szDL xs
  | .ro xs => szDL xs
  | _ => 0
def szDL : List D → Nat
  | [] => 0
  | x :: xs => szD x + 1 + szDL xs
end
mutual
def dpD : D → Nat
  | .tup xs => dpDL xs + 1
  | .lst xs => dpDL xs + 1
  | .ro xs => dpDL xs + 1
  | .edt => 1
  | .dtx _ _ => 1
  | _ => 0
def dpDL : List D → Nat
  | [] => 0
  | x :: xs => max (dpD x) (dpDL xs)
end
mutual
def inD' (m : Int) : D → Bool
  | .int i => decide (-m ≤ i) && decide (i ≤ m)
  | .dtx x i => okStr x && (decide (-m ≤ i) && decide (i ≤ m))
  | .str x => okStr x
  | .tup xs => inDL' m xs
  | .lst xs => inDL' m xs
  | .ro xs => inDL' m xs
  | .ref _ => false
  | _ => true
def inDL' (m : Int) : List D → Bool
  | [] => true
  | x :: xs => inD' m x && inDL' m xs
end
section
variable {m : Int}
mutual
theorem Fd.of : ∀ {d : D} {b k : Nat}, inD' m d = true → szD d ≤ b → dpD d ≤ k → Fd m b k d
  | .non, _, _, _, _, _ => trivial
  | .bl _, _, _, _, _, _ => trivial
  | .int i, _, _, h, _, _ => by
    simp only [inD', Bool.and_eq_true, decide_eq_true_eq] at h
    exact h
  | .str x, _, _, h, hb, _ => ⟨h, by simpa [szD] using hb⟩
  | .tup xs, b, k, h, hb, hk => ⟨k - 1, by simp only [dpD] at hk; omega, FdL.of (by simpa [inD'] using h) (by simpa [szD] using hb) (by simp only [dpD] at hk; omega)⟩
  | .lst xs, b, k, h, hb, hk => ⟨k - 1, by simp only [dpD] at hk; omega, FdL.of (by simpa [inD'] using h) (by simpa [szD] using hb) (by simp only [dpD] at hk; omega)⟩
  | .ro xs, b, k, h, hb, hk => ⟨k - 1, by simp only [dpD] at hk; omega, FdL.of (by simpa [inD'] using h) (by simpa [szD] using hb) (by simp only [dpD] at hk; omega)⟩
  | .edt, _, _, _, _, hk => by simp only [dpD] at hk; exact hk
  | .dtx x i, _, _, h, hb, hk => by
    simp only [inD', Bool.and_eq_true, decide_eq_true_eq] at h
    simp only [szD] at hb
    simp only [dpD] at hk
    exact ⟨h.1, hb, h.2, hk⟩
  | .ref _, _, _, h, _, _ => by simp [inD'] at h
theorem FdL.of : ∀ {xs : List D} {b k : Nat}, inDL' m xs = true → szDL xs ≤ b → dpDL xs ≤ k → FdL m b k xs
  | [], _, _, _, _, _ => trivial
  | x :: xs, b, k, h, hb, hk => by
    simp only [inDL', Bool.and_eq_true] at h
    simp only [szDL] at hb
    simp only [dpDL] at hk
    exact ⟨szD x, szDL xs, hb, Fd.of h.1 (Nat.le_refl _) (by omega), FdL.of h.2 (Nat.le_refl _) (by omega)⟩
end
end
def NoR (d : D) : Prop := ∀ i, d ≠ .ref i
theorem Fd.nr {m : Int} {b k : Nat} {d : D} (h : Fd m b k d) : NoR d := fun i e => by subst e; exact h
theorem Wq.toEq {A : Type} {r : Res A} {a : A} {s : Sd} {h : Hd} (w : ∀ Q : A → Sd → Hd → Prop, Q a s h → Wq Q nX () r) : r = .ok a s h := by
  obtain ⟨a', s', h', e, rfl, rfl, rfl⟩ := (w (fun a' s' h' => a' = a ∧ s' = s ∧ h' = h) ⟨rfl, rfl, rfl⟩).ex
  exact e
theorem Wq.cloop {vs : List Nat} {g : D → M Unit} {t : M Bool} {e : M D} {s : Sd} {Q : List D → Sd → Hd → Prop} {E : Ex} : ∀ {xs acc : List D} {h : Hd} (I : Nat → List D → Hd → Prop), I 0 acc h →
    (∀ (i : Nat) x acc h, xs[i]? = some x → I i acc h → Wq (fun _ s1 h1 => Wq (fun k s2 h2 => Cd (Wq (fun d s3 h3 => wipeD s3 vs = s ∧ acc.length < 100000 ∧ I (i + 1) (acc ++ [d]) h3) nX () (e s2 h2)) (wipeD s2 vs = s ∧ I (i + 1) acc h2) () k) nX () (t s1 h1)) nX () (g x s h)) →
    (∀ acc h, I xs.length acc h → Q acc s h) → Wq Q E () (cloop vs g t e xs acc s h)
  | [], acc, h, I, h0, _, fin => fin acc h h0
  | x :: xs, acc, h, I, h0, st, fin => by
    have w := st 0 x acc h rfl h0
    have go : ∀ {acc : List D} {h : Hd}, I 1 acc h → Wq Q E () (Dm.cloop vs g t e xs acc s h) := fun {acc h} i1 => Wq.cloop (xs := xs) (fun i => I (i + 1)) i1 (fun i y acc h e => st (i + 1) y acc h (by simpa using e)) fun acc h q => fin acc h (by simpa using q)
    unfold Dm.cloop
    rw [y_only]
    refine Wq.imp w fun _ s1 h1 w1 => ?_
    rw [y_bd]
    refine Wq.imp w1 fun k s2 h2 w2 => ?_
    cases k with
    | false =>
      obtain ⟨e1, i1⟩ := (show wipeD s2 vs = s ∧ I (0 + 1) acc h2 from w2)
      rw [cond_false, e1]
      exact go i1
    | true =>
      rw [cond_true, y_bd]
      refine Wq.imp (show Wq (fun d s3 h3 => wipeD s3 vs = s ∧ acc.length < 100000 ∧ I (0 + 1) (acc ++ [d]) h3) nX () (e s2 h2) from w2) fun d s3 h3 ⟨e1, e2, i1⟩ => ?_
      rw [if_pos e2, e1]
      exact go i1
theorem Wq.cfm {vs : List Nat} {g : D → M Unit} {t : M Bool} {e : M D} {s : Sd} {h : Hd} {Q : List D → Sd → Hd → Prop} {E : Ex} {xs : List D} (p : D → Bool) (f : D → D) (hl : xs.length < 100000)
    (st : ∀ (i : Nat) x, xs[i]? = some x → Wq (fun _ s1 h1 => Wq (fun k s2 h2 => k = p x ∧ Cd (Wq (fun d s3 h3 => wipeD s3 vs = s ∧ d = f x ∧ h3 = h) nX () (e s2 h2)) (wipeD s2 vs = s ∧ h2 = h) () (p x)) nX () (t s1 h1)) nX () (g x s h))
    (fin : Q ((xs.filter p).map f) s h) : Wq Q E () (Dm.cloop vs g t e xs [] s h) := by
  refine Wq.cloop (fun i acc h' => h' = h ∧ acc = ((xs.take i).filter p).map f) ⟨rfl, rfl⟩ (fun i x acc h' hx ⟨e1, e2⟩ => ?_) (fun acc h' ⟨e1, e2⟩ => ?_)
  · subst e1
    have hi : i < xs.length := (List.getElem?_eq_some_iff.mp hx).1
    have tk : xs.take (i + 1) = xs.take i ++ [x] := by rw [List.take_add_one, hx]; rfl
    refine Wq.imp (st i x hx) fun _ s1 h1 w => Wq.imp w fun k s2 h2 ⟨ek, w2⟩ => ?_
    have al : acc.length < 100000 := by
      rw [e2, List.length_map]
      have := List.length_filter_le p (xs.take i)
      rw [List.length_take] at this
      omega
    subst ek
    cases hp : p x with
    | false =>
      rw [hp] at w2
      obtain ⟨z1, z2⟩ := (show wipeD s2 vs = s ∧ h2 = h' from w2)
      refine ⟨z1, z2, ?_⟩
      rw [tk, List.filter_append, e2]
      simp [hp]
    | true =>
      rw [hp] at w2
      refine Wq.imp (show Wq (fun d s3 h3 => wipeD s3 vs = s ∧ d = f x ∧ h3 = h') nX () (e s2 h2) from w2) fun d s3 h3 ⟨z1, z2, z3⟩ => ⟨z1, al, z3, ?_⟩
      rw [tk, List.filter_append, e2, z2]
      simp [hp]
  · subst e1
    rw [e2, List.take_length]
    exact fin
end Dm
end
section
namespace Dm
open PySem PySem.Spec PyProof.Rows L2
variable {gp : Prop}
section
variable {X : Cx}
theorem op_repF : OpR X (binaryOp .Mult) (fun x y H Q => ∃ l k xs, x = .ref l ∧ y = .int k ∧ SqT X.K H l xs ∧ xs ≠ [] ∧ 2 ≤ k ∧ k ≤ 1000 ∧ xs.length ≤ 1000 ∧ ∀ (p : Addr) (o : Obj), H p = none → o.dict = none → Q (.ref p) (upd H p (.frz o (.tup (List.replicate k.toNat xs).flatten)))) := by
  rintro pins s σ H x y v u Q I rx ry ⟨l, k, xs, rfl, rfl, hT, ne, k1, k2, xl, q⟩
  cases rx
  obtain ⟨t, rfl⟩ := ry
  obtain ⟨its, r, ⟨⟨cl, dd, dt, sl⟩, ho, hc, n, hd⟩, _⟩ := I.tuple hT
  dsimp only at hc hd
  subst hc hd
  have el : its.length = xs.length := r.length.symm
  have ie : its.toArray.isEmpty = false := by
    cases its with
    | nil => exact absurd (List.eq_nil_of_length_eq_zero el.symm) ne
    | cons _ _ => rfl
  have es : its.toArray.size = xs.length := by rw [List.size_toArray, el]
  have hm : ((its.toArray.size : Nat) : Int) * k ≤ 1000000 := by
    rw [es]
    have z : ((xs.length : Nat) : Int) * k ≤ 1000 * k := Int.mul_le_mul_of_nonneg_right (by omega) (by omega)
    omega
  have fl : (List.replicate k.toNat its).flatten.length ≤ sizeLine := by
    rw [PyProof.Rows.lm_len_rep_flat, el, sizeLine_eq]
    have z : k.toNat * xs.length ≤ 1000 * 1000 := Nat.mul_le_mul (by omega) xl
    omega
  have d0 : (decide (k < -(2 ^ 63)) || decide (k ≥ 2 ^ 63)) = false := by simp; omega
  have d1 : (its.toArray.isEmpty || k == 1) = false := by rw [ie]; simp; omega
  have d2 : (decide (k ≤ 0) || its.toArray.isEmpty) = false := by rw [ie]; simp; omega
  have d4 : Builtin.Tuple.tupleTooMany (((its.toArray.size : Nat) : Int) * k) = false := by
    unfold Builtin.Tuple.tupleTooMany
    rw [sizeLine_eq]
    exact decide_eq_false (by omega)
  refine wpAny_binaryOp_repeat_ref (T := "tuple") (U := "int") (by decide) ⟨_, ho, rfl⟩ (fun z => typeIs_int z k t) noFill_tuple_mul F.fills_int_mul F.slot_int_rmul repeat_tuple F.slot_int_index.lookup
    (call_meets F.slot_int_rmul (typeIs_int s k t) F.entry_int_rmul (F.args_int_rmul_2 _ _) (int_rmul_tuple k t l its.toArray n dd sl) ⟨ho, rfl, ⟨_, ho, rfl⟩, ?_⟩)
  refine call_meets F.slot_tuple_mul ⟨_, ho, rfl⟩ F.entry_tuple_mul (F.args_tuple_mul_2 _ _) (tuple_mulW l its.toArray n dd sl k t d0 d1 d2 (by omega) d4 (by rw [size_rep, List.size_toArray]; exact fl)) ⟨ho, ?_⟩
  rw [size_rep]
  refine ⟨.ref s.heap.objs.size, _, I.laid (t' := s.toks) (o := .frz { cls := .type "tuple", data := .seq (List.replicate k.toNat its).flatten.toArray } (.tup (List.replicate k.toNat xs).flatten)) (fun b ob z => Heap.get?_push_of_some _ z) (Nat.le_refl _) ⟨Heap.get?_push_size _ rfl, ?_, _, r.rep k.toNat, IsTup.new _ _⟩, rfl, q _ _ (I.hok.fresh (Nat.le_refl _)) rfl⟩
  rw [← (r.rep k.toNat).length] at fl
  exact fl
def repT (_ : Hd) : D → D → Option D
  | .tup xs, .int k => if xs ≠ [] ∧ 2 ≤ k ∧ k ≤ 1000 ∧ xs.length ≤ 1000 then some (.tup (repL xs k.toNat)) else none
  | _, _ => none
theorem o_repT : OpR X (binaryOp .Mult) (DOp X.K repT) := opr_imp op_repF fun x y H Q ⟨c, h, a, b, d, rh, ra, rb, e, q⟩ => by
  unfold repT at e
  split at e
  · rename_i xs k
    split at e
    · rename_i hc
      cases e
      obtain ⟨p, vs, rfl, t, rl⟩ := ra
      cases rb
      have hl := rl.len
      refine ⟨p, k, vs, rfl, rfl, t.sq, fun z => hc.1 ?_, hc.2.1, hc.2.2.1, by rw [← hl]; exact hc.2.2.2, fun l o hn ho => ?_⟩
      · subst z
        exact List.eq_nil_of_length_eq_zero hl
      · have g := grow_new (o := .frz o (.tup (List.replicate k.toNat vs).flatten)) hn
        exact q _ _ g ⟨l, _, rfl, .inl ⟨rh.out hn, o, upd_same, ho⟩, (rl.rep k.toNat).car (Car.grow g)⟩
    · cases e
  · cases e
end
def mCat (a b : M D) : M (List D) := fun s h => (a s h).bind fun x s h => (b s h).bind fun y s h => match view h x, view h y with
  | .lst xs, .lst ys => if xs.length + ys.length ≤ 100000 then .ok (xs ++ ys) s h else .bad
  | _, _ => .bad
section
variable {X : Cx} {W : WX} {a b : Expr} {ma mb : M D} {pos p : Pos} {i : Nat} {x : Str}
theorem f_cat (ha : PE X a (lE X.K X.mg W ma)) (hb : PE X b (lE X.K X.mg W mb)) : PE X (.BinOp a .Add b pos) (lF X.K X.mg W (mCat ma mb)) :=
  pe_imp (pe_op op_cat ha hb) fun s H Q ⟨c, sd, h, rs, rh, q⟩ => ⟨c, sd, h, rs, rh, (OutF.bind (R := Rel X.K) q).imp fun v H1 ⟨c1, d1, sd1, h1, rs1, rh1, r1, x1, q1⟩ =>
    ⟨c1, sd1, h1, rs1, rh1, (OutF.bind (R := Rel X.K) q1).imp fun w H2 ⟨c2, d2, sd2, h2, rs2, rh2, r2, x2, q2⟩ => by
      have q3 : OutF X.K X.mg c2 H2 s Q W (match view h2 d1, view h2 d2 with
        | .lst xs, .lst ys => if xs.length + ys.length ≤ 100000 then .ok (xs ++ ys) sd2 h2 else .bad
        | _, _ => .bad) := q2
      split at q3
      · rename_i xs ys e1 e2
        obtain ⟨p1, vs, rfl, t1, l1⟩ := view_lst rh2 (r1.car x2.car) e1
        obtain ⟨p2, ws, rfl, t2, l2⟩ := view_lst rh2 r2 e2
        split at q3
        · rename_i hl
          refine ⟨p1, p2, vs, ws, rfl, rfl, t1, t2, line5 (by rw [← l1.len, ← l2.len]; exact hl), fun l hn => ?_⟩
          exact q3 l _ c2 H2 (Ext.refl _ _) rs2 rh2 (l1.app l2) hn
        · exact q3.elim
      · exact q3.elim⟩⟩
end
section
variable {E : Ex} {s : Sd} {h : Hd} {i : Nat} {a b : M D} {QL : List D → Sd → Hd → Prop}
def l2Q (Q : List D → List D → Prop) (_ : Tg Q Q) : D → D → Prop
  | .lst xs, .lst ys => Q xs ys
  | _, _ => False
theorem l2Q_ll {Q : List D → List D → Prop} {xs ys : List D} : l2Q Q () (.lst xs) (.lst ys) = Q xs ys := Eq.trans rfl rfl
theorem y_cat : Wq QL E () (mCat a b s h) = Wq (fun x s h => Wq (fun y s h => l2Q (fun xs ys => xs.length + ys.length ≤ 100000 ∧ QL (xs ++ ys) s h) () (view h x) (view h y)) E () (b s h)) E () (a s h) := sk fun x _ _ => sk fun y _ h => by
  cases view h x with
  | lst xs =>
    cases view h y with
    | lst ys => exact y_ite
    | _ => rfl
  | _ => rfl
end
def eqFl : D → D → Option Bool
  | .non, .non => some true
  | .int i, .int j => some (i == j)
  | .str x, .str y => some (x == y)
  | .bl x, .bl y => some (x == y)
  | _, _ => none
def eqFls : List D → List D → Option Bool
  | [], [] => some true
  | x :: xs, y :: ys => match eqFl x y, eqFls xs ys with
    | some a, some b => some (a && b)
    | _, _ => none
  | _, _ => none
def neX (h : Hd) (a b : D) : Option D := match a, b with
  | .tup xs, .tup ys => match eqFls xs ys with
    | some k => some (.bl !k)
    | none => neD h a b
  | _, _ => neD h a b
section
variable {X : Cx} {W : WX} {k : Nat} {pins : List (Addr × Obj)} {σ : L2.St} {H : Hp} {s : Shared} {c : C}
theorem eqAt_none {A : Around} {s : Shared} : SeqAt.EqAt A s .none .none true := fun prog w E Q h => by
  unfold eqBool
  refine wpAny_holding (wpAny_ite_split (fun _ => ?_) fun z => ?_)
  · exact wpAny_bind (wpAny_rule (wpAny_pure h))
  · exact absurd (show (Value.none == Value.none) = true from rfl) (by first | exact z | simpa using z)
theorem eqFl_at {A : Around} {x y : D} {v w : V} {u t : Value} {r : Bool} (rx : Rel X.K c H x v) (ru : RelV v u) (ry : Rel X.K c H y w) (rt : RelV w t) (e : eqFl x y = some r) : SeqAt.EqAt A s u t r := by
  unfold eqFl at e
  split at e
  · cases e; cases rx; cases ry; cases ru; cases rt; exact eqAt_none
  · cases e; cases rx; cases ry
    obtain ⟨_, rfl⟩ := ru
    obtain ⟨_, rfl⟩ := rt
    exact SeqAt.EqAt.int_int _ _ _ _
  · cases e; cases rx; cases ry
    obtain ⟨_, rfl⟩ := ru
    obtain ⟨_, rfl⟩ := rt
    exact SeqAt.EqAt.str_str _ _ _ _
  · cases e; cases rx; cases ry; cases ru; cases rt; exact SeqAt.EqAt.bool_bool _ _
  · cases e
theorem eqFls_at {A : Around} : ∀ {xs ys : List D} {vs ws : List V} {us ts : List Value} {r : Bool}, RelL X.K c H xs vs → Vals vs us → RelL X.K c H ys ws → Vals ws ts → eqFls xs ys = some r → us.length = ts.length ∧ ∃ e : Nat → Bool, (∀ j (h1 : j < us.length) (h2 : j < ts.length), SeqAt.EqAt A s us[j] ts[j] (e j)) ∧ (List.range us.length).all e = r
  | [], [], vs, ws, us, ts, r, a, b, a', b', e => by
    cases a; cases b; cases a'; cases b'; cases e
    exact ⟨rfl, fun _ => true, fun j h1 => absurd h1 (by simp), rfl⟩
  | x :: xs, y :: ys, vs, ws, us, ts, r, a, b, a', b', e => by
    obtain ⟨v, vr, rfl, h1, h2⟩ := (show ∃ v r, vs = v :: r ∧ Rel X.K c H x v ∧ RelL X.K c H xs r from a)
    obtain ⟨w, wr, rfl, g1, g2⟩ := (show ∃ v r, ws = v :: r ∧ Rel X.K c H y v ∧ RelL X.K c H ys r from a')
    cases b with
    | cons b1 b2 =>
      cases b' with
      | cons c1 c2 =>
        unfold eqFls at e
        cases q1 : eqFl x y with
        | none => rw [q1] at e; cases e
        | some p =>
          cases q2 : eqFls xs ys with
          | none => rw [q1, q2] at e; cases e
          | some q =>
            rw [q1, q2] at e
            cases e
            obtain ⟨l, f, f1, f2⟩ := eqFls_at (A := A) h2 b2 g2 c2 q2
            refine ⟨by simp [l], fun j => match j with | 0 => p | j + 1 => f j, fun j z1 z2 => ?_, ?_⟩
            · cases j with
              | zero => exact eqFl_at h1 b1 g1 c1 q1
              | succ j => exact f1 j (by simpa using z1) (by simpa using z2)
            · rw [List.length_cons, List.range_succ_eq_map, List.all_cons, List.all_map]
              show (p && (List.range _).all f) = (p && q)
              rw [f2]
  | [], _ :: _, _, _, _, _, _, _, _, _, _, e => by cases e
  | _ :: _, [], _, _, _, _, _, _, _, _, _, e => by cases e
theorem o_neXU (hu0 : X.A.units + 64 < cLine) : OpR X (compareOp .NotEq) (DOp X.K neX) := fun pins s σ H v w u t Q I rv rt ⟨c, h, x, y, d, rh, ra, rb, e, hq⟩ => by
  have old : neD h x y = some d → wpAny (model X.prog X.w) X.A (compareOp .NotEq u t) (EP X pins σ Q) X.xe s := fun z => o_neU hu0 pins s σ H v w u t Q I rv rt ⟨c, h, x, y, d, rh, ra, rb, z, hq⟩
  unfold neX at e
  split at e
  · rename_i xs ys
    split at e
    · rename_i r er
      cases e
      obtain ⟨a, vs, rfl, h1, rl⟩ := ra
      obtain ⟨b, ws, rfl, h2, rl2⟩ := rb
      cases rv
      cases rt
      obtain ⟨its, r1, t1, _⟩ := I.tuple h1.sq
      obtain ⟨its2, r2, t2, _⟩ := I.tuple h2.sq
      obtain ⟨l, f, f1, f2⟩ := eqFls_at (A := X.A.in1) (s := s) rl r1 rl2 r2 er
      have hu : X.A.units < cLine := by have := hu0; omega
      have z := SeqAt.RcNeAt.tuples (A := X.A) (s := s) (e := f) t1 t2 hu (fun j z1 z2 => f1 j (by simpa using z1) (by simpa using z2))
      refine z X.prog X.w X.xe _ ?_
      have eb : (!((List.range (min its.toArray.size its2.toArray.size)).all f && its.toArray.size == its2.toArray.size)) = !r := by
        simp only [List.size_toArray, l, Nat.min_self, beq_self_eq_true, Bool.and_true]
        rw [← l, f2]
      rw [eb]
      exact ⟨.bl _, H, I, rfl, hq _ H (fun _ _ z => z) rfl⟩
    · exact old e
  · exact old e
theorem o_neX (q : Cq gp X W k) : OpR X (compareOp .NotEq) (DOp X.K neX) := o_neXU q.rm.units
end
end Dm
end
section
namespace Dm
open PySem PySem.Spec PyProof.Rows L2
variable {gp : Prop}
def inB (d : D) : Bool := match d with
  | .int _ => true
  | _ => false
section
open PySem.W
variable {X : Cx} {W : WX} {k : Nat}
variable {a : Expr} {ms : M (List D)} {p pos : Pos}
end
section
variable {E : Ex} {s : Sd} {h : Hd} {ms : M (List D)} {QL : List D → Sd → Hd → Prop}
end
section
variable {prog : Program} {w : World} {A : Around} {E : Value → Shared → Prop} {s : Shared}
end
section
variable {X : Cx} {e : Expr} {te : TE}
end
section
variable {P : Program} {w : World} {K : PySem.W.Frag} {mg : Str → Option Value} {base : Heap} {x : Str} {params : Arguments} {scope : Scope} {f : Addr} {fd : FuncData} {N ps : List Str} {k : Nat} {e : Expr} {me : M D} {yp pos : Pos}
end
section
variable {X : Cx} {W : WX} {k j n : Nat} {x : Str} {ps : List Str} {mf : MF} {ms : M (List D)} {a : Expr} {es : List Expr} {p pos p2 pos2 : Pos}
end
section
variable {E : Ex} {s : Sd} {h : Hd} {ms : M (List D)} {mf : MF} {QL : List D → Sd → Hd → Prop}
end
def mNz (fs : List (Str × D)) (m : M D) : M D := match fs with
  | [] => fun _ _ => .bad
  | _ :: _ => m
theorem y_nz {E : Ex} {s : Sd} {h : Hd} {Q : D → Sd → Hd → Prop} {f : Str × D} {fs : List (Str × D)} {m : M D} : Wq Q E () (mNz (f :: fs) m s h) = Wq Q E () (m s h) := rfl
section
variable {X : Cx} {i : Nat} {a : Addr} {oe : Obj} {cls : Value} {d : Option Addr} {pn : List (Addr × Obj)} {x n f : Str} {fs : List (Str × D)} {e1 e2 : Expr} {m : M D} {C : Addr} {p p2 p3 pos pos2 : Pos} {P : Program} {w : World} {base : Heap} {m2 : M D}
end
end Dm
end
section
namespace Dm
open PySem PySem.Spec PyProof.Rows L2 LamX
variable {gp : Prop}
structure LamA (sc scope : Scope) (p : Str) : Prop where
  kind : scope.kind = .function
  co : scope.isCoroutine = false
  gen : scope.isGenerator = false
  par : scope.names.lookup p = some .local
  noC : ∀ y ∈ scope.names, y.2 ≠ .cell
  onl : ∀ y, scope.names.lookup y = some .local → y = p
  free : ∀ y ∈ scope.names, y.2 = .free → sc.names.lookup y.1 = some .cell ∨ sc.names.lookup y.1 = some .free
theorem LamA.has {X : Cx} {scope : Scope} {p : Str} (L : LamA X.env.scope scope p) (ok : X.Ok) : ∀ y ∈ scope.names, y.2 = .free → ∃ c, X.env.cells.lookup y.1 = some c := fun y hy e => by
  rcases L.free y hy e with k | k
  · exact ok.has _ (.inl k)
  · exact ok.has _ (.inr k)
section
variable {X : Cx} {pins : List (Addr × Obj)} {σ : L2.St} {H : Hp} {s : Shared}
end
section
variable {K : PySem.W.Frag} {c : C} {H H1 : Hp} {h : Hd} {sd : Sd} {σ : L2.St} {P k : Addr} {ps : Array Value} {pos : Pos} {i : Nat} {x q : Str}
end
section
variable {X : Cx} {pins : List (Addr × Obj)} {σ : L2.St} {H : Hp} {s : Shared}
end
end Dm
end
section
namespace Dm
open PySem PySem.Spec PyProof.Rows L2 LamX
variable {gp : Prop}
section
variable {X : Cx} {pins : List (Addr × Obj)} {σ : L2.St} {H : Hp} {s : Shared}
theorem inv_turnL {t' : Nat} {h' : Heap} {ch : List Addr} (I : Inv X pins σ H s) (k : ∀ b o, b ∉ ch → s.heap.get? b = some o → h'.get? b = some o) (hf : ∀ b ∈ ch, FpOk X pins H b) : Inv X pins σ H { s with heap := h', toks := t' } := by
  have nit : ∀ b u, H b = some u → b ∉ ch := fun b u e z => by
    rw [(hf b z).1] at e; cases e
  refine I.step (g' := s.gens) (d' := s.drawn) (ch := ch) ?h1 ?h2 ?h3 (fun _ _ _ _ n => n) ?h4 (fun _ _ e => e) (fun _ _ _ e => e) (fun b ps e => ⟨#[], by rw [e]; simp⟩) ?h5 ?h6 I.bare
  case h1 =>
    intro b hb
    obtain ⟨f0, f1, f2, f3, f4, f5⟩ := hf b hb
    exact ⟨f3, f1, f4, f5⟩
  case h2 => exact fun b o _ _ hc e _ => k b o hc e
  case h3 => exact fun b o _ _ hc e _ => ⟨o.slots, k b o hc e⟩
  case h4 => exact fun b o hc e => ⟨o, k b o hc e⟩
  case h5 =>
    rintro m ⟨o, es, ep, ho, r⟩
    exact ⟨o, es, ep, k _ o (fun z => (hf _ z).2.1 rfl) ho, r⟩
  case h6 =>
    intro b u e
    refine (I.hok b u e).stay (fun c v hc q => k c v ?_ q) (fun _ q => q) fun _ _ q => q
    rcases hc with z | z
    · rw [z]; exact nit b u e
    · exact nit c _ z
theorem inv_track {a : Addr} {o : HO} (I : Inv X pins σ H s) (hf : FpOk X pins H a) (new : ObjOk X.prog X.w (upd H a o) s.heap a o) : Inv X pins σ (upd H a o) s := by
  obtain ⟨f0, f1, f2, f3, f4, f5⟩ := hf
  have u := I.base
  constructor
  case ok => exact I.ok
  case os => exact I.os
  case bare => exact I.bare
  case base =>
    refine ⟨u.keep, u.slot, fun b ob e n hx => ?_, u.there, fun b xs e => ?_, fun b ob w e => ?_, fun b ps e => ?_⟩
    · rw [upd_ne (fun z => ?_)]
      · exact u.free b ob e n hx
      · subst z
        rcases f3 with q | q
        · exact hx q
        · exact Nat.lt_irrefl _ (Nat.lt_of_lt_of_le (Heap.lt_size e) q)
    · have q := u.tups b xs e
      rw [upd_ne (ne_of_none q f0)]; exact q
    · have q := u.frzs b ob w e
      rw [upd_ne (ne_of_none q f0)]; exact q
    · obtain ⟨more, q⟩ := u.tbls b ps e
      exact ⟨more, by rw [upd_ne (ne_of_none q f0)]; exact q⟩
  case loc => exact I.loc
  case cell => exact I.cell
  case free => rw [upd_ne (Ne.symm f1)]; exact I.free
  case freeC =>
    intro x c e
    rw [upd_ne (f4 x c e)]
    exact I.freeC x c e
  case pin =>
    intro p hp
    obtain ⟨q1, q2, q3, q4, q5⟩ := I.pin p hp
    exact ⟨q1, by rw [upd_ne (f5 p hp)]; exact q2, q3, q4, q5⟩
  case hok => exact I.hok.laidN (fun _ _ e => e) f0 new
  case len => exact I.len
open PySem.W in
theorem sort_key {l f : Addr} {vs : List Value} {E : Value → Shared → Prop} {Q : VK} (I : Inv X pins σ H s) (hl : s.heap.IsList l vs.toArray) (hZ : vs.length ≤ sizeLine) (J : Nat → Hp → List Value → Prop) (j0 : J 0 H [])
    (step : ∀ (i : Nat) (v : Value) (H1 : Hp) (ks : List Value) (s1 : Shared) (pn : List (Addr × Obj)), vs[i]? = some v → Inv X pn σ H1 s1 → J i H1 ks →
      wpAny (model X.prog X.w) X.A.in1.in1 (call (.ref f) [v]) (fun u s2 => ∃ H2, Inv X pn σ H2 s2 ∧ J (i + 1) H2 (ks ++ [u])) (fun _ _ => False) s1)
    (fin : ∀ (H1 : Hp) (ks : List Value) (s1 : Shared), Inv X pins σ H1 s1 → J vs.length H1 ks → ∃ kz : List PyData, EachIs (fun v k => ∃ as, Reads s1.heap v k as) ks kz ∧ kz.length = vs.length ∧ AllAlike kz ∧ Sortable kz ∧ (∀ d ∈ kz, X.A.in1.in1.units + d.depth < cLine) ∧
      ∀ out : List Value, KeyedOut false kz vs out → ∃ ws : List V, Vals ws out ∧ ∀ p, H1 p = none → Q (.ref p) (upd H1 p (.lst ws))) :
    wpAny (model X.prog X.w) X.A (call (.builtin "sorted") [.ref l] [(Str.ofString "key", .ref f)]) (EP X pins σ Q) E s := by
  refine sorted_of_sort hl hZ (ksk_s1 _ _) (fun x => by unfold argsOk; kernel_rfl) fun E' => ?_
  rw [ksk_t1]
  have fresh : ∀ b, s.heap.objs.size ≤ b → FpOk X pins H b := fun b hb => I.fpOk hb (I.hok.fresh hb)
  have I1 : Inv X pins σ H { s with heap := copyHeap s.heap vs } := I.kept (t' := s.toks) fun b u e => copyHeap_old e
  have ha := copyHeap_at s.heap vs
  generalize ea : s.heap.objs.size + 1 = a at ha
  have le1 : s.heap.objs.size ≤ a := by rw [← ea]; exact Nat.le_succ _
  have fa : FpOk X pins H a := fresh a le1
  have sz1 : s.heap.objs.size ≤ (copyHeap s.heap vs).objs.size := Nat.le_trans le1 (Nat.le_of_lt (Heap.lt_size ha))
  generalize eh : copyHeap s.heap vs = hC at *
  obtain ⟨e1, ho1⟩ : ∃ e1, (hC.update a (Obj.mapSeq fun _ => (#[] : Array Value))).get? a = some (seqObj "list" #[] e1) := ⟨_, get?_update_seq ha fun _ => #[]⟩
  unfold ksk_tree
  refine wpAny_bind (listItems_at ha rfl ?_)
  refine wpAny_bind (listUpdate_at ha rfl ?_ (by rw [List.size_toArray]; exact hZ) (Nat.zero_le _))
  refine wpAny_bind (seqEpoch_at ho1 rfl ?_)
  refine wpAny_bind (wpAny_newTuple ?_ (by show vs.length ≤ _; exact hZ))
  refine wpAny_bind (wpAny_newList ?_ (Nat.zero_le _))
  refine wpAny_holding ?_
  have hkS : ((hC.update a (Obj.mapSeq fun _ => (#[] : Array Value))).push (seqObj "tuple" vs.toArray 0)).objs.size = hC.objs.size + 1 := by rw [size_push', Heap.size_update]
  have hk0 : ((((hC.update a (Obj.mapSeq fun _ => (#[] : Array Value))).push (seqObj "tuple" vs.toArray 0)).push (seqObj "list" #[] 0))).get? (hC.objs.size + 1) = some (seqObj "list" #[] 0) := by
    rw [← hkS]; exact Heap.get?_push_size _ rfl
  have na0 : ((((hC.update a (Obj.mapSeq fun _ => (#[] : Array Value))).push (seqObj "tuple" vs.toArray 0)).push (seqObj "list" #[] 0))).get? a = some (seqObj "list" #[] e1) := Heap.get?_push_of_some _ (Heap.get?_push_of_some _ ho1)
  have I2 : Inv X pins σ H { s with heap := ((hC.update a (Obj.mapSeq fun _ => (#[] : Array Value))).push (seqObj "tuple" vs.toArray 0)).push (seqObj "list" #[] 0) } := by
    refine inv_turnL (s := { s with heap := hC }) (t' := s.toks) (ch := [a]) I1 (fun b o hb e => ?_) (fun b hb => by rw [List.mem_singleton.mp hb]; exact fa)
    exact Heap.get?_push_of_some _ (Heap.get?_push_of_some _ ((Heap.get?_update_ne _ _ _ _ (fun z => hb (by simp [z]))).trans e))
  show wpAny _ _ (ksk_rest a (.ref f) false vs.toArray e1 (.ref ((hC.update a (Obj.mapSeq fun _ => (#[] : Array Value))).push (seqObj "tuple" vs.toArray 0)).objs.size)) _ _ _
  rw [hkS]
  generalize ek : hC.objs.size + 1 = kS at hk0
  have fk : FpOk X pins H kS := fresh kS (by rw [← ek]; exact Nat.le_succ_of_le sz1)
  have nka : kS ≠ a := fun z => by
    have q : a < hC.objs.size + 1 := Nat.lt_succ_of_lt (Heap.lt_size ha)
    rw [ek, z] at q
    exact Nat.lt_irrefl _ q
  generalize ((hC.update a (Obj.mapSeq fun _ => (#[] : Array Value))).push (seqObj "tuple" vs.toArray 0)).push (seqObj "list" #[] 0) = h0 at *
  unfold ksk_rest
  refine wpAny_bind (wpAny_rule ?_)
  first
    | rw [List.forIn_toArray]
    | (rw [← Array.forIn_toList]; simp only [List.toList_toArray])
    | rw [← Array.forIn_toList]
  have keepF : ∀ {H1 : Hp} {b : Addr}, FpOk X pins H b → H1 b = none → FpOk X pins H1 b := fun {H1 b} q n => ⟨n, q.2⟩
  refine wpAny_bind (ksk_fold (fun i s' => ∃ (H1 : Hp) (kA : Array Value) (e : Nat), Inv X pins σ H1 s' ∧ H1 a = none ∧ H1 kS = none ∧ s'.heap.get? kS = some (seqObj "list" kA e) ∧ s'.heap.get? a = some (seqObj "list" #[] e1) ∧ kA.size = i ∧ J i H1 kA.toList) vs 0 _
    ⟨H, #[], 0, I2, fa.1, fk.1, hk0, na0, rfl, j0⟩ ?step ?done)
  case step =>
    rintro i x s1 hx ⟨H1, kA, e, J1, n1, n2, g1, g2, sz, jj⟩
    simp only [Nat.zero_add] at sz jj ⊢
    have hi : i < vs.length := (List.getElem?_eq_some_iff.mp hx).1
    have fp : ∀ b ∈ [kS, a], FpOk X pins H1 b := fun b hb => by
      rcases List.mem_cons.mp hb with z | z
      · subst z; exact keepF fk n2
      · rw [List.mem_singleton.mp z]; exact keepF fa n1
    have IP := J1.pinned (fp := [kS, a]) fp fun b hb => by
      rcases List.mem_cons.mp hb with z | z
      · subst z; exact ⟨_, g1, fun v q => nomatch q⟩
      · rw [List.mem_singleton.mp z]; exact ⟨_, g2, fun v q => nomatch q⟩
    refine wpAny_bind (wpAny_attempt (wpAny_mono (step i x H1 kA.toList s1 _ hx IP jj) (fun v s2 he => ?_) fun _ _ hF => hF.elim))
    obtain ⟨H2, I3, j2⟩ := he
    try dsimp only
    have pk := I3.pin (kS, seqObj "list" kA e) (List.mem_append_right _ (List.mem_append_right _ (mem_pinsAt (by simp) g1)))
    have pa := I3.pin (a, seqObj "list" #[] e1) (List.mem_append_right _ (List.mem_append_right _ (mem_pinsAt (by simp) g2)))
    have I4 := I3.unpinned
    have s1' := Heap.SameBut.update s2.heap kS (Obj.mapSeq (·.push v))
    obtain ⟨c2, hc2⟩ : ∃ c2, (s2.heap.update kS (Obj.mapSeq (·.push v))).get? kS = some (seqObj "list" (kA.push v) c2) := ⟨_, get?_update_seq pk.1 (·.push v)⟩
    refine wpAny_bind (listUpdate_at pk.1 rfl ?_ (by omega) (by rw [Array.size_push]; omega))
    refine wpAny_pure ⟨rfl, H2, kA.push v, c2, ?_, pa.2.1, pk.2.1, hc2, (s1'.2 a (Ne.symm nka)).trans pa.1, by rw [Array.size_push]; omega, by simpa using j2⟩
    exact inv_turnL (t' := s2.toks) (ch := [kS]) I4 (fun b o hb q => (s1'.2 b (fun z => hb (by simp [z]))).trans q) fun b hb => by
      rw [List.mem_singleton.mp hb]; exact keepF fk pk.2.1
  case done =>
    rintro s1 ⟨H1, kA, e, J1, n1, n2, g1, g2, sz, jj⟩
    simp only [Nat.zero_add] at sz jj
    try dsimp only
    obtain ⟨kz, hr, hlen, hal, hsk, hu, hout⟩ := fin H1 kA.toList s1 J1 jj
    refine wpAny_bind (listItems_at g1 rfl ?_)
    obtain ⟨G, q1, q2⟩ := restrict s1.heap fun b => decide (b ≠ kS)
    have gk : ∀ b o, b ≠ kS → s1.heap.get? b = some o → G.get? b = some o := fun b o hb z => (q1 b (by simpa using hb)).trans z
    have gb : ∀ b o, G.get? b = some o → b ≠ kS ∧ s1.heap.get? b = some o := fun b o z => by
      by_cases hb : b = kS
      · subst hb
        rw [q2 b (by simp)] at z
        cases z
      · exact ⟨hb, (q1 b (by simpa using hb)).symm.trans z⟩
    refine keyH_end (κ := dataKind s1.heap kz) (h₁ := G) (fun b o _ z => (gb b o z).2) (q2 kS (by simp)) g1 g2 nka (SortsAt.data hr hal hsk hu) (by rw [sz]) hZ fun h3 tk3 c3 k3 n3 => ?_
    obtain ⟨ws, vw, hq⟩ := hout _ ⟨s1.heap, kA.toList, hal, rfl, hr⟩
    refine ⟨rfl, .ref a, upd H1 a (.lst ws), ?_, rfl, hq a n1⟩
    have I5 : Inv X pins σ H1 { s1 with heap := h3, toks := tk3 } := inv_turnL (ch := [a, kS]) J1 (fun b o hb z => k3 b o (fun y => hb (by simp [y])) (gk b o (fun y => hb (by simp [y])) z)) fun b hb => by
      rcases List.mem_cons.mp hb with z | z
      · subst z; exact keepF fa n1
      · rw [List.mem_singleton.mp z]; exact keepF fk n2
    refine inv_track I5 (keepF fa n1) ⟨?_, _, c3, vw, n3⟩
    rw [vw.length, KeyedOut.length ⟨s1.heap, kA.toList, hal, rfl, hr⟩ hlen]
    exact hZ
end
end Dm
end
section
namespace Dm
open PySem PySem.Spec PyProof.Rows L2 LamX
variable {gp : Prop}
def noOwn : Sl → Sl
  | .own _ => .no
  | x => x
def valD (s : Sd) : Sd := s.map noOwn
section
variable {K : PySem.W.Frag} {c c' : C} {H H' : Hp} {h : Hd} {sd : Sd} {s : L2.St}
end
theorem Cq.lam {X : Cx} {W : WX} {k : Nat} (q : Cq gp X W (k + 2)) {s : Shared} {H : Hp} {scope : Scope} {f c : Addr} : Cq gp (lamCx X X.A.in1.in1 X.stack s H (fun _ _ _ => False) scope f c) W0 k :=
  ⟨takesN0, q.gu, by
    have r := q.rm
    refine ⟨r.hd, ?_, ?_⟩
    · have := r.dp
      show X.A.depth + 1 + 3 * k + 5 < _
      omega
    · have := r.un
      show X.A.units + 1 + 1 + 3 + 16 * k + 200 < _
      omega, rfl, q.nd⟩
section
open PySem.W
variable {X : Cx} {W : WX} {k : Nat} {a body : Expr} {ms : M (List D)} {mb : M D} {params : Arguments} {scope : Scope} {x p : Str} {i j : Nat} {q0 lpos kpos pos : Pos}
end
end Dm
end
section
namespace Dm
open PySem PySem.Spec PyProof.Rows L2 LamX
variable {gp : Prop}
section
variable {P : Program} {w : World} {K : PySem.W.Frag} {mg mb : Str → Option Value}
end
section
variable {E : Ex} {s : Sd} {h : Hd} {ms : M (List D)} {QL : List D → Sd → Hd → Prop} {x : Str} {i j : Nat} {mb : M D}
end
end Dm
end
section
namespace Dm
open PySem PySem.Spec PyProof.Rows L2
variable {gp : Prop}
section
variable {X : Cx} {W : WX} {a e : Expr} {ma : M D} {p pos p2 pos2 : Pos} {te : L2.St → Hp → (Int → Int → Hp → Prop) → Prop}
end
def gSetO (i : Nat) (mb : M D) : D → M Unit := fun v s h => match ownAt s i with
  | none => .bad
  | some _ => match mb s h with
    | .ok (.int k) s h => (match ownAt s i with
      | some xs => (match ixN xs.length k with
        | some j => .ok () (s.set i (.own (xs.set j v))) h
        | none => .bad)
      | none => .bad)
    | _ => .bad
section
variable {X : Cx} {b : Expr} {mb : M D} {x : Str} {i : Nat} {p apos : Pos}
end
theorem y_gSetO {E : Ex} {s : Sd} {h : Hd} {i : Nat} {mb : M D} {v : D} {QU : Unit → Sd → Hd → Prop} : Wq QU E () (gSetO i mb v s h) = atO (fun _ => Wq (fun kd s h => inQ (fun k => atO (fun xs => opQ (fun j => QU () (s.set i (.own (xs.set j v))) h) () (ixN xs.length k)) () s i) () kd) nX () (mb s h)) () s i := by
  rw [← atO_eq]
  unfold gSetO
  cases ownAt s i with
  | none => rfl
  | some _ =>
    cases mb s h with
    | bad => rfl
    | exc y fs s1 h1 => rfl
    | ok kd s1 h1 =>
      cases kd with
      | int k =>
        show Wq QU E () (match ownAt s1 i with
          | some xs => (match ixN xs.length k with
            | some j => .ok () (s1.set i (.own (xs.set j v))) h1
            | none => .bad)
          | none => .bad) = atO _ () s1 i
        rw [← atO_eq]
        cases ownAt s1 i with
        | none => rfl
        | some xs => cases hx : ixN xs.length k <;> simp only [hx] <;> rfl
      | _ => rfl
section
variable {X : Cx} {W : WX} {k : Nat} {a : Expr} {ms : M (List D)} {p pos kpos cpos : Pos} {j : Nat}
end
end Dm
end
section
namespace Dm
open PySem PySem.Spec PyProof.Rows L2 PySem.W
variable {gp : Prop}
section
variable {prog : Program} {w : World} {A : Around} {E : Value → Shared → Prop} {s : Shared}
end
section
variable {X : Cx} {W : WX} {k : Nat}
variable {a : Expr} {ms : M (List D)} {p pos : Pos}
end
end Dm
end
section
namespace Dm
open PySem PySem.Spec PyProof.Rows L2
variable {gp : Prop}
end Dm
end
section
namespace Dm
open PySem PySem.Spec PyProof.Rows L2
section
variable {prog : Program} {w : World} {A : Around} {E : Value → Shared → Prop} {s : Shared} {z TI TO i1 i2 : Addr} {fp1 fp2 : List Addr} {n1 n2 i : Nat} {P1 P2 : Nat → Value → Prop} {St1 St2 : Nat → Heap → Prop} {a1 a2 : Value}
end
end Dm
end
section
namespace Dm
open PySem PySem.Spec PyProof.Rows L2
section
variable {prog : Program} {w : World} {A : Around} {E : Value → Shared → Prop} {s : Shared}
variable {z TI TO i1 i2 : Addr} {fp1 fp2 : List Addr} {n1 n2 i : Nat} {P1 P2 : Nat → Value → Prop} {St1 St2 : Nat → Heap → Prop} {a1 a2 : Value}
end
def IterB (b : Bool) (h : Heap) (it a : Addr) (i : Nat) : Prop := match b with
  | true => h.IsTupleIter it a i
  | false => h.IsListIter it a i
theorem IterB.at {b : Bool} {h h' : Heap} {a l i} (x : IterB b h a l i) (e : ∀ o, h.get? a = some o → h'.get? a = some o) : IterB b h' a l i := by
  cases b with
  | true => exact Heap.IsTupleIter.at x e
  | false => exact Heap.IsListIter.at x e
theorem IterB.obj {b : Bool} {h : Heap} {a l i} (x : IterB b h a l i) : ∃ o, h.get? a = some o ∧ ∀ v, o.data ≠ .cell v := by
  cases b with
  | true => obtain ⟨o, ho, hc, hd⟩ := x; exact ⟨o, ho, fun v q => by rw [hd] at q; cases q⟩
  | false => obtain ⟨o, ho, hc, hd⟩ := x; exact ⟨o, ho, fun v q => by rw [hd] at q; cases q⟩
section
variable {X : Cx} {pins : List (Addr × Obj)} {σ : L2.St} {H : Hp} {s : Shared}
end
end Dm
end
section
namespace Dm
open PySem PySem.Spec PyProof.Rows L2
section
variable {X : Cx} {W : WX} {e e2 : Expr} {ta : TA} {p pos tpos kpos cpos : Pos} {elts : List Expr} {kk j : Nat} {pins : List (Addr × Obj)} {σ : L2.St} {H1 : Hp} {s1 : Shared} {R : It → Hp → Prop} {a b : Addr} {st b1 b2 : Bool}
end
section
variable {X : Cx} {W : WX} {a b : Expr} {ms : M (List D)} {p pos tpos kpos cpos : Pos} {elts : List Expr} {kk j : Nat} {tg ex : Expr} {st : Bool}
end
def zpQ (Q : D → D → Prop) (_ : Tg Q Q) : List D → Prop
  | [d, e] => Q d e
  | _ => False
theorem zpQ_2 {Q : D → D → Prop} {d e : D} : zpQ Q () [d, e] = Q d e := Eq.trans rfl rfl
end Dm
end
section
namespace Dm
open PySem L2 PySem.Spec PyProof.Rows
abbrev NK := Option Int
def fk : NK → DK
  | none => .n
  | some i => .i i
mutual
def noText : NestedKey → Bool
  | .none => true
  | .num _ => true
  | .text _ => false
  | .tup ks => noTexts ks
def noTexts : List NestedKey → Bool
  | [] => true
  | k :: ks => noText k && noTexts ks
end
mutual
theorem hash_any (w w' : World) : ∀ k : NestedKey, noText k = true → k.hash w = k.hash w'
  | .none, _ => rfl
  | .num _, _ => rfl
  | .text _, h => absurd h Bool.false_ne_true
  | .tup ks, h => by unfold NestedKey.hash; rw [hashes_any w w' ks h]
theorem hashes_any (w w' : World) : ∀ ks : List NestedKey, noTexts ks = true → NestedKey.hashes w ks = NestedKey.hashes w' ks
  | [], _ => rfl
  | k :: ks, h => by
    unfold noTexts at h
    rw [Bool.and_eq_true] at h
    unfold NestedKey.hashes
    rw [hash_any w w' k h.1, hashes_any w w' ks h.2]
end
theorem nk_noText (k : DK) : noText k.nk = true := by
  cases k with
  | n => rfl
  | i k => rfl
  | t ks =>
    show noTexts (ks.map opN) = true
    induction ks with
    | nil => rfl
    | cons o ks ih =>
      show (noText (opN o) && noTexts (ks.map opN)) = true
      rw [ih]
      cases o <;> rfl
def EnR (w : World) (p : DK × V × V) (e : DictEntry) : Prop := e.hash = p.1.nk.hash w ∧ RelV p.2.1 e.key ∧ RelV p.2.2 e.val
theorem EnR.any {w w' : World} {p : DK × V × V} {e : DictEntry} (h : EnR w p e) : EnR w' p e := ⟨by rw [h.1]; exact hash_any w w' _ (nk_noText _), h.2⟩
def lkX (kvs : List (DK × V × V)) (k : DK) : Option V := (kvs.find? fun p => decide (p.1 = k)).map (·.2.2)
section
variable {prog : Program} {w : World} {A : Around} {E : Value → Shared → Prop} {s : Shared} {d : Addr}
section
variable {K : Type} [DecidableEq K] {knd : KeyKind prog w K} {kvs : List (K × Value)} {k : K} {key v : Value} {Q : Unit → Shared → Prop}
end
section
variable {K : Type} [DecidableEq K] {knd : HeapKind prog w K} {xs : List (K × Addr × Value)} {k : K} {v : Value} {a : Addr} {Q : Unit → Shared → Prop}
end
end
end Dm
end
section
namespace Dm
open PySem L2 PySem.Spec PyProof.Rows
def lkD (ps : List (DK × D)) (k : DK) : Option D := (ps.find? fun p => decide (p.1 = k)).map (·.2)
def dicAt (h : Hd) : D → Option (Nat × List (DK × D))
  | .ref i => match h[i]? with
    | some (.dic ps) => some (i, ps)
    | _ => none
  | _ => none
section
variable {K : PySem.W.Frag} {c : C} {H : Hp}
theorem RelKV.lk : ∀ {ps : List (DK × D)} {kvs : List (DK × V × V)} (k : DK), RelKV K c H ps kvs → (lkD ps k = none ∧ lkX kvs k = none) ∨ ∃ d v, lkD ps k = some d ∧ lkX kvs k = some v ∧ Rel K c H d v
  | [], kvs, k, h => by cases h; exact .inl ⟨rfl, rfl⟩
  | p :: ps, kvs, k, h => by
    obtain ⟨v, r, rfl, e1, h1, h2, h3⟩ := (show ∃ v r, kvs = v :: r ∧ p.1 = v.1 ∧ Rel K c H p.1.d v.2.1 ∧ Rel K c H p.2 v.2.2 ∧ RelKV K c H ps r from h)
    unfold lkD lkX
    rw [List.find?_cons, List.find?_cons, ← e1]
    cases decide (p.1 = k) with
    | true => exact .inr ⟨p.2, v.2.2, rfl, rfl, h2⟩
    | false => exact RelKV.lk k h3
theorem RelKV.len : ∀ {ps : List (DK × D)} {kvs : List (DK × V × V)}, RelKV K c H ps kvs → ps.length = kvs.length
  | [], kvs, h => by cases h; rfl
  | p :: ps, kvs, h => by
    obtain ⟨v, r, rfl, _, _, _, h3⟩ := (show ∃ v r, kvs = v :: r ∧ p.1 = v.1 ∧ Rel K c H p.1.d v.2.1 ∧ Rel K c H p.2 v.2.2 ∧ RelKV K c H ps r from h)
    simp [RelKV.len h3]
theorem RelKV.any : ∀ {ps : List (DK × D)} {kvs : List (DK × V × V)} (k : DK), RelKV K c H ps kvs → (ps.any fun p => decide (p.1 = k)) = kvs.any fun p => decide (p.1 = k)
  | [], kvs, k, h => by cases h; rfl
  | p :: ps, kvs, k, h => by
    obtain ⟨v, r, rfl, e1, _, _, h3⟩ := (show ∃ v r, kvs = v :: r ∧ p.1 = v.1 ∧ Rel K c H p.1.d v.2.1 ∧ Rel K c H p.2 v.2.2 ∧ RelKV K c H ps r from h)
    rw [List.any_cons, List.any_cons, RelKV.any k h3, e1]
theorem RelKV.all {Pk : DK → V → Prop} : ∀ {ps : List (DK × D)} {kvs : List (DK × V × V)}, RelKV K c H ps kvs → (∀ p ∈ ps, ∀ y, Rel K c H p.1.d y → Pk p.1 y) → ∀ p ∈ kvs, Pk p.1 p.2.1
  | [], kvs, h, _ => by cases h; exact fun p hp => nomatch hp
  | p :: ps, kvs, h, hf => by
    obtain ⟨v, r, rfl, e1, h1, h2, h3⟩ := (show ∃ v r, kvs = v :: r ∧ p.1 = v.1 ∧ Rel K c H p.1.d v.2.1 ∧ Rel K c H p.2 v.2.2 ∧ RelKV K c H ps r from h)
    intro q hq
    rcases List.mem_cons.mp hq with rfl | hq
    · rw [← e1]; exact hf p List.mem_cons_self _ h1
    · exact RelKV.all h3 (fun p hp => hf p (List.mem_cons_of_mem _ hp)) q hq
end
section
variable {X : Cx} {pins : List (Addr × Obj)} {σ : L2.St} {H : Hp} {s : Shared} {a : Addr} {y v : V} {u r : Value} {A : Around} {E : Value → Shared → Prop} {c : C} {k : DK} {ps : List (DK × D)} {kvs : List (DK × V × V)}
end
end Dm
end
section
namespace Dm
open PySem L2 PySem.Spec PyProof.Rows
section
variable {X : Cx} {W : WX} {K : PySem.W.Frag} {k : Nat} {gp : Prop}
theorem dicAt_some {h : Hd} {a : D} {i : Nat} {ps : List (DK × D)} (e : dicAt h a = some (i, ps)) : a = .ref i ∧ h[i]? = some (.dic ps) := by
  unfold dicAt at e
  cases a with
  | ref j =>
    simp only at e
    cases e2 : h[j]? with
    | none => rw [e2] at e; cases e
    | some o =>
      rw [e2] at e
      cases o with
      | dic qs => cases e; exact ⟨rfl, e2⟩
      | lst _ => cases e
      | tab _ => cases e
      | ins _ _ => cases e
      | exn _ _ => cases e
      | clo _ _ => cases e
      | dead => cases e
  | _ => cases e
theorem RelH.dic {c : C} {H : Hp} {h : Hd} {a : D} {x : V} {i : Nat} {ps : List (DK × D)} (rh : RelH K c H h) (ra : Rel K c H a x) (e : dicAt h a = some (i, ps)) :
    ∃ p kvs, x = .ref p ∧ c.r[i]? = some p ∧ H p = some (dX p kvs) ∧ RelKV K c H ps kvs := by
  obtain ⟨rfl, e2⟩ := dicAt_some e
  obtain ⟨p, rfl, e3⟩ := ra
  obtain ⟨kvs, e4, rk⟩ := rh.obj i _ p e2 e3
  exact ⟨p, kvs, rfl, e3, e4, rk⟩
end
end Dm
end
section
namespace Dm
open PySem L2 PySem.Spec PyProof.Rows
section
variable {X : Cx}
end
end Dm
end
section
namespace Dm
open PySem L2 PySem.Spec PyProof.Rows
section
variable {K : PySem.W.Frag} {mg : Str → Option Value}
end
section
variable {X : Cx} {W : WX} {k : Nat} {gp : Prop}
end
section
variable {E : Ex} {s : Sd} {h : Hd} {a b e : M D} {ms : M (List D)} {Q : D → Sd → Hd → Prop} {QF : Fl → Sd → Hd → Prop} {vs : List Nat} {g : D → M Unit} {t : M Bool}
def dcQ (Q : Nat → List (DK × D) → Prop) (_ : Tg Q Q) : Option (Nat × List (DK × D)) → Prop
  | some p => Q p.1 p.2
  | none => False
theorem dcQ_some {Q : Nat → List (DK × D) → Prop} {i : Nat} {ps : List (DK × D)} : dcQ Q () (some (i, ps)) = Q i ps := Eq.trans rfl rfl
end
end Dm
end
section
namespace Dm
open PySem PySem.Spec PyProof.Rows L2 LamX
variable {gp : Prop}
def dropZ (Z : List Addr) (H : Hp) : Hp := fun b => if b ∈ Z then none else H b
section
variable {f b : Addr} {Z : List Addr} {hp h h' : Heap} {H H' : Hp} {fs : List Addr} {P : Program} {w : World} {o : HO}
theorem drop_out (hb : b ∉ Z) : dropZ Z H b = H b := if_neg hb
def MarkZ (f : Addr) (Z : List Addr) (H : Hp) : Prop := ∀ z ∈ Z, ∃ ob, H z = some (.frz ob (.own f))
theorem MarkZ.not (m : MarkZ f Z H) (e : H b = some o) (n : ∀ ob, o ≠ .frz ob (.own f)) : b ∉ Z := fun hz => by
  obtain ⟨ob, q⟩ := m b hz
  rw [e] at q
  exact n ob (Option.some.inj q)
theorem MarkZ.keep (m : MarkZ f Z H) (e : H b = some o) (n : ∀ ob, o ≠ .frz ob (.own f)) : dropZ Z H b = some o := (drop_out (m.not e n)).trans e
variable {A : Around} {outer : List Env} {s s' : Shared} {Q : VK} {E : XK} {K : PySem.W.Frag} {mg : Str → Option Value} {base : Heap} {u : Value}
end
structure Odd (B : HO → Prop) : Prop where
  fz : ∀ o, B o → ∃ ob u, o = .frz ob u
  tup : ∀ ob vs, ¬ B (.frz ob (.tup vs))
  lst : ∀ ob vs, ¬ B (.frz ob (.lst vs))
structure Car2 (B : HO → Prop) (c : C) (H : Hp) (c' : C) (H' : Hp) : Prop where
  odd : Odd B
  out : ∀ a o, c.out a → ¬ B o → H a = some o → c'.out a ∧ H' a = some o
  ref : ∀ (i : Nat) a, c.r[i]? = some a → c'.r[i]? = some a
section
variable {K : PySem.W.Frag} {c c' : C} {H H' : Hp} {h : Hd} {f : Addr} {Z : List Addr} {B : HO → Prop} {sd : Sd} {s : L2.St}
theorem Odd.nf (b : Odd B) {o : HO} (n : ∀ ob u, o ≠ .frz ob u) : ¬ B o := fun q => by
  obtain ⟨ob, u, e⟩ := b.fz o q
  exact n ob u e
theorem Car2.kn (x : Car2 B c H c' H') {a : Addr} {vs : List V} (h : c.out a) (k : KnT H a vs) : c'.out a ∧ KnT H' a vs := by
  obtain ⟨o, e, d⟩ := k
  have q := x.out a _ h (x.odd.tup _ _) e
  exact ⟨q.1, o, q.2, d⟩
theorem Car2.rd (x : Car2 B c H c' H') {a : Addr} {vs : List V} (h : c.out a) (e : Rd H a (.lst vs)) : c'.out a ∧ Rd H' a (.lst vs) := by
  rcases e with e | ⟨u, e⟩
  · have q := x.out a (.lst vs) h (x.odd.nf fun _ _ z => nomatch z) e
    exact ⟨q.1, .inl q.2⟩
  · have q := x.out a _ h (x.odd.lst _ _) e
    exact ⟨q.1, .inr ⟨u, q.2⟩⟩
mutual
theorem Rel.car2 (x : Car2 B c H c' H') : ∀ {d : D} {v : V}, Rel K c H d v → Rel K c' H' d v
  | .non, v, h => h
  | .bl b, v, h => h
  | .int i, v, h => h
  | .str s, v, h => h
  | .tup ds, v, h => by
    obtain ⟨a, vs, e, t, r⟩ := (show ∃ a vs, v = .ref a ∧ TupAt K c H a vs ∧ RelL K c H ds vs from h)
    refine ⟨a, vs, e, ?_, RelL.car2 x r⟩
    rcases t with ⟨t1, t2⟩ | t
    · exact .inl (x.kn t1 t2)
    · exact .inr t
  | .lst ds, v, h => by
    obtain ⟨a, vs, e, t, t2, r⟩ := (show ∃ a vs, v = .ref a ∧ c.out a ∧ H a = some (.lst vs) ∧ RelL K c H ds vs from h)
    have q := x.out a (.lst vs) t (x.odd.nf fun _ _ z => nomatch z) t2
    exact ⟨a, vs, e, q.1, q.2, RelL.car2 x r⟩
  | .ro ds, v, h => by
    obtain ⟨a, vs, e, t, r⟩ := (show ∃ a vs, v = .ref a ∧ RoAt K c H a vs ∧ RelL K c H ds vs from h)
    refine ⟨a, vs, e, ?_, RelL.car2 x r⟩
    rcases t with ⟨t1, t2⟩ | t
    · exact .inl (x.rd t1 t2)
    · exact .inr t
  | .edt, v, h => by
    obtain ⟨a, e, t, t2⟩ := (show ∃ a, v = .ref a ∧ c.out a ∧ H a = some (.dK []) from h)
    have q := x.out a (.dK []) t (x.odd.nf fun _ _ z => nomatch z) t2
    exact ⟨a, e, q.1, q.2⟩
  | .dtx k n, v, h => by
    obtain ⟨a, e, t, t2⟩ := (show ∃ a, v = .ref a ∧ c.out a ∧ H a = some (.dK [(.inr k, .int n)]) from h)
    have q := x.out a (.dK [(.inr k, .int n)]) t (x.odd.nf fun _ _ z => nomatch z) t2
    exact ⟨a, e, q.1, q.2⟩
  | .ref i, v, h => by
    obtain ⟨a, e, t⟩ := (show ∃ a, v = .ref a ∧ c.r[i]? = some a from h)
    exact ⟨a, e, x.ref i a t⟩
theorem RelL.car2 (x : Car2 B c H c' H') : ∀ {ds : List D} {vs : List V}, RelL K c H ds vs → RelL K c' H' ds vs
  | [], vs, h => h
  | d :: ds, vs, h => by
    obtain ⟨v, r, e, h1, h2⟩ := (show ∃ v r, vs = v :: r ∧ Rel K c H d v ∧ RelL K c H ds r from h)
    exact ⟨v, r, e, Rel.car2 x h1, RelL.car2 x h2⟩
end
theorem RelF.car2 (x : Car2 B c H c' H') : ∀ {fs : List (Str × D)} {vs : List (Str × V)}, RelF K c H fs vs → RelF K c' H' fs vs
  | [], vs, h => h
  | g :: fs, vs, h => by
    obtain ⟨v, r, e, e1, h1, h2⟩ := (show ∃ v r, vs = v :: r ∧ g.1 = v.1 ∧ Rel K c H g.2 v.2 ∧ RelF K c H fs r from h)
    exact ⟨v, r, e, e1, h1.car2 x, RelF.car2 x h2⟩
theorem RelKV.car2 (x : Car2 B c H c' H') : ∀ {fs : List (DK × D)} {vs : List (DK × V × V)}, RelKV K c H fs vs → RelKV K c' H' fs vs
  | [], vs, h => h
  | g :: fs, vs, h => by
    obtain ⟨v, r, e, e1, h1, h2, h3⟩ := (show ∃ v r, vs = v :: r ∧ g.1 = v.1 ∧ Rel K c H g.1.d v.2.1 ∧ Rel K c H g.2 v.2.2 ∧ RelKV K c H fs r from h)
    exact ⟨v, r, e, e1, h1.car2 x, h2.car2 x, RelKV.car2 x h3⟩
theorem RelC.car2 (x : Car2 B c H c' H') {g : Addr} (n : ∀ ob, ¬ B (.frz ob (.own g))) {cl : List (Str × Addr)} : ∀ {ys : List Str} {ds : List D}, RelC K c H g cl ys ds → RelC K c' H' g cl ys ds
  | [], ds, h => h
  | y :: ys, ds, h => by
    obtain ⟨d, r, z, ob, u, v, e, e1, h1, h2, h3, h4, h5, h6⟩ := h
    have q := x.out z _ h1 (n _) h2
    exact ⟨d, r, z, ob, u, v, e, e1, q.1, q.2, h3, h4, h5.car2 x, RelC.car2 x n h6⟩
theorem codeO_frz {k : Addr} {q : Str} {o : Obj} {u : HO} : CodeO k q ≠ .frz o u := fun z => by
  unfold CodeO at z
  cases z
theorem RelO.car2 (x : Car2 B c H c' H') {a : Addr} (n : ∀ ob, ¬ B (.frz ob (.own a))) (hk : ∀ u, H a = some u → H' a = some u) : ∀ {o : O}, RelO K c H a o → RelO K c' H' a o
  | .lst ds, h => by
    obtain ⟨vs, e, r⟩ := h
    exact ⟨vs, hk _ e, r.car2 x⟩
  | .dic ps, h => by
    obtain ⟨kvs, e, r⟩ := h
    exact ⟨kvs, hk _ e, r.car2 x⟩
  | .ins y fs, h => by
    obtain ⟨dx, vs, e, o, e2, r⟩ := h
    have q := x.out dx (.own a) o (x.odd.nf fun _ _ z => nomatch z) e2
    exact ⟨dx, vs, hk _ e, q.1, q.2, r.car2 x⟩
  | .exn y fs, h => by
    obtain ⟨d, e, f⟩ := h
    refine ⟨d, hk _ e, fun ne => ?_⟩
    obtain ⟨dd, vs, e1, o, e2, r⟩ := f ne
    have q := x.out dd _ o (x.odd.nf fun _ _ z => by unfold exd at z; cases z) e2
    exact ⟨dd, vs, e1, q.1, q.2, r.car2 x⟩
  | .clo L cs, h => by
    obtain ⟨cl, k, fo, h1, h2, h3, h4, h5, h6⟩ := h
    have q := x.out k _ h2 (x.odd.nf fun _ _ z => codeO_frz z) h3
    exact ⟨cl, k, fo, hk _ h1, q.1, q.2, h4, h5, h6.car2 x n⟩
  | .dead, h => by
    obtain ⟨u, h⟩ := h
    exact ⟨u, hk _ h⟩
  | .tab y, h => by
    obtain ⟨e, ps, e1, t, g⟩ := h
    refine ⟨e, ps, hk _ e1, t, fun pos cv hc => ?_⟩
    obtain ⟨k, g1, g2, g3⟩ := g pos cv hc
    have q := x.out k _ g2 (x.odd.nf fun _ _ z => codeO_frz z) g3
    exact ⟨k, g1, q.1, q.2⟩
theorem RelS.car2 (x : Car2 B c H c' H') (own : ∀ q u, q ∈ c.z → q ∉ c.n → H q = some u → q ∈ c'.z ∧ q ∉ c'.n ∧ H' q = some u) (r : RelS K c H sd s) : RelS K c' H' sd s := by
  refine ⟨r.len, fun i y o e1 e2 => ?_, r.inj⟩
  have t := r.sl i y o e1 e2
  cases y with
  | no => trivial
  | val d =>
    obtain ⟨v, e, q⟩ := t
    exact ⟨v, e, q.car2 x⟩
  | own xs =>
    obtain ⟨q, vs, e, h1, h2, h3, r⟩ := t
    obtain ⟨g1, g2, g3⟩ := own q _ h1 h2 h3
    exact ⟨q, vs, e, g1, g2, g3, r.car2 x⟩
end
end Dm
end
section
namespace Dm
open PySem PySem.Spec PyProof.Rows L2 LamX
variable {gp : Prop}
section
variable {P : Program} {w : World} {K : PySem.W.Frag} {mg : Str → Option Value} {base : Heap} {A : Around} {outer : List Env} {s : Shared} {H : Hp}
end
abbrev MC := List D → List D → Hd → Res D
def mClo (lam : MC) (j : Nat) (o : O) (cs ds : List D) (h : Hd) : Res D := match lam cs ds (h.set j .dead) with
  | .ok d s h => .ok d s (h.set j o)
  | .exc x fs s h => .exc x fs s (h.set j o)
  | .bad => .bad
def spC (K : PySem.W.Frag) (mg : Str → Option Value) (L : LamD) (lam : MC) (f : Addr) : Sp := fun vs H Q E => ∃ c h j cs ds, c.z = [] ∧ RelH K c H h ∧ RelL K c H ds vs ∧ ds.length = L.ps.length ∧ c.r[j]? = some f ∧ h[j]? = some (.clo L cs) ∧ OutP K mg c H Q E (mClo lam j (.clo L cs) cs ds h)
structure LamOk (gp : Prop) (P : Program) (w : World) (K : PySem.W.Frag) (mg : Str → Option Value) (base : Heap) (k : Nat) (L : LamD) (lam : MC) : Prop where
  run : ∀ (f : Addr) (A : Around) (outer : List Env) (s : Shared) (H : Hp) (us : List Value) (vs : List V) (Q : VK) (E : XK), Room k A → (gp → A.guards = some []) → Env0 P w K mg base A outer s H → Vals vs us → spC K mg L lam f vs H Q E →
    codeAny (model P w) A (.call (.ref f) ⟨us, []⟩) (CR (L2N.CX P w) outer P w H s Q E) s
theorem LamOk.mono {P : Program} {w : World} {K : PySem.W.Frag} {mg : Str → Option Value} {base : Heap} {j k : Nat} {L : LamD} {lam : MC} (d : LamOk gp P w K mg base j L lam) (h : j ≤ k) : LamOk gp P w K mg base k L lam :=
  ⟨fun f A outer s H us vs Q E hr => d.run f A outer s H us vs Q E (hr.mono h)⟩
section
variable {K : PySem.W.Frag} {mg : Str → Option Value} {c c' : C} {H H' : Hp} {h h' : Hd} {f : Addr} {Z : List Addr}
end
end Dm
end
section
namespace Dm
open PySem PySem.Spec PyProof.Rows L2 LamX
variable {gp : Prop}
noncomputable instance : DecidableEq LamD := fun a b => Classical.propDecidable (a = b)
section
variable {K : PySem.W.Frag} {mg : Str → Option Value} {W : WX} {L : LamD} {lam : MC} {ms : M (List D)} {i : Nat}
variable {X : Cx} {k j : Nat} {x : Str} {e : Expr} {es : List Expr} {p pos : Pos}
end
section
variable {X : Cx} {pins : List (Addr × Obj)} {σ : L2.St} {H : Hp} {s : Shared} {L : LamD}
end
end Dm
end
section
namespace Dm
open PySem PySem.Spec PyProof.Rows L2 LamX
variable {gp : Prop}
section
variable {K : PySem.W.Frag} {mg : Str → Option Value} {c c' : C} {H H' : Hp} {h h' : Hd} {f : Addr} {Z : List Addr} {sd : Sd} {σ : L2.St}
theorem RelH.setO {i : Nat} {a : Addr} {o : O} (hi : c.r[i]? = some a) (x : RelH K c H h) (r : RelO K c H a o) : RelH K c H (h.set i o) := by
  refine ⟨by rw [List.length_set]; exact x.len, x.nd, x.rn, x.hid, fun j u b e1 e2 => ?_⟩
  by_cases hj : j = i
  · subst hj
    rw [hi] at e2
    cases e2
    have hl : j < h.length := by rw [← x.len]; exact (List.getElem?_eq_some_iff.mp hi).1
    rw [List.getElem?_set_self hl] at e1
    cases e1
    exact r
  · rw [List.getElem?_set_ne (Ne.symm hj)] at e1
    exact x.obj j u b e1 e2
end
section
variable {X : Cx} {W : WX} {k j n ti : Nat} {x y : Str} {ps : List Str} {mf : MF} {ms : List (M D)} {mp : M (List D)} {L : LamD} {is : List Nat} {e : Expr} {es : List Expr} {p pos lpos : Pos}
end
end Dm
end
section
namespace Dm
open PySem PySem.Spec PyProof.Rows L2 LamX
variable {gp : Prop}
def RelPr (K : PySem.W.Frag) (c : C) (H : Hp) : List (D × D) → List (V × V) → Prop
  | [], vs => vs = []
  | p :: ps, vs => ∃ v r, vs = v :: r ∧ Rel K c H p.1 v.1 ∧ Rel K c H p.2 v.2 ∧ RelPr K c H ps r
section
variable {X : Cx} {W : WX} {k : Nat}
theorem RelPr.car {K : PySem.W.Frag} {c c' : C} {H H' : Hp} (x : Car c H c' H') : ∀ {ps : List (D × D)} {vs : List (V × V)}, RelPr K c H ps vs → RelPr K c' H' ps vs
  | [], vs, h => h
  | p :: ps, vs, h => by
    obtain ⟨v, r, e, h1, h2, h3⟩ := h
    exact ⟨v, r, e, h1.car x, h2.car x, RelPr.car x h3⟩
end
end Dm
end
section
namespace Dm
open PySem PySem.Spec PyProof.Rows L2 LamX
variable {gp : Prop}
def noE : Expr := .Constant .none 0 ⟨0, 0, 0, 0⟩
def exC : Expr → Nat → Expr
  | .BoolOp (values := es) .., i => es.getD i noE
  | .BinOp (left := a) .., 0 => a
  | .BinOp (right := a) .., 1 => a
  | .UnaryOp (operand := a) .., 0 => a
  | .Lambda (body := a) .., 0 => a
  | .IfExp (test := a) .., 0 => a
  | .IfExp (body := a) .., 1 => a
  | .IfExp (orelse := a) .., 2 => a
  | .Compare (left := a) .., 0 => a
  | .Compare (comparators := es) .., i + 1 => es.getD i noE
  | .Call (args := es) .., i => es.getD i noE
  | .Subscript (value := a) .., 0 => a
  | .Subscript (slice := a) .., 1 => a
  | .List (elts := es) .., i => es.getD i noE
  | .Tuple (elts := es) .., i => es.getD i noE
  | .ListComp (elt := a) .., 0 => a
  | .Attribute (value := a) .., 0 => a
  | _, _ => noE
section
variable {A : Type} {Q : D → Sd → Hd → Prop} {E : Ex} {s : Sd} {h : Hd} {L : LamD} {lam : MC} {i j : Nat} {ms : M (List D)}
end
end Dm
end
section
namespace Dm
open PySem PySem.Spec PyProof.Rows L2 LamX
variable {gp : Prop}
def putFD (f : Str) (d : D) : List (Str × D) → List (Str × D)
  | [] => [(f, d)]
  | (g, x) :: r => if g = f then (g, d) :: r else (g, x) :: putFD f d r
def insAt (h : Hd) (x : Str) : D → Option (Nat × List (Str × D))
  | .ref i => match h[i]? with
    | some (.ins y fs) => if y = x then some (i, fs) else none
    | _ => none
  | _ => none
section
variable {K : PySem.W.Frag} {c c' : C} {H H' : Hp} {h : Hd} {x f : Str}
theorem RelF.lookup : ∀ {fs : List (Str × D)} {vs : List (Str × V)} {f : Str}, RelF K c H fs vs → (∀ d, fs.lookup f = some d → ∃ v, vs.lookup f = some v ∧ Rel K c H d v) ∧ (fs.lookup f = none → vs.lookup f = none)
  | [], vs, f, r => by cases r; exact ⟨fun d e => (nomatch e), fun _ => rfl⟩
  | p :: fs, vs, f, r => by
    obtain ⟨v, r', rfl, e1, r1, r2⟩ := r
    obtain ⟨g, d0⟩ := p
    obtain ⟨g', v0⟩ := v
    cases (show g = g' from e1)
    obtain ⟨i1, i2⟩ := RelF.lookup (f := f) r2
    by_cases hf : f = g
    · have hb : (f == g) = true := beq_iff_eq.mpr hf
      simp only [List.lookup, hb]
      exact ⟨fun d e => ⟨v0, rfl, by cases e; exact r1⟩, fun e => (nomatch e)⟩
    · have hb : (f == g) = false := beq_eq_false_iff_ne.mpr hf
      simp only [List.lookup, hb]
      exact ⟨i1, i2⟩
theorem RelF.len : ∀ {fs : List (Str × D)} {vs : List (Str × V)}, RelF K c H fs vs → fs.length = vs.length
  | [], vs, r => by cases r; rfl
  | p :: fs, vs, r => by
    obtain ⟨w, r', rfl, e1, r1, r2⟩ := r
    simp [RelF.len r2]
end
section
variable {X : Cx} {W : WX} {o value : Expr} {f x : Str} {pos pos' : Pos} {mo mv : M D}
theorem OutG.bind {K : PySem.W.Frag} {mg : Str → Option Value} {c : C} {H : Hp} {s : L2.St} {tg : List Nat} {Q : L2.St → Hp → Prop} {W : WX} {A B : Type} {R : C → Hp → A → B → Prop} {m : Res A} {k : A → Sd → Hd → Res Unit} (q : OutG K c H s tg Q (m.bind k)) :
    Out K mg R c H s (Then K mg R s fun a sd h' c1 H1 => Ext c H c1 H1 ∧ OutG K c H s tg Q (k a sd h')) W m := by
  cases m with
  | ok a sd h' => exact fun b c' H' x1 x2 x3 x4 => ⟨c', a, sd, h', x2, x3, x4, x1, q⟩
  | exc x fs sd h' => exact q.elim
  | bad => exact q.elim
def gFld (x f : Str) (mo : M D) : D → M Unit := fun d s h => (mo s h).bind fun o s h => match insAt h x o with
  | some (i, fs) => if fs.length < 1000 then .ok () s (h.set i (.ins x (putFD f d fs))) else .bad
  | none => .bad
def stAt (d : D) (h : Hd) : D → D → Option Hd
  | .ref i, .int k => match h[i]? with
    | some (.lst xs) => (ixN xs.length k).map fun j => h.set i (.lst (xs.set j d))
    | _ => none
  | _, _ => none
def gSubR (ma mb : M D) : D → M Unit := fun d s h => (ma s h).bind fun o s h => (mb s h).bind fun k s h => match stAt d h o k with
  | some h' => .ok () s h'
  | none => .bad
theorem OutG.shift {K : PySem.W.Frag} {c c1 : C} {H H1 : Hp} {s : L2.St} {tg : List Nat} {Q : L2.St → Hp → Prop} {m : Res Unit} (h : OutG K c H s tg Q m) (x : Ext c H c1 H1) : OutG K c1 H1 s tg Q m := by
  cases m with
  | ok u sd h3 => exact fun s' c' H' y1 y2 y3 y4 y5 => h s' c' H' (x.trans y1) y2 y3 y4 y5
  | exc _ _ _ _ => exact h
  | bad => exact h
end
end Dm
end
section
namespace Dm
open PySem PySem.Spec PyProof.Rows L2 LamX
variable {gp : Prop}
section
variable {X : Cx} {W : WX} {k j n : Nat} {x m : Str} {ps fl : List Str} {mf : MF} {o e : Expr} {es : List Expr} {mo : M D} {ms : M (List D)} {p pos apos : Pos}
end
end Dm
end
section
namespace Dm
open PySem PySem.Spec PyProof.Rows L2 LamX
variable {gp : Prop}
section
variable {X : Cx} {W : WX} {k j n ti : Nat} {cl m y : Str} {ps fl : List Str} {mf : MF} {mo : M D} {mp : M (List D)} {L : LamD} {is : List Nat} {o e : Expr} {es : List Expr} {apos pos lpos : Pos}
end
end Dm
end
section
namespace Dm
open PySem PySem.Spec PyProof.Rows L2 LamX
open Classical
variable {gp : Prop}
section
variable {K : PySem.W.Frag} {c0 : C} {H0 : Hp} {j : Nat} {xs : List D} {q : Addr}
end
section
variable {X : Cx} {W : WX}
section
variable {elt tg a : Expr} {ifs : List Expr} {scope : Scope} {own : List (Str × Nat)} {ts : List Nat} {pos : Pos} {ma : M D} {g : D → M Unit} {t : M Bool} {me : M D}
end
end
section
variable {E : Ex} {s : Sd} {h : Hd} {d o : D} {mo : M D} {ms : M (List D)} {x m f : Str} {Q : D → Sd → Hd → Prop} {QF : Fl → Sd → Hd → Prop} {QU : Unit → Sd → Hd → Prop} {QL : List D → Sd → Hd → Prop}
def insQ (Q : Nat → List (Str × D) → Prop) (_ : Tg Q Q) : Option (Nat × List (Str × D)) → Prop
  | some p => Q p.1 p.2
  | none => False
def hdQ (Q : Nat → List D → Prop) (_ : Tg Q Q) : Option (Nat × List D) → Prop
  | some p => Q p.1 p.2
  | none => False
theorem insQ_some {Q : Nat → List (Str × D) → Prop} {i : Nat} {fs : List (Str × D)} : insQ Q () (some (i, fs)) = Q i fs := Eq.trans rfl rfl
theorem hdQ_some {Q : Nat → List D → Prop} {i : Nat} {xs : List D} : hdQ Q () (some (i, xs)) = Q i xs := Eq.trans rfl rfl
theorem y_fldT : Wq QU E () (gFld x f mo d s h) = Wq (fun o s h => insQ (fun i fs => fs.length + 1 ≤ 1000 ∧ QU () s (h.set i (.ins x (putFD f d fs)))) () (insAt h x o)) E () (mo s h) := sk fun o s h => by
  cases insAt h x o with
  | none => rfl
  | some p =>
    show Wq QU E () (if p.2.length < 1000 then _ else .bad) = _
    rw [y_ite]
    rfl
theorem y_subR {ma mb : M D} : Wq QU E () (gSubR ma mb d s h) = Wq (fun o s h => Wq (fun k s h => opQ (fun h => QU () s h) () (stAt d h o k)) E () (mb s h)) E () (ma s h) := sk fun o s h => sk fun k s h => by
  cases stAt d h o k <;> rfl
def hnQ (Q : Nat → Prop) (_ : Tg Q Q) : D → Prop
  | .ref i => Q i
  | _ => False
theorem hnQ_ref {Q : Nat → Prop} {i : Nat} : hnQ Q () (.ref i) = Q i := Eq.trans rfl rfl
def nonQ (Q : Prop) (_ : Tg Q Q) : D → Prop
  | .non => Q
  | _ => False
theorem nonQ_non {Q : Prop} : nonQ Q () .non = Q := Eq.trans rfl rfl
end
end Dm
end
section
namespace Dm
open PySem PySem.Spec PyProof.Rows L2 LamX
variable {gp : Prop}
section
variable {X : Cx} {W : WX} {k : Nat}
end
section
variable {X : Cx} {W : WX} {o e : Expr} {ma : M D} {ms : M (List D)} {apos cpos : Pos}
end
section
variable {X : Cx} {W : WX} {o e : Expr} {mo me : M D} {apos cpos : Pos}
end
section
variable {E : Ex} {s : Sd} {h : Hd} {Q : D → Sd → Hd → Prop} {ma e : M D}
end
@[irreducible] def fuR : Nat := 10 ^ 1000
theorem e_gloS {X : Cx} {W : WX} {pos : Pos} {x y : Str} (hm : ∃ t, X.mg x = some (.str y t)) (hg : Gl X x := by rfl) (hd : (x == ("__debug__" : Str)) = false := by decide) : PE X (.Name x pos) (lE X.K X.mg W (mC (.str y))) := by
  obtain ⟨t, hm⟩ := hm
  exact pe_imp (pe_glob (v := .str y) hg hm ⟨t, rfl⟩ hd) (lift_c fun _ _ => rfl)
section
open PySem.W
variable {X : Cx} {W : WX} {k : Nat}
end
end Dm
end
section
namespace Dm
open PySem PySem.Spec PyProof.Rows L2 LamX
open Classical
variable {gp : Prop}
section
variable {K : PySem.W.Frag} {c0 : C} {H0 : Hp} {j : Nat} {ps : List (DK × D)} {q : Addr}
end
section
variable {X : Cx} {W : WX} {elt tg a : Expr} {ifs : List Expr} {scope : Scope} {own : List (Str × Nat)} {ts : List Nat} {pos : Pos} {ma : M D} {g : D → M Unit} {t : M Bool} {me : M D}
end
section
variable {E : Ex} {s : Sd} {h : Hd} {mo : M D} {QL : List D → Sd → Hd → Prop}
end
end Dm
end
section
namespace Dm
open PySem PySem.Spec PyProof.Rows L2 LamX HotX
section
variable {prog : Program} {w : World} {A : Around} {E : Value → Shared → Prop} {s : Shared}
end
def HotP (X : Cx) (pins : List (Addr × Obj)) : Prop := ∃ p : Addr × Obj, L2H.Hot1 X.A p ∧ p ∈ X.pn ++ pins
section
variable {X : Cx} {pins pl : List (Addr × Obj)} {σ : L2.St} {H : Hp} {s : Shared}
theorem HotP.of (c : L2H.HotC X) : HotP X pins := by
  obtain ⟨p, h, hp⟩ := c
  exact ⟨p, h, List.mem_append_left _ hp⟩
theorem HotP.app (c : HotP X pins) : HotP X (pins ++ pl) := by
  obtain ⟨p, h, hp⟩ := c
  refine ⟨p, h, ?_⟩
  rcases List.mem_append.mp hp with z | z
  · exact List.mem_append_left _ z
  · exact List.mem_append_right _ (List.mem_append_left _ z)
theorem HotP.at (c : HotP X pins) (I : Inv X pins σ H s) : ∃ p : Addr × Obj, p ∈ X.pn ++ pins ∧ HotAt X.A p.1 s.heap := by
  obtain ⟨p, ⟨hh, v1, e1, c1⟩, hp⟩ := c
  exact ⟨p, hp, hh, p.2, v1, (I.pin p hp).1, e1, c1⟩
end
section
variable {P : Program} {w : World} {K : PySem.W.Frag} {tg : Expr}
end
section
variable {X : Cx} {tg : Expr}
end
section
variable {X : Cx} {tg : Expr}
end
section
variable {X : Cx}
end
structure Cqh (X : Cx) (k : Nat) : Prop where
  hot : L2H.HotC X
  rm : L2H.RoomH k X.A
  nd : X.N.Nodup
theorem Cqh.units {X : Cx} {k : Nat} (q : Cqh X k) : X.A.units + 64 < cLine := by
  have := q.rm.un
  omega
section
variable {X : Cx} {W : WX} {tg a b e : Expr} {ma : M D} {ms : M (List D)} {pos p : Pos}
end
section
variable {P : Program} {w : World} {K : PySem.W.Frag} {mg : Str → Option Value} {base : Heap} {k : Nat} {f : Addr} {x : Str} {params : Arguments} {body : List Stmt} {scope : Scope} {N ps : List Str} {mb : M Fl} {fd : FuncData}
end
section
variable {X : Cx} {k j : Nat} {x : Str} {ps : List Str} {mf : MF} {a : Expr} {es : List Expr} {ms : M (List D)} {p pos : Pos} {n : Nat}
end
end Dm
end
section
namespace Dm
open PySem L2
def wpA :=
  And.intro @zpQ_2 <|
  And.intro @y_gSetO <|
  And.intro @y_nz <|
  And.intro @y_ok <|
  And.intro @y_exc <|
  And.intro @y_bind <|
  And.intro @y_bd <|
  And.intro @y_only <|
  And.intro @y_fin <|
  And.intro @y_C <|
  And.intro @y_var <|
  And.intro @y_of <|
  And.intro @y_un <|
  And.intro @y_bin <|
  And.intro @y_chain <|
  And.intro @y_nil <|
  And.intro @y_cons <|
  And.intro @y_tup <|
  And.intro @y_test <|
  And.intro @y_notV <|
  And.intro @y_andV <|
  And.intro @y_orV <|
  And.intro @y_and <|
  And.intro @y_or <|
  And.intro @y_not <|
  And.intro @y_if <|
  And.intro @y_call <|
  And.intro @y_cb <|
  And.intro @y_noP <|
  And.intro @y_part <|
  And.intro @y_val <|
  And.intro @y_mat <|
  And.intro @y_lst <|
  And.intro @y_nx <|
  And.intro @y_seq <|
  And.intro @y_drop <|
  And.intro @y_ret <|
  And.intro @y_asg <|
  And.intro @y_own <|
  And.intro @y_gN <|
  And.intro @y_gNl <|
  And.intro @y_gCn <|
  And.intro @y_gTp <|
  And.intro @y_asgG <|
  And.intro @y_iter <|
  And.intro @y_rg1 <|
  And.intro @y_for <|
  And.intro @y_comp <|
  And.intro @y_yes <|
  And.intro @y_sl <|
  And.intro @y_listOf <|
  And.intro @y_lrg1 <|
  And.intro @y_appO <|
  And.intro @y_lenO <|
  And.intro @y_ixO <|
  And.intro @y_setO <|
  And.intro @y_extO <|
  And.intro @y_frz <|
  And.intro @y_pn <|
  And.intro @y_pv <|
  And.intro @y_po <|
  And.intro @y_par <|
  And.intro @y_fld <|
  And.intro @y_raise <|
  And.intro @y_enum <|
  And.intro @y_fnM <|
  And.intro @y_cat <|
  And.intro @l2Q_ll <|
  And.intro @y_try <|
  And.intro @y_unset <|
  And.intro @atV_0 <|
  And.intro @atV_S <|
  And.intro @atO_0 <|
  And.intro @atO_S <|
  And.intro @opQ_some <|
  And.intro @blQ_bl <|
  And.intro @inQ_int <|
  And.intro @Cd_t <|
  And.intro @Cd_f <|
  And.intro @nxQ_nx <|
  And.intro @nxQ_rt <|
  And.intro @nxQ_bk <|
  And.intro @nxQ_ct <|
  And.intro @itQ_tup <|
  And.intro @itQ_lst <|
  And.intro @itQ_ro <|
  And.intro @onQ_1 <|
  And.intro @i1Q_1 <|
  And.intro @i2Q_2 <|
  And.intro @lsQ_l <|
  And.intro @dcQ_some <|
  And.intro @enQ_t <|
  And.intro @enQ_l <|
  And.intro @tpQ_t <|
  And.intro @fnQ_rt <|
  And.intro @fnQ_nx <|
  And.intro @y_fldT <|
  And.intro @y_subR <|
  And.intro @insQ_some <|
  And.intro @hdQ_some <|
  And.intro @hnQ_ref <| @nonQ_non
def wpB :=
  And.intro @setAll_nil <|
  And.intro @setAll_cons <|
  And.intro @view_lst' <|
  And.intro @view_tup' <|
  And.intro @view_ro' <|
  And.intro @add_int <|
  And.intro @sub_int <|
  And.intro @lt_int <|
  And.intro @le_int <|
  And.intro @gt_int <|
  And.intro @ge_int <|
  And.intro @eq_int <|
  And.intro @ne_int <|
  And.intro @eq_str <|
  And.intro @ne_str <|
  And.intro @neg_int <|
  And.intro @int_int <|
  And.intro @int_bl <|
  And.intro @len_lst <|
  And.intro @len_tup <|
  And.intro @Dm.ix_lst <|
  And.intro @Dm.ix_tup <|
  And.intro @tup_lst <|
  And.intro @tup_tup <|
  And.intro @max_int <|
  And.intro @min_int <|
  And.intro @true_and <|
  And.intro @and_true <|
  And.intro @decide_true <|
  And.intro @decide_false <| @eq_self.{1}
end Dm
end
section
namespace Dm
open PySem PySem.Spec PyProof.Rows L2
variable {gp : Prop}
section
variable {M : Model} {A : Around} {E : Value → Shared → Prop} {s : Shared} {Z : Obj → Prop} {base : Heap} {env : Env} {outer : List Env} {L C e : Addr}
end
section
variable {X : Cx} {W : WX} {pins : List (Addr × Obj)} {σ : L2.St} {H3 : Hp} {s3 : Shared} {scope : Scope} {cl : List (Str × Addr)} {fp : List Addr} {use : Option (Value → Sem Unit)} {Qf : Value → Shared → Prop} {acc : Value}
end
section
variable {X : Cx} {W : WX} {tg : Expr}
end
section
variable {K : PySem.W.Frag} {mg : Str → Option Value} {c c0 c1 : C} {H H0 H1 : Hp} {p : Addr} {sd : Sd} {s : L2.St} {h : Hd}
theorem ExtL.drop (a : ExtL p c H c1 H1) : Ext c H { c1 with n := c.n } H1 := ⟨a.r, rfl, a.z, a.old, a.dom⟩
end
section
variable {X : Cx} {W : WX} {k : Nat}
end
section
variable {A B : Type} {Q : List D → Sd → Hd → Prop} {E : Ex} {s : Sd} {h : Hd}
end
end Dm
end
section
namespace Dm
open PySem PySem.Spec PyProof.Rows L2
variable {gp : Prop}
section
variable {P : Program} {w : World} {A : Around} {E : Value → Shared → Prop} {s : Shared}
end
section
variable {X : Cx} {W : WX} {k : Nat} {ta : TA} {e : Expr} {p pos : Pos}
end
section
variable {X : Cx} {W : WX} {k : Nat} {e : Expr} {ms : M (List D)} {p pos p2 pos2 : Pos}
end
end Dm
end
section
namespace Dm
open PySem PySem.Spec PyProof.Rows L2
section
variable {prog : Program} {w : World} {A : Around} {E : Value → Shared → Prop} {s : Shared} {z TI TO i1 i2 i3 : Addr} {fp1 fp2 fp3 : List Addr} {n1 n2 n3 i : Nat} {P1 P2 P3 : Nat → Value → Prop} {St1 St2 St3 : Nat → Heap → Prop} {a1 a2 a3 f0 : Value} {b : Bool}
end
section
variable {X : Cx} {W : WX} {e : Expr} {te : TE} {x : Str} {p sp_ pos tpos : Pos}
end
section
variable {X : Cx} {W : WX} {a : Expr} {m : M D} {x : Str} {p sp_ pos tpos : Pos}
end
end Dm
end
section
namespace Dm
open PySem L2 PySem.Spec PyProof.Rows
section
variable {prog : Program} {w : World} {A : Around} {R : Result → Shared → Prop} {s : Shared} {kx vx t0 i0 t1 i1 : Expr} {ifs0 ifs1 : List Expr} {scope : Scope} {pos : Pos} {it acc : Value} {D : Addr} {env : Env}
end
section
variable {X : Cx}
end
section
variable {K : PySem.W.Frag} {mg : Str → Option Value}
end
section
variable {X : Cx} {W : WX} {k : Nat} {gp : Prop}
end
section
variable {E : Ex} {s : Sd} {h : Hd} {ms ms1 : M (List D)} {Q : D → Sd → Hd → Prop} {vs vs1 : List Nat} {g g1 : D → M Unit} {t t1 : M Bool} {mk mv : M D}
end
end Dm
end
section
namespace Dm
open PySem L2 PySem.Spec PyProof.Rows
section
variable {X : Cx} {W : WX} {k : Nat} {ta : TA} {e : Expr} {p pos : Pos}
end
section
variable {X : Cx} {W : WX} {k : Nat} {e : Expr} {ms : M (List D)} {p pos p2 pos2 : Pos}
end
def strsIn : List Value → Option (List Str)
  | [] => some []
  | .str i _ :: r => (strsIn r).map fun l => i :: l
  | _ :: _ => none
def tupSB (K : PySem.W.Frag) (x : Str) (ns : List Str) : Bool := match K.lookup (He.ga K x) with
  | some ⟨.type T, none, .seq its _, _⟩ => decide (T = "tuple") && (decide (strsIn its.toList = some ns) && decide (its.size ≤ 1000))
  | _ => false
theorem strsIn_vals : ∀ {us : List Value} {ns : List Str}, strsIn us = some ns → Vals (ns.map V.str) us
  | [], ns, e => by cases e; exact .nil
  | u :: us, ns, e => by
    cases u with
    | str i t =>
      unfold strsIn at e
      cases e1 : strsIn us with
      | none => rw [e1] at e; cases e
      | some l =>
        rw [e1] at e
        cases e
        exact .cons ⟨t, rfl⟩ (strsIn_vals e1)
    | _ => cases e
def GloU (K : PySem.W.Frag) (mg : Str → Option Value) (x : Str) (ns : List Str) : Prop := ∃ a, mg x = some (.ref a) ∧ KTup K a (ns.map V.str) ∧ ∀ o, K.lookup a = some o → o.dict = none
theorem gloU_mk {K : PySem.W.Frag} {mg : Str → Option Value} {x : Str} {ns : List Str} (hx : mg x = some (.ref (He.ga K x))) (h : tupSB K x ns = true) : GloU K mg x ns := by
  unfold tupSB at h
  split at h
  · rename_i T its n sl e
    simp only [Bool.and_eq_true, decide_eq_true_eq] at h
    obtain ⟨h1, h2, h3⟩ := h
    subst h1
    refine ⟨_, hx, ⟨_, its, n, e, rfl, rfl, Nat.le_trans h3 (by decide), strsIn_vals h2⟩, fun o eo => ?_⟩
    rw [e] at eo
    cases eo
    rfl
  · cases h
theorem relL_strs {K : PySem.W.Frag} {c : C} {H : Hp} : ∀ ns : List Str, RelL K c H (ns.map D.str) (ns.map V.str)
  | [] => rfl
  | n :: ns => ⟨_, _, rfl, rfl, relL_strs ns⟩
theorem e_gloU {X : Cx} {W : WX} {pos : Pos} {x : Str} {ns : List Str} (hm : GloU X.K X.mg x ns) (hg : Gl X x := by rfl) (hd : (x == ("__debug__" : Str)) = false := by decide) : PE X (.Name x pos) (lE X.K X.mg W (mC (.tup (ns.map .str)))) := by
  obtain ⟨a, hm, h1, h2⟩ := hm
  exact pe_imp (pe_glob (v := .ref a) hg hm rfl hd) (lift_c fun c H => ⟨a, ns.map V.str, rfl, .inr ⟨h1, h2⟩, relL_strs ns⟩)
def onS (Q : Str → Prop) (_ : Tg Q Q) : D → Prop
  | .str x => Q x
  | _ => False
@[simp] theorem onS_str {Q : Str → Prop} {x : Str} : onS Q () (.str x) = Q x := Eq.trans rfl rfl
structure SaysN (fa : List He.Fa) (fn : List He.DefD) (tf : List He.Defn) (ex : PySem.W.Frag → Bool) (ts : List (Str × List Str)) (w : World) (h : Heap) (K : PySem.W.Frag) : Prop where
  m : SaysM fa fn tf ex h K
  t : (ts.map fun t => He.dicW K (He.ga K t.1)) = ts.map fun t => some (He.keysIn w.params t.2)
theorem SaysN.at {fa : List He.Fa} {fn : List He.DefD} {tf : List He.Defn} {ex : PySem.W.Frag → Bool} {ts : List (Str × List Str)} {w : World} {h : Heap} {K : PySem.W.Frag} (c : SaysN fa fn tf ex ts w h K) (i : Nat) {p : Str × List Str} (e : ts[i]? = some p := by rfl) : He.dicW K (He.ga K p.1) = some (He.keysIn w.params p.2) := by
  have e2 : (ts.map fun t => He.dicW K (He.ga K t.1))[i]? = (ts.map fun t => some (He.keysIn w.params t.2))[i]? := by rw [c.t]
  rw [List.getElem?_map, List.getElem?_map, e] at e2
  exact Option.some.inj e2
end Dm
end
section
namespace Dm
open PySem L2 PySem.Spec PyProof.Rows
end Dm
end
section
namespace Dm
open PySem PySem.Spec PyProof.Rows L2
section
variable {gp : Prop} {X : Cx} {W : WX} {k j n : Nat} {x : Str} {ps ks : List Str} {is : List Nat} {mf : MF} {a : Expr} {ma : M D} {ms : M (List D)} {p pos kpos : Pos} {kws : List Keyword} {nm : Option Str}
end
end Dm
end
section
namespace Dm
open PySem PySem.W PySem.Calls PyProof.Rows HandSHeadRun
end Dm
end
section
namespace Dm
open PySem PySem.Spec PyProof.Rows L2 LamX
variable {gp : Prop}
section
variable {X : Cx} {W : WX} {k j n : Nat} {x : Str} {ps : List Str} {mf : MF} {L : LamD}
end
section
variable {X : Cx} {k j n jy : Nat} {g y : Str} {ps : List Str} {mp : M (List D)} {pins0 : List (Addr × Obj)} {σ0 : L2.St} {s3 : Shared} {H3 : Hp} {scope : Scope} {ce : Env} {fp : List Addr} {es : List Expr} {p p1 pos : Pos}
end
end Dm
namespace Dm
open PySem PySem.Spec PyProof.Rows L2 LamX
variable {gp : Prop}
structure LamF (X : Cx) (H0 : Hp) (c : C) (H : Hp) (L : LamD) (t : Addr × Addr × Obj) : Prop where
  new : H0 t.1 = none
  out : c.out t.1
  at_ : H t.1 = some (.frz t.2.2 (LamO t.1 L.q L.params L.body L.scope (cloFrom X.env.cells L.scope.names []) t.2.1))
  ok : c.out t.2.1
  ek : H t.2.1 = some (CodeO t.2.1 L.q)
theorem LamF.car {X : Cx} {H0 H H' : Hp} {c c' : C} {L : LamD} {t : Addr × Addr × Obj} (x : Car c H c' H') (l : LamF X H0 c H L t) : LamF X H0 c' H' L t :=
  ⟨l.new, (x.out _ _ l.out l.at_).1, (x.out _ _ l.out l.at_).2, (x.out _ _ l.ok l.ek).1, (x.out _ _ l.ok l.ek).2⟩
theorem LamF.hand {X : Cx} {H0 H : Hp} {c : C} {L M : LamD} {t u : Addr × Addr × Obj} (l : LamF X H0 c H L t) (m : LamF X H0 c H M u) (ne : t.1 ≠ u.1) : LamF X H0 (c.hand u.1) H L t := by
  refine ⟨l.new, ⟨fun q => (List.mem_append.mp q).elim l.out.1 fun q => ne (List.mem_singleton.mp q), l.out.2.1, l.out.2.2⟩, l.at_, ⟨fun q => (List.mem_append.mp q).elim l.ok.1 fun q => ?_, l.ok.2.1, l.ok.2.2⟩, l.ek⟩
  have e := l.ek
  rw [List.mem_singleton.mp q, m.at_] at e
  exact codeO_frz (Option.some.inj e).symm
section
variable {K : PySem.W.Frag} {c c0 c1 : C} {H H0 H1 : Hp} {sd : Sd} {s : L2.St} {p : Addr} {o : HO}
theorem ExtL.lock (x : Ext c0 H0 c H) (hp : H p = none) : ExtL p c0 H0 (c.lock p) (upd H p o) := ⟨x.r, by show p :: c.n = _; rw [x.n], x.z, fun a u h1 h2 e => grow_new hp a u (x.old a u h1 h2 e), fun a u e => by
  obtain ⟨u', e'⟩ := x.dom a u e
  exact ⟨u', grow_new hp a u' e'⟩⟩
theorem ExtL.hand {f : Addr} (x : ExtL p c0 H0 c1 H1) (n : H0 f = none) : ExtL p c0 H0 (c1.hand f) H1 := by
  obtain ⟨l, e1, e2⟩ := x.r
  refine ⟨⟨l ++ [f], ?_, fun a ha => ?_⟩, x.n, x.z, x.old, x.dom⟩
  · show c1.r ++ [f] = _
    rw [e1, List.append_assoc]
  · rcases List.mem_append.mp ha with q | q
    · exact e2 a q
    · rw [List.mem_singleton.mp q]; exact n
end
section
variable {X : Cx} {W : WX} {k j n jy i : Nat} {g y xn : Str} {ps : List Str} {mp : M (List D)} {es : List Expr} {p p1 px py pos cpos npos lpos : Pos}
end
end Dm
namespace Dm
open PySem PySem.Spec PyProof.Rows L2 LamX
variable {gp : Prop}
section
variable {X : Cx} {W : WX} {i ti n k2 : Nat} {xn y : Str} {L : LamD} {Ls : List LamD} {ms mT : M Fl} {T : Stmt} {rest : List Stmt} {p pos lpos pos2 apos cpos : Pos}
variable {a b : Expr} {ma mb : M D} {ta : M Bool} {ma1 ms1 : M Fl} {sa sb : List Stmt}
end
end Dm
namespace Dm
open PySem L2
section
variable {E : Ex} {s : Sd} {h : Hd} {i ti jy : Nat} {y : Str} {vs is : List Nat} {e : M D} {t : M Bool} {ts : List (M Bool)} {acc : List D} {QL : List D → Sd → Hd → Prop} {Q : D → Sd → Hd → Prop} {QF : Fl → Sd → Hd → Prop} {L : LamD} {mf : MF} {mp : M (List D)}
end
end Dm
end
section
namespace Dm
open PySem PySem.Spec PyProof.Rows L2
section
variable {X : Cx} {i : Nat} {a : Addr} {oe : Obj} {cls : Value} {d : Option Addr} {pn : List (Addr × Obj)} {x n f : Str} {B Bn : String} {fs : List (Str × D)} {e1 e2 : Expr} {m m2 : M D} {C : Addr} {p p2 p3 pos pos2 : Pos} {P : Program} {w : World} {base : Heap}
end
end Dm
end
section
namespace L2N
open PySem PySem.Spec PyProof.Rows L2
inductive AsOk (X : Cx) : List ExceptHandler → List (Value × Nat × (Addr → Value → Option Addr → TS)) → Prop
  | nil : AsOk X [] []
  | cons {x n : Str} {i : Nat} {c : Value} {ts : Addr → Value → Option Addr → TS} {st : Stmt} {sts : List Stmt} {p q : Pos} {hds : List ExceptHandler} {l : List (Value × Nat × (Addr → Value → Option Addr → TS))}
      (nm : Names X x c) (at_ : X.N[i]? = some n) (lo : X.env.kindOf n = some .local)
      (su : ∀ (a : Addr) (oe : Obj) (cls : Value) (d : Option Addr) (pn : List (Addr × Obj)), Zn cls d oe → (∃ vs, oe.data = .fields vs) → PSs (X.suite a ((a, oe) :: pn)) (st :: sts) (ts a cls d))
      (r : AsOk X hds l) : AsOk X (.ExceptHandler (some (.Name x p)) (some n) (st :: sts) q :: hds) ((c, i, ts) :: l)
structure Down (X : Cx) (pins : List (Addr × Obj)) (σ : St) (H : Hp) (a : Addr) (cls : Value) (d : Option Addr) (B : Heap) (s₁ t : Shared) : Prop where
  inv : Inv X pins σ H s₁
  old : ∀ b o, s₁.heap.get? b = some o → b ∉ frs X.stack → B.get? b = some o
  up : s₁.heap.UpToSlots t.heap
  fly : HandSPX.FlyingZ B (X.env :: X.outer) a (Zn cls d) t.heap
  na : H a = none
  os : t.os = s₁.os
  ag : AllBare t.gens
section
variable {X : Cx} {pins : List (Addr × Obj)} {σ : St} {H : Hp} {a : Addr} {cls : Value} {d : Option Addr} {B : Heap} {s₁ t : Shared} {Wout : WX} {D : Ends}
theorem Down.on (w : Down X pins σ H a cls d B s₁ t) : Inv X pins σ H t := w.inv.landed w.old w.fly.1 w.up w.os w.ag
theorem Down.apart (hf : X.env.frame = some X.env.locals) (w : Down X pins σ H a cls d B s₁ t) : ∃ oe vs, t.heap.get? a = some oe ∧ Zn cls d oe ∧ oe.data = .fields vs ∧ a ≠ X.env.locals ∧ a ∉ X.fs := by
  obtain ⟨oe, vs, e1, e2, e3⟩ := w.fly.there
  have no : a ∉ frs (X.env :: X.outer) := fun hm => by
    obtain ⟨_, o2, g1, g2⟩ := w.fly.2.2.1.mem hm
    have := g1.symm.trans e1
    cases this
    exact g2 _ e3
  refine ⟨oe, vs, e1, e2, e3, fun z => no ?_, fun hm => no ?_⟩
  · exact List.mem_filterMap.mpr ⟨_, List.mem_cons_self, hf.trans (congrArg some z.symm)⟩
  · obtain ⟨en, m1, m2⟩ := List.mem_filterMap.mp hm
    exact List.mem_filterMap.mpr ⟨en, List.mem_cons_of_mem _ m1, m2⟩
theorem Down.leaves (hs : X.stack = X.env :: X.outer) (hf : X.env.frame = some X.env.locals) (tk : Takes X Wout) (w : Down X pins σ H a cls d B s₁ t) (q : Wout cls d σ H) :
    wpAny (model X.prog X.w) X.A (handleBy (.ref a) X.env []) (SP X pins D) X.xe t := by
  obtain ⟨_, _, _, oe, vs, T, oT, ts, g1, g2, g3, g4, g5⟩ := id w.fly
  have out : wpAny (model X.prog X.w) X.A (setFlight (.ref a) X.env.frame) (fun _ s4 => wpAny (model X.prog X.w) X.A (throw (.ref a) : Sem Flow) (SP X pins D) X.xe s4) X.xe t := by
    rw [hf]
    exact HandSPX.setFlight_upZ w.fly fun h4 held up4 => wpAny_throw (tk _ _ ⟨a, B, s₁, pins, σ, H, cls, d, rfl, w.inv, w.old, w.up.trans up4, by rw [hs]; exact .inr (.inr held), w.na, w.os, w.ag, q⟩)
  refine wpAny_handleBy_nil ?_
  unfold PySem.passOn
  refine wpAny_bind (wpAny_field g1 g3 g4 ?_)
  rw [if_neg (show ¬ ((Value.ref T == Value.none) = true) by simp)]
  first
    | exact wpAny_bind (wpAny_pure (wpAny_bind out))
    | exact wpAny_bind out
end
end L2N
namespace Dm
open PySem PySem.Spec PyProof.Rows L2
variable {gp : Prop}
theorem Away.sub {K : PySem.W.Frag} {mg : Str → Option Value} {x : Str} {xs ys : List Str} (a : Away K mg x xs) (h : (ys.all fun y => xs.contains y) = true) : Away K mg x ys := ⟨a.self, fun y hy => a.other y (by
  have := List.all_eq_true.mp h y hy
  simpa using this)⟩
inductive AsM (X : Cx) (xs : List Str) : List ExceptHandler → List (Str × Nat × (List (Str × D) → M Fl)) → Prop
  | nil : AsM X xs [] []
  | cons {x n : Str} {i : Nat} {C : Addr} {su : List (Str × D) → M Fl} {st : Stmt} {sts : List Stmt} {p q : Pos} {hds : List ExceptHandler} {l : List (Str × Nat × (List (Str × D) → M Fl))}
      (hC : X.mg x = some (.ref C)) (ap : Away X.K X.mg x (l.map (·.1) ++ xs)) (hg : Gl X x) (hdb : (x == ("__debug__" : Str)) = false) (hi : X.N[i]? = some n) (hln : X.env.kindOf n = some .local)
      (hsu : ∀ (a : Addr) (oe : Obj) (cls : Value) (d : Option Addr) (pn : List (Addr × Obj)), L2N.Zn cls d oe → (∃ vs, oe.data = .fields vs) → PSs (X.suite a ((a, oe) :: pn)) (st :: sts) (lXS X.K X.mg i a cls d x su))
      (r : AsM X xs hds l) : AsM X xs (.ExceptHandler (some (.Name x p)) (some n) (st :: sts) q :: hds) ((x, i, su) :: l)
section
variable {QF : Fl → Sd → Hd → Prop} {E : Ex} {m : M Fl} {s : Sd} {h : Hd} {xs : List Str} {y x : Str} {i : Nat} {fs : List (Str × D)} {su : List (Str × D) → M Fl} {l : List (Str × Nat × (List (Str × D) → M Fl))}
end
end Dm
end
section
namespace Dm
open PySem PySem.W PySem.Calls PyProof.Rows HandSHeadRun
section
variable {P0 : Program} {w : World} {m0 : Nat} {ann : Option Value} {N M : Nat} {s s' : SharedT} {r : Shared} {l rest : List Stmt} {ev : Env} {c : Code} {p p' q : Pos}
end
end Dm
end
section
namespace Dm
open PySem PySem.Spec PyProof.Rows L2
variable {gp : Prop}
section
variable {X : Cx} {e : Expr} {es : List Expr} {ta : TA} {p pos : Pos} {B : String} {CX : CXT} {x : Str} {C fI : Addr} {k : Nat} {fd : FuncData} {ps : List Str} {sp : Sp}
end
theorem RelF.app {K : PySem.W.Frag} {c : C} {H : Hp} : ∀ {fs gs : List (Str × D)} {vs us : List (Str × V)}, RelF K c H fs vs → RelF K c H gs us → RelF K c H (fs ++ gs) (vs ++ us)
  | [], gs, vs, us, h, g => by
    have e : vs = [] := h
    subst e
    exact g
  | d :: fs, gs, vs, us, h, g => by
    obtain ⟨v, r, e, h1, h2, h3⟩ := (show ∃ v r, vs = v :: r ∧ d.1 = v.1 ∧ Rel K c H d.2 v.2 ∧ RelF K c H fs r from h)
    subst e
    exact ⟨v, r ++ us, rfl, h1, h2, h3.app g⟩
theorem RelF.grow {K : PySem.W.Frag} {c : C} {H H' : Hp} (g : Grow H H') : ∀ {fs : List (Str × D)} {vs : List (Str × V)}, RelF K c H fs vs → RelF K c H' fs vs
  | [], vs, h => h
  | d :: fs, vs, h => by
    obtain ⟨v, r, e, h1, h2, h3⟩ := (show ∃ v r, vs = v :: r ∧ d.1 = v.1 ∧ Rel K c H d.2 v.2 ∧ RelF K c H fs r from h)
    exact ⟨v, r, e, h1, h2.car (Car.grow g), h3.grow g⟩
section
variable {X : Cx} {W : WX} {k : Nat} {x : Str} {fs : List Str} {C : Addr} {B : String} {a : Expr} {as : List Expr} {ma : M (List D)} {p pos pos' : Pos}
end
section
variable {X : Cx} {i : Nat} {a : Addr} {oe : Obj} {cls : Value} {d : Option Addr} {pn : List (Addr × Obj)} {x n f : Str} {fs : List (Str × D)} {ns : List Str} {C : Addr} {pos p : Pos} {P : Program} {w : World} {base : Heap} {B : String}
end
end Dm
end
section
namespace Dm
open PySem PySem.Spec PyProof.Rows L2
variable {gp : Prop}
def strsOf : List D → Option (List Str)
  | [] => some []
  | .str x :: r => (strsOf r).map (x :: ·)
  | _ => none
theorem strsOf_map : ∀ xs : List Str, strsOf (xs.map .str) = some xs
  | [] => rfl
  | x :: xs => by
    show (strsOf (xs.map .str)).map (x :: ·) = _
    rw [strsOf_map xs]
    rfl
theorem strsOf_eq : ∀ {ds : List D} {xs : List Str}, strsOf ds = some xs → ds = xs.map .str
  | [], xs, e => by cases e; rfl
  | d :: ds, xs, e => by
    cases d with
    | str x =>
      have e2 : (strsOf ds).map (x :: ·) = some xs := e
      cases e3 : strsOf ds with
      | none => rw [e3] at e2; cases e2
      | some ys =>
        rw [e3] at e2
        cases e2
        rw [strsOf_eq e3]
        rfl
    | _ => cases e
theorem relL_txts {K : PySem.W.Frag} {c : C} {H : Hp} : ∀ {xs : List Str} {vs : List V}, RelL K c H (xs.map .str) vs → vs = xs.map V.str
  | [], vs, h => h
  | x :: xs, vs, h => by
    obtain ⟨v, r, e, h1, h2⟩ := (show ∃ v r, vs = v :: r ∧ Rel K c H (.str x) v ∧ RelL K c H (xs.map .str) r from h)
    subst e
    rw [relL_txts h2]
    exact congrArg (· :: _) h1
theorem strs_relL {K : PySem.W.Frag} {c : C} {H : Hp} : ∀ xs : List Str, RelL K c H (xs.map .str) (xs.map V.str)
  | [] => rfl
  | x :: xs => ⟨_, _, rfl, rfl, strs_relL xs⟩
def onT {A : Type} (f : Str → Sd → Hd → Res A) : D → Sd → Hd → Res A
  | .str x, s, h => f x s h
  | _, _, _ => .bad
def mSplit (a b : M D) : M (List D) := fun s h => (a s h).bind (onT fun x s h => (b s h).bind (onT fun y s h => if 0 < y.length ∧ x.length ≤ 100000 then .ok ((Txt.split x y).map .str) s h else .bad))
def joinD (x : Str) (h : Hd) (y : D) : Option D := (lotOf h y).bind fun ds => (strsOf ds).bind fun ys => if (ys.map (·.length)).sum + ys.length * x.length ≤ 100000 then some (.str (Txt.join x ys)) else none
def mJoin (a b : M D) : M D := fun s h => (a s h).bind (onT fun x s h => (b s h).bind fun y s h => mOf (joinD x h y) s h)
section
variable {X : Cx} {W : WX} {o e : Expr} {ma mb : M D} {apos pos : Pos}
theorem f_split (ho : PE X o (lE X.K X.mg W ma)) (he : PE X e (lE X.K X.mg W mb)) (hs : starEach [e] X.env = [(false, eval e X.env)] := by rfl) (hbase : attributeBase o "split" X.env (eval o X.env) = eval o X.env := by rfl) (hline : (apos.endLine == pos.line) = true := by rfl) :
    PE X (.Call (.Attribute o "split" apos) [e] [] pos) (lF X.K X.mg W (mSplit ma mb)) :=
  pe_imp (pe_split ho he hs hbase hline) fun s H Q ⟨c, sd, h, rs, rh, q⟩ => ⟨c, sd, h, rs, rh, (OutF.bind (R := Rel X.K) q).imp fun x H1 ⟨c1, d1, sd1, h1, rs1, rh1, r1, _, q1⟩ => by
    cases d1 with
    | str t =>
      have ex : x = .str t := r1
      subst ex
      refine ⟨⟨_, rfl⟩, c1, sd1, h1, rs1, rh1, (OutF.bind (R := Rel X.K) q1).imp fun y H2 ⟨c2, d2, sd2, h2, rs2, rh2, r2, x2, q2⟩ => ?_⟩
      cases d2 with
      | str u =>
        have ey : y = .str u := r2
        subst ey
        have q3 : OutF X.K X.mg c2 H2 s Q W (if 0 < u.length ∧ t.length ≤ 100000 then .ok ((Txt.split t u).map .str) sd2 h2 else .bad) := q2
        by_cases hl : 0 < u.length ∧ t.length ≤ 100000
        · rw [if_pos hl] at q3
          refine ⟨t, u, rfl, rfl, by simpa using Nat.pos_iff_ne_zero.mp hl.1, ?_, fun p hp => q3 p _ c2 H2 (Ext.refl _ _) rs2 rh2 (strs_relL _) hp⟩
          have := sizeLine_eq
          omega
        · rw [if_neg hl] at q3
          exact q3.elim
      | _ => exact q2.elim
    | _ => exact q1.elim⟩
theorem e_join (ho : PE X o (lE X.K X.mg W ma)) (he : PE X e (lE X.K X.mg W mb)) (hs : starEach [e] X.env = [(false, eval e X.env)] := by rfl) (hbase : attributeBase o "join" X.env (eval o X.env) = eval o X.env := by rfl) (hline : (apos.endLine == pos.line) = true := by rfl) :
    PE X (.Call (.Attribute o "join" apos) [e] [] pos) (lE X.K X.mg W (mJoin ma mb)) :=
  pe_imp (pe_join ho he hs hbase hline) fun s H Q ⟨c, sd, h, rs, rh, q⟩ => ⟨c, sd, h, rs, rh, (Out.bind (R := Rel X.K) q).imp fun x H1 ⟨c1, d1, sd1, h1, rs1, rh1, r1, _, q1⟩ => by
    cases d1 with
    | str t =>
      have ex : x = .str t := r1
      subst ex
      refine ⟨⟨_, rfl⟩, c1, sd1, h1, rs1, rh1, (Out.bind (R := Rel X.K) q1).imp fun y H2 ⟨c2, d2, sd2, h2, rs2, rh2, r2, x2, q2⟩ => ?_⟩
      unfold joinD at q2
      cases e1 : lotOf h2 d2 with
      | none => rw [e1] at q2; exact q2.elim
      | some ds =>
        rw [e1, Option.bind_some] at q2
        cases e2 : strsOf ds with
        | none => rw [e2] at q2; exact q2.elim
        | some ys =>
          rw [e2, Option.bind_some] at q2
          obtain ⟨p, vs, ey, hp, rl⟩ := lot_rel rh2 r2 e1
          rw [strsOf_eq e2] at rl
          rw [relL_txts rl] at hp
          by_cases hl : (ys.map (·.length)).sum + ys.length * t.length ≤ 100000
          · rw [if_pos hl] at q2
            exact ⟨t, p, ys, rfl, by rw [ey], hp, by omega, q2 _ c2 H2 (Ext.refl _ _) rs2 rh2 rfl⟩
          · rw [if_neg hl] at q2
            exact q2.elim
    | _ => exact q1.elim⟩
end
def strD (_ : Hd) : List D → Option D
  | [.int i] => if i.natAbs.log2 < 1920 then some (.str (toString i)) else none
  | _ => none
theorem c_str {X : Cx} : CallR X (.type "str") (DCl X.K strD) := clr_imp call_str_int fun x H Q ⟨c, h, as, d, rh, ra, e, q⟩ => by
  unfold strD at e
  split at e
  · split at e
    · cases e
      obtain ⟨v, rfl, r⟩ := rel1 ra
      cases r
      exact ⟨_, rfl, by assumption, q _ H (fun _ _ z => z) rfl⟩
    · cases e
  · cases e
def intT (h : Hd) : List D → Option D
  | [.str x] => if x.length ≤ 640 then (intText? x).map .int else none
  | xs => intD h xs
theorem c_intT {X : Cx} : CallR X (.type "int") (DCl X.K intT) := fun pins s σ H xs us Q I rs ⟨c, h, as, d, rh, ra, e, q⟩ => by
  unfold intT at e
  split at e
  · rename_i x
    split at e
    · obtain ⟨v, rfl, r⟩ := rel1 ra
      cases r
      cases e2 : intText? x with
      | none => rw [e2] at e; cases e
      | some n =>
        rw [e2] at e
        cases e
        exact call_int_str pins s σ H _ us Q I rs ⟨x, n, rfl, e2, by assumption, q _ H (fun _ _ z => z) rfl⟩
    · cases e
  · exact c_int pins s σ H xs us Q I rs ⟨c, h, as, d, rh, ra, e, q⟩
def ixT (h : Hd) (a b : D) : Option D := match a, b with
  | .str x, .int i => if x.length ≤ 100000 then (atI x.cps.toList i).map fun k => .str ⟨#[k]⟩ else none
  | a, b => ixD h a b
theorem o_ixT {X : Cx} : IxR X (DOp X.K ixT) := by
  have base := ixr_imp (ix_str (X := X)) (r' := fun x y H Q => ∃ c h z i d, RelH X.K c H h ∧ x = .str z ∧ y = .int i ∧ ixT h (.str z) (.int i) = some d ∧ ∀ v H', Grow H H' → Rel X.K c H' d v → Q v H') fun x y H Q ⟨c, h, z, i, d, rh, ex, ey, e, q⟩ => by
    have e2 : (if z.length ≤ 100000 then (atI z.cps.toList i).map fun k => D.str ⟨#[k]⟩ else none) = some d := e
    split at e2
    · cases e3 : atI z.cps.toList i with
      | none => rw [e3] at e2; cases e2
      | some k =>
        rw [e3] at e2
        cases e2
        exact ⟨z, i, k, ex, ey, line5 (by assumption), e3, q _ H (fun _ _ z => z) rfl⟩
    · cases e2
  refine ixr_imp (base.or o_ix) fun x y H Q ⟨c, h, a, b, d, rh, ra, rb, e, q⟩ => ?_
  by_cases hs : ∃ z i, a = .str z ∧ b = .int i
  · obtain ⟨z, i, rfl, rfl⟩ := hs
    exact .inl ⟨c, h, z, i, d, rh, ra, rb, e, q⟩
  · refine .inr ⟨c, h, a, b, d, rh, ra, rb, ?_, q⟩
    unfold ixT at e
    split at e
    · rename_i z i
      exact (hs ⟨z, i, rfl, rfl⟩).elim
    · exact e
def slT (h : Hd) (a : D) (lo hi : Option Int) : Option D := match a with
  | .str x => if x.length ≤ 100000 then some (.str (cutS x lo hi)) else none
  | a => slD h a lo hi
def mSlT (a : M D) (l u : M (Option Int)) : M D := fun s h => (a s h).bind fun x s h => (l s h).bind fun lo s h => (u s h).bind fun hi s h => mOf (slT h x lo hi) s h
def DSlT (K : PySem.W.Frag) : V → Option Int → Option Int → Hp → VK → Prop := fun x lo hi H Q => ∃ c h a d, RelH K c H h ∧ Rel K c H a x ∧ slT h a lo hi = some d ∧ ∀ v H', Grow H H' → Rel K c H' d v → Q v H'
section
variable {X : Cx} {W : WX}
theorem o_slT : SlR X (DSlT X.K) := by
  intro pins s σ H x v vl vu lo hi sl Q I rx hs pl pu ⟨c, h, a, d, rh, ra, e, q⟩
  by_cases hz : ∃ z, a = .str z
  · obtain ⟨z, rfl⟩ := hz
    have e2 : (if z.length ≤ 100000 then some (D.str (cutS z lo hi)) else none) = some d := e
    split at e2
    · cases e2
      exact sl_str pins s σ H x v vl vu lo hi sl Q I rx hs pl pu ⟨z, ra, line5 (by assumption), q _ H (fun _ _ z => z) rfl⟩
    · cases e2
  · refine o_sl pins s σ H x v vl vu lo hi sl Q I rx hs pl pu ⟨c, h, a, d, rh, ra, ?_, q⟩
    unfold slT at e
    split at e
    · exact (hz ⟨_, rfl⟩).elim
    · exact e
theorem e_slT {a : Expr} {lo hi : Option Expr} {ma : M D} {ml mh : M (Option Int)} {pos p2 : Pos} (ha : PE X a (lE X.K X.mg W ma)) (hl : PO X lo (lO X.K X.mg W ml)) (hu : PO X hi (lO X.K X.mg W mh)) : PE X (.Subscript a (.Slice lo hi none p2) pos) (lE X.K X.mg W (mSlT ma ml mh)) :=
  pe_imp (pe_slice o_slT ha hl hu) fun s H Q ⟨c, sd, h, rs, rh, q⟩ => ⟨c, sd, h, rs, rh, (Out.bind (R := Rel X.K) q).imp fun x H1 ⟨c1, d1, sd1, h1, rs1, rh1, r1, _, q1⟩ =>
    ⟨c1, sd1, h1, rs1, rh1, (Out.bind (R := eqR) q1).imp fun l H2 ⟨c2, l2, sd2, h2, rs2, rh2, r2, x2, q2⟩ => by
      cases r2
      exact ⟨c2, sd2, h2, rs2, rh2, (Out.bind (R := eqR) q2).imp fun u H3 ⟨c3, u3, sd3, h3, rs3, rh3, r3, x3, q3⟩ => by
        cases r3
        unfold mOf at q3
        cases e : slT h3 d1 l u with
        | none => rw [e] at q3; exact q3.elim
        | some d =>
          rw [e] at q3
          exact ⟨c3, h3, d1, d, rh3, (r1.car x2.car).car x3.car, e, out_pure rs3 rh3 q3⟩⟩⟩⟩
def signsD (x : Str) : List D := x.cps.toList.map fun k => .str ⟨#[k]⟩
def mIterT (a : M D) : M (List D) := fun s h => (a s h).bind (onT fun x s h => .ok (signsD x) s h)
theorem i_txt {tg e : Expr} {ma : M D} (he : PE X e (lE X.K X.mg W ma)) : PI X tg e (lI X.K X.mg W (mIterT ma)) :=
  pi_imp (pi_str he) fun s H R ⟨c, sd, h, rs, rh, q⟩ => ⟨c, sd, h, rs, rh, (Out.bind (R := Rel X.K) q).imp fun x H1 ⟨c1, d1, sd1, h1, rs1, rh1, r1, x1, q1⟩ => by
    cases d1 with
    | str z =>
      have ex : x = .str z := r1
      subst ex
      refine ⟨z, rfl, q1 _ c1 H1 (Ext.refl _ _) rs1 rh1 fun c2 H2 x2 hn => ⟨fun i d e => ?_, ?_⟩⟩
      · have e2 : (z.cps.toList[i]?).map (fun k => D.str ⟨#[k]⟩) = some d := by
          rw [← List.getElem?_map]
          exact e
        cases e3 : z.cps.toList[i]? with
        | none => rw [e3] at e2; cases e2
        | some k =>
          rw [e3] at e2
          cases e2
          have e4 : z.cps[i]? = some k := by simpa using e3
          have hi : i < z.cps.size := (Array.getElem?_eq_some_iff.mp e4).1
          refine ⟨hi, fun y H' ⟨eH, k', ek, ey⟩ => ?_⟩
          subst eH
          rw [e4] at ek
          cases ek
          exact ⟨fun _ _ z => z, ey⟩
      · show (signsD z).length ≥ z.cps.size
        simp [signsD]
    | _ => exact q1.elim⟩
end
def repS (x : Str) : Nat → Str
  | 0 => Str.empty
  | n + 1 => repS x n ++ x
def mulT (h : Hd) (a b : D) : Option D := match a, b with
  | .str x, .int n => if 2 ≤ n ∧ x.length * n.toNat ≤ 100000 ∧ 0 < x.length then some (.str (repS x n.toNat)) else none
  | a, b => mulD h a b
theorem fold_rep (x : Str) : ∀ (n : Nat) (a : Array Nat), (List.replicate n x.cps).foldl (· ++ ·) a = a ++ (repS x n).cps
  | 0, a => by simp [repS, Str.empty]
  | n + 1, a => by
    rw [List.replicate_succ', List.foldl_append, fold_rep x n a]
    show (a ++ (repS x n).cps) ++ x.cps = a ++ (repS x n ++ x).cps
    rw [Str.cps_append, Array.append_assoc]
theorem len_rep (x : Str) : ∀ n : Nat, (repS x n).length = x.length * n
  | 0 => by simp [repS, Str.empty, Str.length]
  | n + 1 => by
    show (repS x n ++ x).length = _
    have e : (repS x n ++ x).length = (repS x n).length + x.length := by
      show (repS x n ++ x).cps.size = _
      rw [Str.cps_append, Array.size_append]
      rfl
    rw [e, len_rep x n, Nat.mul_succ]
theorem o_mulT {X : Cx} : OpR X (binaryOp .Mult) (DOp X.K mulT) := fun pins s σ H v w u t Q I rv rt ⟨c, h, a, b, d, rh, ra, rb, e, hq⟩ => by
  by_cases hs : ∃ x n, a = .str x ∧ b = .int n
  · obtain ⟨x, n, rfl, rfl⟩ := hs
    have e2 : (if 2 ≤ n ∧ x.length * n.toNat ≤ 100000 ∧ 0 < x.length then some (D.str (repS x n.toNat)) else none) = some d := e
    split at e2
    · rename_i hc
      cases e2
      have ev : v = .str x := ra
      have ew : w = .int n := rb
      subst ev ew
      obtain ⟨t1, rfl⟩ := rv
      obtain ⟨t2, rfl⟩ := rt
      obtain ⟨h1, h2, h3⟩ := hc
      have hn : n.toNat ≤ 100000 := Nat.le_trans (Nat.le_mul_of_pos_left _ h3) h2
      have hx : x.length ≤ 100000 := Nat.le_trans (Nat.le_mul_of_pos_right _ (by omega)) h2
      have e1 : (n == 1 || x.length == 0) = false := by
        rw [Bool.or_eq_false_iff]
        exact ⟨by simp; omega, by simp; omega⟩
      refine P.mul_str ?_ (fun _ _ hgt => ?_) (fun _ _ => ?_) ?_
      · rw [Bool.or_eq_false_iff]
        exact ⟨decide_eq_false (by omega), decide_eq_false (by omega)⟩
      · have h5 : (2 ^ 63 - 1 : Int) / n ≥ 100000 := by
          apply Int.le_ediv_of_mul_le (by omega)
          omega
        omega
      · exact decide_eq_false (by have := sizeLine_eq; omega)
      · rw [if_neg (by omega), if_neg (by rw [e1]; decide)]
        rw [fold_rep]
        have er : (⟨#[] ++ (repS x n.toNat).cps⟩ : Str) = repS x n.toNat := by simp
        rw [er]
        refine ⟨?_, ?_⟩
        · have := sizeLine_eq
          have := len_rep x n.toNat
          omega
        · exact ⟨.str _, H, I.tok _, ⟨_, rfl⟩, hq _ H (fun _ _ z => z) rfl⟩
    · cases e2
  · refine o_mul pins s σ H v w u t Q I rv rt ⟨c, h, a, b, d, rh, ra, rb, ?_, hq⟩
    unfold mulT at e
    split at e
    · exact (hs ⟨_, _, rfl, rfl⟩).elim
    · exact e
def inT (h : Hd) (x y : D) : Option D := match x, y with
  | .str a, .str z => match a.cps.toList with
    | [k] => some (.bl (decide (k ∈ z.cps.toList)))
    | _ => none
  | x, y => inX h x y
def ninT (h : Hd) (x y : D) : Option D := match x, y with
  | .str a, .str z => match a.cps.toList with
    | [k] => some (.bl (!decide (k ∈ z.cps.toList)))
    | _ => none
  | x, y => ninX h x y
section
variable {X : Cx} {W : WX} {k : Nat}
theorem one_sign {a : Str} {k : Nat} (e : a.cps.toList = [k]) : a = ⟨#[k]⟩ := by
  obtain ⟨l⟩ := a
  have : l = #[k] := Array.toList_inj.mp e
  rw [this]
theorem o_inT (q : Cq gp X W k) : OpR X (compareOp .In) (DOp X.K inT) := fun pins s σ H v w u t Q I rv rt ⟨c, h, a, b, d, rh, ra, rb, e, hq⟩ => by
  unfold inT at e
  split at e
  · rename_i a z
    split at e
    · rename_i k hk
      cases e
      rw [one_sign hk] at ra
      exact op_in_sign pins s σ H v w u t Q I rv rt ⟨k, z, ra, rb, hq _ H (fun _ _ z => z) rfl⟩
    · cases e
  · exact o_inX q pins s σ H v w u t Q I rv rt ⟨c, h, a, b, d, rh, ra, rb, e, hq⟩
theorem o_ninT (q : Cq gp X W k) : OpR X (compareOp .NotIn) (DOp X.K ninT) := fun pins s σ H v w u t Q I rv rt ⟨c, h, a, b, d, rh, ra, rb, e, hq⟩ => by
  unfold ninT at e
  split at e
  · rename_i a z
    split at e
    · rename_i k hk
      cases e
      rw [one_sign hk] at ra
      exact op_notIn_sign pins s σ H v w u t Q I rv rt ⟨k, z, ra, rb, hq _ H (fun _ _ z => z) rfl⟩
    · cases e
  · exact o_ninX q pins s σ H v w u t Q I rv rt ⟨c, h, a, b, d, rh, ra, rb, e, hq⟩
end
section
variable {E : Ex} {s : Sd} {h : Hd} {a b : M D} {ml mh : M (Option Int)} {Q : D → Sd → Hd → Prop} {QL : List D → Sd → Hd → Prop}
theorem y_onT {A : Type} {QA : A → Sd → Hd → Prop} {f : Str → Sd → Hd → Res A} {d : D} : Wq QA E () (onT f d s h) = onS (fun x => Wq QA E () (f x s h)) () d := by cases d <;> rfl
theorem y_split : Wq QL E () (mSplit a b s h) = Wq (fun x s h => onS (fun x => Wq (fun y s h => onS (fun y => (0 < y.length ∧ x.length ≤ 100000) ∧ QL ((Txt.split x y).map .str) s h) () y) E () (b s h)) () x) E () (a s h) := sk fun x s h => by
  rw [y_onT]
  cases x with
  | str x =>
    show Wq QL E () (_) = Wq _ E () (b s h)
    exact sk fun y s h => by
      rw [y_onT]
      cases y with
      | str y => exact y_ite
      | _ => rfl
  | _ => rfl
theorem y_join : Wq Q E () (mJoin a b s h) = Wq (fun x s h => onS (fun x => Wq (fun y s h => opQ (fun d => Q d s h) () (joinD x h y)) E () (b s h)) () x) E () (a s h) := sk fun x s h => by
  rw [y_onT]
  cases x with
  | str x => exact sk fun y s h => y_of
  | _ => rfl
theorem y_slT : Wq Q E () (mSlT a ml mh s h) = Wq (fun x s h => Wq (fun lo s h => Wq (fun hi s h => opQ (fun d => Q d s h) () (slT h x lo hi)) E () (mh s h)) E () (ml s h)) E () (a s h) := sk fun _ _ _ => sk fun _ _ _ => sk fun _ _ _ => y_of
theorem y_iterT : Wq QL E () (mIterT a s h) = Wq (fun x s h => onS (fun x => QL (signsD x) s h) () x) E () (a s h) := sk fun x s h => by
  rw [y_onT]
  cases x <;> rfl
end
theorem join_lst {x : Str} {h : Hd} {ys : List Str} (hl : (ys.map (·.length)).sum + ys.length * x.length ≤ 100000) : joinD x h (.lst (ys.map .str)) = some (.str (Txt.join x ys)) := by
  show (strsOf (ys.map .str)).bind _ = _
  rw [strsOf_map, Option.bind_some, if_pos hl]
theorem slT_str {h : Hd} {x : Str} {lo hi : Option Int} (hl : x.length ≤ 100000) : slT h (.str x) lo hi = some (.str (cutS x lo hi)) := if_pos hl
theorem str_int {h : Hd} {i : Int} (hl : i.natAbs.log2 < 1920) : strD h [.int i] = some (.str (toString i)) := if_pos hl
def sixD (xs : List D) (d : D) : Option D := match d with
  | .str z => (strsOf xs).bind fun ys => if z ∈ ys then some (.int (ys.idxOf z : Nat)) else none
  | _ => none
theorem idx_txt {ys : List Str} {z : Str} (h : z ∈ ys) : ys[ys.idxOf z]? = some z ∧ ∀ (m : Nat) (z' : Str), m < ys.idxOf z → ys[m]? = some z' → z' ≠ z := by
  induction ys with
  | nil => cases h
  | cons y ys ih =>
    rw [List.idxOf_cons]
    by_cases hy : y = z
    · subst hy
      simp
    · have hb : (y == z) = false := by simpa using hy
      have hm : z ∈ ys := (List.mem_cons.mp h).resolve_left fun e => hy e.symm
      obtain ⟨i1, i2⟩ := ih hm
      rw [hb, cond_false]
      refine ⟨by rw [List.getElem?_cons_succ]; exact i1, fun m z' hlt e => ?_⟩
      cases m with
      | zero => cases e; exact hy
      | succ m => exact i2 m z' (by omega) (by simpa using e)
def mTixT (a : M D) (ms : M (List D)) : M D := fun s h => (a s h).bind fun o s h => match o with
  | .tup xs => (ms s h).bind fun ds s h => match ds with
    | [d] => mOf (sixD xs d) s h
    | _ => .bad
  | _ => .bad
def mTixL (a : M D) (ms : M (List D)) : M D := fun s h => (a s h).bind fun o s h => match o with
  | .lst xs => (ms s h).bind fun ds s h => match ds with
    | [d] => mOf (sixD xs d) s h
    | _ => .bad
  | _ => .bad
section
variable {X : Cx} {W : WX} {o e : Expr} {ma : M D} {ms : M (List D)} {apos cpos : Pos}
theorem e_tixT (ho : PE X o (lE X.K X.mg W ma)) (ha : PA X [e] (lA X.K X.mg W ms))
    (hbase : attributeBase o "index" X.env (eval o X.env) = eval o X.env := by rfl)
    (hfew : ((backTo cpos (starEach [e] X.env)).all (fun x => !x.1) && (backToKw cpos (keywordEach [] X.env)).all (fun x => x.1.isSome) && decide ([e].length + ([] : List Keyword).length + (if ([] : List Keyword).isEmpty then 0 else 1) < 30)) = true := by rfl)
    (hline : (apos.endLine == cpos.line) = true := by rfl) (hs : starEach [e] X.env = (false, eval e X.env) :: starEach [] X.env := by rfl) (hplain : (backTo cpos (starEach [] X.env)).any (·.1) = false := by rfl) :
    PE X (.Call (.Attribute o "index" apos) [e] [] cpos) (lE X.K X.mg W (mTixT ma ms)) :=
  pe_imp (pe_mG ty_tup PySem.F.plainAttrs_tuple PySem.F.slot_tuple_index PySem.F.type_tuple_index mt_tup_index ho ha hbase hfew hline hs hplain) fun s H Q ⟨c, sd, h, rs, rh, q⟩ => ⟨c, sd, h, rs, rh, (Out.bind (R := Rel X.K) q).imp fun x H1 ⟨c1, d1, sd1, h1, rs1, rh1, r1, _, q1⟩ => by
    cases d1 with
    | tup xs =>
      obtain ⟨p, vs, rfl, t, rl⟩ := r1
      refine ⟨⟨p, vs, rfl, t.imp (fun z => z.2) id⟩, c1, sd1, h1, rs1, rh1, (Out.bind (R := RelL X.K) q1).imp fun y H2 ⟨c2, d2, sd2, h2, rs2, rh2, r2, x2, q2⟩ => ?_⟩
      have t2 : TupAt X.K c2 H2 p vs := by
        rcases t with ⟨t1, t2⟩ | t
        · exact .inl (x2.car.kn t1 t2)
        · exact .inr t
      rcases d2 with _ | ⟨d, _ | ⟨d3, ds⟩⟩
      · exact q2.elim
      · obtain ⟨v, r', rfl, rv, rr⟩ := r2
        cases rr
        have q3 : Out X.K X.mg (Rel X.K) c2 H2 s Q W (mOf (sixD xs d) sd2 h2) := q2
        cases d with
        | str z =>
          unfold sixD at q3
          cases e1 : strsOf xs with
          | none => simp only [e1] at q3; exact q3.elim
          | some ys =>
            simp only [e1, Option.bind_some] at q3
            by_cases hk : z ∈ ys
            · rw [if_pos hk] at q3
              have ez : v = .str z := rv
              subst ez
              have ex := strsOf_eq e1
              subst ex
              have ev := relL_txts rl
              subst ev
              obtain ⟨i1, i2⟩ := idx_txt hk
              exact ⟨p, ys, z, ys.idxOf z, rfl, rfl, t2.sq, i1, fun m hm em => i2 m z hm em rfl, q3 _ c2 H2 (Ext.refl _ _) rs2 rh2 rfl⟩
            · rw [if_neg hk] at q3
              exact q3.elim
        | _ => exact q3.elim
      · exact q2.elim
    | _ => exact q1.elim⟩
theorem e_tixL (ho : PE X o (lE X.K X.mg W ma)) (ha : PA X [e] (lA X.K X.mg W ms))
    (hbase : attributeBase o "index" X.env (eval o X.env) = eval o X.env := by rfl)
    (hfew : ((backTo cpos (starEach [e] X.env)).all (fun x => !x.1) && (backToKw cpos (keywordEach [] X.env)).all (fun x => x.1.isSome) && decide ([e].length + ([] : List Keyword).length + (if ([] : List Keyword).isEmpty then 0 else 1) < 30)) = true := by rfl)
    (hline : (apos.endLine == cpos.line) = true := by rfl) (hs : starEach [e] X.env = (false, eval e X.env) :: starEach [] X.env := by rfl) (hplain : (backTo cpos (starEach [] X.env)).any (·.1) = false := by rfl) :
    PE X (.Call (.Attribute o "index" apos) [e] [] cpos) (lE X.K X.mg W (mTixL ma ms)) :=
  pe_imp (pe_bm PySem.F.plainAttrs_list PySem.F.slot_list_index PySem.F.type_list_index mt_index ho ha hbase hfew hline hs hplain) fun s H Q ⟨c, sd, h, rs, rh, q⟩ => ⟨c, sd, h, rs, rh, (Out.bind (R := Rel X.K) q).imp fun x H1 ⟨c1, d1, sd1, h1, rs1, rh1, r1, _, q1⟩ => by
    cases d1 with
    | lst xs =>
      obtain ⟨p, vs, rfl, po, hp, rl⟩ := r1
      refine ⟨.inl ⟨rfl, vs, SqL.of hp⟩, c1, sd1, h1, rs1, rh1, (Out.bind (R := RelL X.K) q1).imp fun y H2 ⟨c2, d2, sd2, h2, rs2, rh2, r2, x2, q2⟩ => ?_⟩
      have hp2 := (x2.keep po hp).2
      rcases d2 with _ | ⟨d, _ | ⟨d3, ds⟩⟩
      · exact q2.elim
      · obtain ⟨v, r', rfl, rv, rr⟩ := r2
        cases rr
        have q3 : Out X.K X.mg (Rel X.K) c2 H2 s Q W (mOf (sixD xs d) sd2 h2) := q2
        cases d with
        | str z =>
          unfold sixD at q3
          cases e1 : strsOf xs with
          | none => simp only [e1] at q3; exact q3.elim
          | some ys =>
            simp only [e1, Option.bind_some] at q3
            by_cases hk : z ∈ ys
            · rw [if_pos hk] at q3
              have ez : v = .str z := rv
              subst ez
              have ex := strsOf_eq e1
              subst ex
              have ev := relL_txts rl
              subst ev
              obtain ⟨i1, i2⟩ := idx_txt hk
              refine ⟨p, ys.map V.str, .str z, ys.idxOf z, .str z, rfl, rfl, SqL.of hp2, rfl, by rw [List.all_map]; exact List.all_eq_true.mpr fun _ _ => rfl, by rw [List.getElem?_map, i1]; rfl, by simp [L2.eqV], fun m z' hm em => ?_, q3 _ c2 H2 (Ext.refl _ _) rs2 rh2 rfl⟩
              rw [List.getElem?_map] at em
              cases e3 : ys[m]? with
              | none => rw [e3] at em; cases em
              | some w =>
                rw [e3] at em
                cases em
                have := i2 m w hm e3
                show (w == z) = false
                simpa using this
            · rw [if_neg hk] at q3
              exact q3.elim
        | _ => exact q3.elim
      · exact q2.elim
    | _ => exact q1.elim⟩
end
section
variable {E : Ex} {s : Sd} {h : Hd} {a : M D} {ms : M (List D)} {Q : D → Sd → Hd → Prop}
theorem y_tixT : Wq Q E () (mTixT a ms s h) = Wq (fun o s h => tpQ (fun xs => Wq (fun ds s h => onQ (fun d => opQ (fun r => Q r s h) () (sixD xs d)) () ds) E () (ms s h)) () o) E () (a s h) := sk fun o _ _ => by
  cases o with
  | tup xs =>
    exact sk fun ds _ _ => by
      match ds with
      | [] => rfl
      | [d] => exact y_of
      | _ :: _ :: _ => rfl
  | _ => rfl
theorem y_tixL : Wq Q E () (mTixL a ms s h) = Wq (fun o s h => lsQ (fun xs => Wq (fun ds s h => onQ (fun d => opQ (fun r => Q r s h) () (sixD xs d)) () ds) E () (ms s h)) () o) E () (a s h) := sk fun o _ _ => by
  cases o with
  | lst xs =>
    exact sk fun ds _ _ => by
      match ds with
      | [] => rfl
      | [d] => exact y_of
      | _ :: _ :: _ => rfl
  | _ => rfl
end
theorem sixD_mem {ys : List Str} {z : Str} (h : z ∈ ys) : sixD (ys.map .str) (.str z) = some (.int (ys.idxOf z : Nat)) := by
  show (strsOf (ys.map .str)).bind _ = _
  rw [strsOf_map, Option.bind_some, if_pos h]
def gTl (n : Nat) (r : List D → M Unit) : D → M Unit := fun d s h => match d with
  | .lst ds => if ds.length = n then r ds s h else .bad
  | _ => .bad
def gLsL (K : PySem.W.Frag) (n : Nat) (t : TGs) : TG := fun v σ H Q => ∃ a xs, v = .ref a ∧ SqL K H a xs ∧ xs.length = n ∧ t xs σ H Q
section
variable {X : Cx} {pos : Pos}
theorem pg_lst {es : List Expr} {k : Nat} {t : TGs} {n : Nat} (hc : X.calm = true) (h : PGs X es t)
    (hn : (assignEach es X.env).length = n := by rfl) (hst : (assignEach es X.env).findIdx? (·.1) = none := by rfl) : PG X (.Tuple es k pos) (gLsL X.K n t) := by
  refine ⟨fun pins s σ H v u Q I r hw => ?_⟩
  obtain ⟨a, xs, e1, hq, hl, hw⟩ := hw
  subst e1
  cases r
  obtain ⟨its, rv, ⟨o, m, ho, hcl, _, hd⟩, hz⟩ := I.list hq
  have hl2 : s.heap.IsList a its.toArray := ⟨o, ho, hcl, m, hd⟩
  rw [assign_Tuple]
  refine wpAny_bind (wpAny_standAt ?_)
  unfold unpack
  have e2 : (assignEach es X.env).length = its.toArray.size := by simp [hn, ← hl, rv.length]
  rw [e2, hst]
  refine wpAny_bind (wpAny_holding (PySem.W.kun_itemsOf (I.ok.hd hc) hl2 fun h' hx => ?_))
  have I1 : Inv X pins σ H { s with heap := h' } := I.kept (t' := s.toks) fun b o e => hx b o (Nat.ne_of_lt (Heap.lt_size e)) e
  exact h.run pins _ σ H xs _ Q I1 (by simpa using rv) hw
theorem g_lst {es : List Expr} {k n : Nat} {tg : List Nat} {r : List D → M Unit} (hc : X.calm = true) (h : PGs X es (lGs X.K tg r))
    (hn : (assignEach es X.env).length = n := by rfl) (hst : (assignEach es X.env).findIdx? (·.1) = none := by rfl) : PG X (.Tuple es k pos) (lG X.K tg (gTl n r)) :=
  pg_imp (pg_lst hc h hn hst) fun v s H Q ⟨c, sd, h, d, rs, rh, r1, q⟩ => by
    cases d with
    | lst ds =>
      obtain ⟨p, vs, e1, _, t, r2⟩ := (show ∃ a vs, v = .ref a ∧ c.out a ∧ H a = some (.lst vs) ∧ RelL X.K c H ds vs from r1)
      have q' : OutG X.K c H s tg Q (if ds.length = n then r ds sd h else .bad) := q
      by_cases hl : ds.length = n
      · rw [if_pos hl] at q'
        exact ⟨p, vs, e1, SqL.of t, by rw [← r2.len]; exact hl, c, sd, h, ds, rs, rh, r2, q'⟩
      · rw [if_neg hl] at q'
        exact q'.elim
    | _ => exact q.elim
end
theorem y_gTl {QU : Unit → Sd → Hd → Prop} {E : Ex} {s : Sd} {h : Hd} {k : Nat} {r : List D → M Unit} {ds : List D} : Wq QU E () (gTl k r (.lst ds) s h) = (ds.length = k ∧ Wq QU E () (r ds s h)) := y_ite
end Dm
end
section
set_option maxHeartbeats 0
namespace Lw
open PySem PySem.Spec PyProof.Rows L2 Dm
def topS (i : Nat) : Stmt := PySem.Challenge.pw_twobenches_k64_texts_of_books.main.body.getD i (.Pass ⟨0, 0, 0, 0⟩)
abbrev s_ParseError : Stmt := (Dm.clsBd (topS 1)).getD 0 (.Pass ⟨0, 0, 0, 0⟩)
abbrev s_is_integer : Stmt := topS 6
abbrev s_is_within : Stmt := topS 7
abbrev s_is_end : Stmt := topS 8
abbrev s_is_fact : Stmt := topS 9
abbrev s_format_end : Stmt := topS 14
abbrev s_format_fact : Stmt := topS 15
abbrev s_format_book : Stmt := topS 16
abbrev s_read_integer : Stmt := topS 17
abbrev s_read_end : Stmt := topS 18
abbrev s_read_fact : Stmt := topS 19
abbrev s_read_jobs : Stmt := topS 20
abbrev s_lines_of : Stmt := topS 21
abbrev s_parse_book : Stmt := topS 22
abbrev s_law_pen : Stmt := topS 24
abbrev s_law_fresh : Stmt := topS 25
abbrev s_law_draw : Stmt := topS 26
abbrev s_law_one_of : Stmt := topS 27
abbrev s_law_times : Stmt := topS 28
abbrev s_law_number : Stmt := topS 29
abbrev s_law_two_ends : Stmt := topS 30
abbrev s_law_true_fact : Stmt := topS 31
abbrev s_law_book : Stmt := topS 32
abbrev s_law_any_book : Stmt := topS 33
abbrev s_law_end_text : Stmt := topS 34
abbrev s_law_book_text : Stmt := topS 35
abbrev s_law_figures : Stmt := topS 36
abbrev s_law_read_end : Stmt := topS 37
abbrev s_law_read_fact : Stmt := topS 38
abbrev s_law_read_book : Stmt := topS 39
abbrev s_law_told : Stmt := topS 40
abbrev s_law_marred : Stmt := topS 41
abbrev s_law : Stmt := topS 42
def dd_is_integer : He.DefD := ⟨("is_integer", none), "is_integer", "is_integer", defArgs s_is_integer, defBody s_is_integer, defScope s_is_integer, [], []⟩
def dd_is_within : He.DefD := ⟨("is_within", none), "is_within", "is_within", defArgs s_is_within, defBody s_is_within, defScope s_is_within, [], []⟩
def dd_is_end : He.DefD := ⟨("is_end", none), "is_end", "is_end", defArgs s_is_end, defBody s_is_end, defScope s_is_end, [], []⟩
def dd_is_fact : He.DefD := ⟨("is_fact", none), "is_fact", "is_fact", defArgs s_is_fact, defBody s_is_fact, defScope s_is_fact, [], []⟩
def dd_format_end : He.DefD := ⟨("format_end", none), "format_end", "format_end", defArgs s_format_end, defBody s_format_end, defScope s_format_end, [], []⟩
def dd_format_fact : He.DefD := ⟨("format_fact", none), "format_fact", "format_fact", defArgs s_format_fact, defBody s_format_fact, defScope s_format_fact, [], []⟩
def dd_format_book : He.DefD := ⟨("format_book", none), "format_book", "format_book", defArgs s_format_book, defBody s_format_book, defScope s_format_book, [], []⟩
def dd_read_integer : He.DefD := ⟨("read_integer", none), "read_integer", "read_integer", defArgs s_read_integer, defBody s_read_integer, defScope s_read_integer, [], []⟩
def dd_read_end : He.DefD := ⟨("read_end", none), "read_end", "read_end", defArgs s_read_end, defBody s_read_end, defScope s_read_end, [], []⟩
def dd_read_fact : He.DefD := ⟨("read_fact", none), "read_fact", "read_fact", defArgs s_read_fact, defBody s_read_fact, defScope s_read_fact, [], []⟩
def dd_read_jobs : He.DefD := ⟨("read_jobs", none), "read_jobs", "read_jobs", defArgs s_read_jobs, defBody s_read_jobs, defScope s_read_jobs, [], []⟩
def dd_lines_of : He.DefD := ⟨("lines_of", none), "lines_of", "lines_of", defArgs s_lines_of, defBody s_lines_of, defScope s_lines_of, [], []⟩
def dd_parse_book : He.DefD := ⟨("parse_book", none), "parse_book", "parse_book", defArgs s_parse_book, defBody s_parse_book, defScope s_parse_book, [], []⟩
def dd_law_pen : He.DefD := ⟨("_law_pen", none), "_law_pen", "_law_pen", defArgs s_law_pen, defBody s_law_pen, defScope s_law_pen, [], []⟩
def dd_law_fresh : He.DefD := ⟨("_law_fresh", none), "_law_fresh", "_law_fresh", defArgs s_law_fresh, defBody s_law_fresh, defScope s_law_fresh, [], []⟩
def dd_law_draw : He.DefD := ⟨("_law_draw", none), "_law_draw", "_law_draw", defArgs s_law_draw, defBody s_law_draw, defScope s_law_draw, [], []⟩
def dd_law_one_of : He.DefD := ⟨("_law_one_of", none), "_law_one_of", "_law_one_of", defArgs s_law_one_of, defBody s_law_one_of, defScope s_law_one_of, [], []⟩
def dd_law_times : He.DefD := ⟨("_law_times", none), "_law_times", "_law_times", defArgs s_law_times, defBody s_law_times, defScope s_law_times, [], []⟩
def dd_law_number : He.DefD := ⟨("_law_number", none), "_law_number", "_law_number", defArgs s_law_number, defBody s_law_number, defScope s_law_number, [], []⟩
def dd_law_two_ends : He.DefD := ⟨("_law_two_ends", none), "_law_two_ends", "_law_two_ends", defArgs s_law_two_ends, defBody s_law_two_ends, defScope s_law_two_ends, [], []⟩
def dd_law_true_fact : He.DefD := ⟨("_law_true_fact", none), "_law_true_fact", "_law_true_fact", defArgs s_law_true_fact, defBody s_law_true_fact, defScope s_law_true_fact, [], []⟩
def dd_law_book : He.DefD := ⟨("_law_book", none), "_law_book", "_law_book", defArgs s_law_book, defBody s_law_book, defScope s_law_book, [], []⟩
def dd_law_any_book : He.DefD := ⟨("_law_any_book", none), "_law_any_book", "_law_any_book", defArgs s_law_any_book, defBody s_law_any_book, defScope s_law_any_book, [], []⟩
def dd_law_end_text : He.DefD := ⟨("_law_end_text", none), "_law_end_text", "_law_end_text", defArgs s_law_end_text, defBody s_law_end_text, defScope s_law_end_text, [], []⟩
def dd_law_book_text : He.DefD := ⟨("_law_book_text", none), "_law_book_text", "_law_book_text", defArgs s_law_book_text, defBody s_law_book_text, defScope s_law_book_text, [], []⟩
def dd_law_figures : He.DefD := ⟨("_law_figures", none), "_law_figures", "_law_figures", defArgs s_law_figures, defBody s_law_figures, defScope s_law_figures, [], []⟩
def dd_law_read_end : He.DefD := ⟨("_law_read_end", none), "_law_read_end", "_law_read_end", defArgs s_law_read_end, defBody s_law_read_end, defScope s_law_read_end, [], []⟩
def dd_law_read_fact : He.DefD := ⟨("_law_read_fact", none), "_law_read_fact", "_law_read_fact", defArgs s_law_read_fact, defBody s_law_read_fact, defScope s_law_read_fact, [], []⟩
def dd_law_read_book : He.DefD := ⟨("_law_read_book", none), "_law_read_book", "_law_read_book", defArgs s_law_read_book, defBody s_law_read_book, defScope s_law_read_book, [], []⟩
def dd_law_told : He.DefD := ⟨("_law_told", none), "_law_told", "_law_told", defArgs s_law_told, defBody s_law_told, defScope s_law_told, [], []⟩
def dd_law_marred : He.DefD := ⟨("_law_marred", none), "_law_marred", "_law_marred", defArgs s_law_marred, defBody s_law_marred, defScope s_law_marred, [], []⟩
def dd_law : He.DefD := ⟨("law", none), "law", "law", defArgs s_law, defBody s_law, defScope s_law, [], []⟩
def dd_ParseError : He.DefD := ⟨("ParseError", some "__init__"), "__init__", "ParseError.__init__", defArgs s_ParseError, defBody s_ParseError, defScope s_ParseError, [], []⟩
def fnL : List He.DefD := [dd_is_integer, dd_is_within, dd_is_end, dd_is_fact, dd_format_end, dd_format_fact, dd_format_book, dd_read_integer, dd_read_end, dd_read_fact, dd_read_jobs, dd_lines_of, dd_parse_book, dd_law_pen, dd_law_fresh, dd_law_draw, dd_law_one_of, dd_law_times, dd_law_number, dd_law_two_ends, dd_law_true_fact, dd_law_book, dd_law_any_book, dd_law_end_text, dd_law_book_text, dd_law_figures, dd_law_read_end, dd_law_read_fact, dd_law_read_book, dd_law_told, dd_law_marred, dd_law, dd_ParseError]
def faL : List He.Fa := [.glo "is_integer", .glo "is_within", .glo "is_end", .glo "is_fact", .glo "format_end", .glo "format_fact", .glo "format_book", .glo "read_integer", .glo "read_end", .glo "read_fact", .glo "read_jobs", .glo "lines_of", .glo "parse_book", .glo "_law_pen", .glo "_law_fresh", .glo "_law_draw", .glo "_law_one_of", .glo "_law_times", .glo "_law_number", .glo "_law_two_ends", .glo "_law_true_fact", .glo "_law_book", .glo "_law_any_book", .glo "_law_end_text", .glo "_law_book_text", .glo "_law_figures", .glo "_law_read_end", .glo "_law_read_fact", .glo "_law_read_book", .glo "_law_told", .glo "_law_marred", .glo "law", .free "isinstance", .free "int", .free "bool", .free "tuple", .free "len", .free "str", .free "abs", .free "all", .free "enumerate", .free "list", .free "range", .free "repr", .free "ValueError", .int "MOST_FAR" 1000000000000, .glo "NAMES", .int "MOST_DIGITS" 61, .str "DIGITS" "0123456789", .int "MOST_JOBS" 8, .int "MOST_FACTS" 40, .glo "ParseError"]
def tests (K : PySem.W.Frag) : List Bool := [smB K, xclB K "ParseError" "line" "ValueError", awayB K "ParseError" [], tupSB K "NAMES" ["first", "rest", "second"]]
def more (K : PySem.W.Frag) : Bool := (tests K).all id
theorem more_at {K : PySem.W.Frag} (h : more K = true) (i : Nat) {b : Bool} (e : (tests K)[i]? = some b) : b = true := List.all_eq_true.mp h b (List.mem_of_getElem? e)
abbrev Rw : PySem.W.OpenRow := PySem.W.OpenLaw.row PySem.Challenge.rw_twobenches_k64_texts_of_books
def loose0 : List PySem.Str := ["ParseError", "MOST_JOBS", "MOST_FACTS", "MOST_FAR", "is_integer", "is_within", "is_end", "is_fact", "NAMES", "DIGITS", "MOST_DIGITS", "format_end", "format_fact", "format_book", "read_integer", "read_end", "read_fact", "read_jobs", "lines_of", "parse_book", "_law_pen", "_law_fresh", "_law_draw", "_law_one_of", "_law_times", "_law_number", "_law_two_ends", "_law_true_fact", "_law_book", "_law_any_book"]
def loose1 : List PySem.Str := ["_law_end_text", "_law_book_text", "_law_figures", "_law_read_end", "_law_read_fact", "_law_read_book", "_law_told", "_law_marred"]
def looseL : List PySem.Str := loose0 ++ loose1
abbrev hk : PySem.W.Hook := hkM 4 faL fnL [] more
def obs (s : PySem.W.SharedT) : AlM := obsM 4 faL fnL [] more (HandSHeadRun.getT s)
theorem obs_eq (s : PySem.W.SharedT) : obs s = hk.obs s.abs := obsM_eq (HandSHeadRun.getT_eq s)
theorem head_run (w : World) : HandSHeadRun.RunEq Rw (PySem.W.view Rw.prog [42]) hk obs 20000 looseL w := by
  intro os
  kernel_rfl
end Lw
end
section
namespace Lw
open PySem PySem.Spec PyProof.Rows L2 Dm
structure Tx (w : World) (K : PySem.W.Frag) (mg : Str → Option Value) : Prop where
  sm : smB K = true
  b_isinstance : mg "isinstance" = none
  b_int : mg "int" = none
  b_bool : mg "bool" = none
  b_tuple : mg "tuple" = none
  b_len : mg "len" = none
  b_str : mg "str" = none
  b_abs : mg "abs" = none
  b_all : mg "all" = none
  b_enumerate : mg "enumerate" = none
  b_list : mg "list" = none
  b_range : mg "range" = none
  b_repr : mg "repr" = none
  b_ValueError : mg "ValueError" = none
  c_MOST_FAR : ∃ t, mg "MOST_FAR" = some (.int 1000000000000 t)
  c_NAMES : GloU K mg "NAMES" ["first", "rest", "second"]
  c_MOST_DIGITS : ∃ t, mg "MOST_DIGITS" = some (.int 61 t)
  c_DIGITS : ∃ t, mg "DIGITS" = some (.str "0123456789" t)
  c_MOST_JOBS : ∃ t, mg "MOST_JOBS" = some (.int 8 t)
  c_MOST_FACTS : ∃ t, mg "MOST_FACTS" = some (.int 40 t)
noncomputable section
variable {gp : Prop} {P : Program} {w : World} {K : PySem.W.Frag} {mg : Str → Option Value} {base : Heap}
theorem sc_ParseError : FnScope ["self", "line"] ["self", "line"] (defScope s_ParseError) := ⟨rfl, rfl, rfl, by decide +kernel, rfl, by decide +kernel, by decide +kernel⟩
theorem ok_ParseError {f C : Addr} {fd : FuncData} (F : FunD K "__init__" "ParseError.__init__" (defArgs s_ParseError) (defBody s_ParseError) (defScope s_ParseError) [] [] f fd) (T : Tx w K mg) (TC : OexG K C "ValueError") (hno : PySem.W.findIn K (.ref C) "line" = some none) : FnOk P w K mg base (L2N.CX P w) 1 f fd ["self", "line"] (spI C "line") := by
  obtain ⟨oc, od, dV, kV, doc, pm, an, cdv, ct, osl, rfl, lk, hcd, _, _⟩ := F.ex
  refine fn_of lk hcd sc_ParseError (fun vs H Q E h => by obtain ⟨a, y, e, _⟩ := h; rw [e]; rfl) fun A outer s H vs Q E hr h => ⟨_, pss_cons (ps_expr (pe_initG (B := "ValueError") rfl T.b_ValueError exb_VE.bs.boot exb_VE.bs.ty exb_VE.bs.stub exb_VE.bs.hand (by kernel_rfl) (pa_cons (pe_var (i := 0) rfl (.inl rfl) (by decide) (by decide)) (pa_cons pe_str pa_nil)))) (pss_one (ps_ostG (f := "line") (pe_var (i := 0) rfl (.inl rfl) (by decide) (by decide)) (pe_var (i := 1) rfl (.inl rfl) (by decide) (by decide)))), ?_⟩
  obtain ⟨a, y, rfl, ea, q⟩ := h
  exact ⟨.ref a, rfl, a, C, [.str _], rfl, by decide, TC, ea, y, rfl, .ref a, rfl, a, C, _, rfl, TC, hno, .inl ⟨ea, fun dx h1 h2 => q dx h1 h2⟩⟩
abbrev N_is_integer : List Str := ["value"]
theorem sc_is_integer : FnScope N_is_integer ["value"] (defScope s_is_integer) := ⟨rfl, rfl, rfl, by decide +kernel, rfl, by decide +kernel, by decide +kernel⟩
def st_is_integer_0 : M Fl :=
    (mRet (mAndV (mUn (isiD "int") (mVar 0)) (mNotV (mUn (isiD "bool") (mVar 0)))))
def b_is_integer : M Fl :=
    st_is_integer_0
def m_is_integer : MF := fnM 1 (b_is_integer)
theorem ok_is_integer {f : Addr} {fd : FuncData} (F : FunD K "is_integer" "is_integer" (defArgs s_is_integer) (defBody s_is_integer) (defScope s_is_integer) [] [] f fd) (gx : mg "is_integer" = some (.ref f)) (T : Tx w K mg) : Def gp P w K mg base "is_integer" ["value"] 1 m_is_integer := by
  refine def_mk F gx sc_is_integer (fun _ _ _ _ _ _ us hl => match us, hl with | [_], _ => rfl) fun cdv A outer s H E q po => ?_
  show PSs _ _ (lS K mg _ b_is_integer)
  exact (ss_one (s_ret (e_and (e_isi T.b_isinstance T.b_int (e_var 0)) (e_one (e_not (e_isi T.b_isinstance T.b_bool (e_var 0)))))))
abbrev N_is_within : List Str := ["value", "least", "most"]
theorem sc_is_within : FnScope N_is_within ["value", "least", "most"] (defScope s_is_within) := ⟨rfl, rfl, rfl, by decide +kernel, rfl, by decide +kernel, by decide +kernel⟩
def st_is_within_0 : M Fl :=
    (mRet (mAndV (mCall m_is_integer (mCons (mVar 0) mNil)) (mChain leD leD (mVar 1) (mVar 0) (mVar 2))))
def b_is_within : M Fl :=
    st_is_within_0
def m_is_within : MF := fnM 3 (b_is_within)
theorem ok_is_within {f : Addr} {fd : FuncData} (F : FunD K "is_within" "is_within" (defArgs s_is_within) (defBody s_is_within) (defScope s_is_within) [] [] f fd) (gx : mg "is_within" = some (.ref f)) (T : Tx w K mg) (D_is_integer : Def gp P w K mg base "is_integer" ["value"] 1 m_is_integer) : Def gp P w K mg base "is_within" ["value", "least", "most"] 2 m_is_within := by
  refine def_mk F gx sc_is_within (fun _ _ _ _ _ _ us hl => match us, hl with | [_, _, _], _ => rfl) fun cdv A outer s H E q po => ?_
  show PSs _ _ (lS K mg _ b_is_within)
  exact (ss_one (s_ret (e_and (e_call D_is_integer q (a_cons (e_var 0) a_nil)) (e_one (e_chain o_le o_le (e_var 1) (e_var 0) (e_var 2))))))
abbrev N_is_end : List Str := ["jobs", "value"]
theorem sc_is_end : FnScope N_is_end ["jobs", "value"] (defScope s_is_end) := ⟨rfl, rfl, rfl, by decide +kernel, rfl, by decide +kernel, by decide +kernel⟩
def st_is_end_0 : M Fl :=
    (mRet (mOrV (mBin isND (mVar 1) (mC .non)) (mCall m_is_within (mCons (mVar 1) (mCons (mC (.int 0)) (mCons (mBin subD (mBin mulD (mC (.int 3)) (mVar 0)) (mC (.int 1))) mNil))))))
def b_is_end : M Fl :=
    st_is_end_0
def m_is_end : MF := fnM 2 (b_is_end)
theorem ok_is_end {f : Addr} {fd : FuncData} (F : FunD K "is_end" "is_end" (defArgs s_is_end) (defBody s_is_end) (defScope s_is_end) [] [] f fd) (gx : mg "is_end" = some (.ref f)) (T : Tx w K mg) (D_is_within : Def gp P w K mg base "is_within" ["value", "least", "most"] 2 m_is_within) : Def gp P w K mg base "is_end" ["jobs", "value"] 3 m_is_end := by
  refine def_mk F gx sc_is_end (fun _ _ _ _ _ _ us hl => match us, hl with | [_, _], _ => rfl) fun cdv A outer s H E q po => ?_
  show PSs _ _ (lS K mg _ b_is_end)
  exact (ss_one (s_ret (e_or (e_cmp o_is (e_var 1) e_non) (e_one (e_call D_is_within q (a_cons (e_var 1) (a_cons e_int (a_cons (e_bin o_sub (e_bin o_mul e_int (e_var 0)) e_int) a_nil))))))))
abbrev N_is_fact : List Str := ["jobs", "value"]
theorem sc_is_fact : FnScope N_is_fact ["jobs", "value"] (defScope s_is_fact) := ⟨rfl, rfl, rfl, by decide +kernel, rfl, by decide +kernel, by decide +kernel⟩
def st_is_fact_0 : M Fl :=
    (mIf (mOr (mNot (mTest (mUn (isiD "tuple") (mVar 1)))) (mTest (mBin neD (mCB lenD (mCons (mVar 1) mNil)) (mC (.int 3)))))
    (mRet (mC (.bl false)))
    mNx)
def st_is_fact_1 : M Fl :=
    (mIf (mOr (mNot (mTest (mCall m_is_end (mCons (mVar 0) (mCons (mBin ixD (mVar 1) (mC (.int 0))) mNil))))) (mOr (mNot (mTest (mCall m_is_end (mCons (mVar 0) (mCons (mBin ixD (mVar 1) (mC (.int 1))) mNil))))) (mTest (mBin eqX (mBin ixD (mVar 1) (mC (.int 0))) (mBin ixD (mVar 1) (mC (.int 1)))))))
    (mRet (mC (.bl false)))
    mNx)
def st_is_fact_2 : M Fl :=
    (mRet (mCall m_is_within (mCons (mBin ixD (mVar 1) (mC (.int 2))) (mCons (mUn negD (mC (.int 1000000000000))) (mCons (mC (.int 1000000000000)) mNil)))))
def b_is_fact : M Fl :=
    (mSeq st_is_fact_0
    (mSeq st_is_fact_1
    st_is_fact_2))
def m_is_fact : MF := fnM 2 (b_is_fact)
theorem ok_is_fact {f : Addr} {fd : FuncData} (F : FunD K "is_fact" "is_fact" (defArgs s_is_fact) (defBody s_is_fact) (defScope s_is_fact) [] [] f fd) (gx : mg "is_fact" = some (.ref f)) (T : Tx w K mg) (D_is_end : Def gp P w K mg base "is_end" ["jobs", "value"] 3 m_is_end) (D_is_within : Def gp P w K mg base "is_within" ["value", "least", "most"] 2 m_is_within) : Def gp P w K mg base "is_fact" ["jobs", "value"] 4 m_is_fact := by
  refine def_mk F gx sc_is_fact (fun _ _ _ _ _ _ us hl => match us, hl with | [_, _], _ => rfl) fun cdv A outer s H E q po => ?_
  show PSs _ _ (lS K mg _ b_is_fact)
  exact (ss_cons (s_if (PW.pt (w_or (t_not (t_val (e_isi T.b_isinstance T.b_tuple (e_var 1)))) (w_one_or (t_cmp (o_ne q) (e_callB c_len T.b_len (by decide +kernel) (a_cons (e_var 1) a_nil)) e_int))))
    (ss_one (s_ret e_bl))
    ss_nil)
    (ss_cons (s_if (PW.pt (w_or (t_not (t_val (e_call D_is_end q (a_cons (e_var 0) (a_cons (e_ix o_ix (e_var 1) e_int) a_nil))))) (w_or (t_not (t_val (e_call D_is_end q (a_cons (e_var 0) (a_cons (e_ix o_ix (e_var 1) e_int) a_nil))))) (w_one_or (t_cmp (o_eqX q) (e_ix o_ix (e_var 1) e_int) (e_ix o_ix (e_var 1) e_int))))))
    (ss_one (s_ret e_bl))
    ss_nil)
    (ss_one (s_ret (e_call D_is_within q (a_cons (e_ix o_ix (e_var 1) e_int) (a_cons (e_un o_neg (e_glo T.c_MOST_FAR)) (a_cons (e_glo T.c_MOST_FAR) a_nil))))))))
abbrev N_format_end : List Str := ["end"]
theorem sc_format_end : FnScope N_format_end ["end"] (defScope s_format_end) := ⟨rfl, rfl, rfl, by decide +kernel, rfl, by decide +kernel, by decide +kernel⟩
def st_format_end_0 : M Fl :=
    (mRet (mIf (mTest (mBin isND (mVar 0) (mC .non))) (mC (.str "ground")) (mBin addD (mBin addD (mBin ixD (mC (.tup ((["first", "rest", "second"] : List PySem.Str).map .str))) (mBin modD (mVar 0) (mC (.int 3)))) (mC (.str " "))) (mCB strD (mCons (mBin fdvD (mVar 0) (mC (.int 3))) mNil)))))
def b_format_end : M Fl :=
    st_format_end_0
def m_format_end : MF := fnM 1 (b_format_end)
theorem ok_format_end {f : Addr} {fd : FuncData} (F : FunD K "format_end" "format_end" (defArgs s_format_end) (defBody s_format_end) (defScope s_format_end) [] [] f fd) (gx : mg "format_end" = some (.ref f)) (T : Tx w K mg) : Def gp P w K mg base "format_end" ["end"] 1 m_format_end := by
  refine def_mk F gx sc_format_end (fun _ _ _ _ _ _ us hl => match us, hl with | [_], _ => rfl) fun cdv A outer s H E q po => ?_
  show PSs _ _ (lS K mg _ b_format_end)
  exact (ss_one (s_ret (e_if (t_cmp o_is (e_var 0) e_non) e_str (e_bin o_add (e_bin o_add (e_ix o_ix (e_gloU T.c_NAMES) (e_bin o_mod (e_var 0) e_int)) e_str) (e_callTy c_str T.b_str (by decide +kernel) (a_cons (e_bin o_fdv (e_var 0) e_int) a_nil))))))
abbrev N_format_fact : List Str := ["fact", "x", "y", "far"]
theorem sc_format_fact : FnScope N_format_fact ["fact"] (defScope s_format_fact) := ⟨rfl, rfl, rfl, by decide +kernel, rfl, by decide +kernel, by decide +kernel⟩
def st_format_fact_0 : M Fl :=
    (mAsgG (mVar 0) (gTp 3 (gCn (gN 1) (gCn (gN 2) (gCn (gN 3) gNl)))))
def st_format_fact_1 : M Fl :=
    (mRet (mBin addD (mBin addD (mBin addD (mBin addD (mCall m_format_end (mCons (mVar 1) mNil)) (mC (.str " <= "))) (mCall m_format_end (mCons (mVar 2) mNil))) (mIf (mTest (mBin geD (mVar 3) (mC (.int 0)))) (mC (.str " + ")) (mC (.str " - ")))) (mCB strD (mCons (mCB absD (mCons (mVar 3) mNil)) mNil))))
def b_format_fact : M Fl :=
    (mSeq st_format_fact_0
    st_format_fact_1)
def m_format_fact : MF := fnM 4 (b_format_fact)
theorem ok_format_fact {f : Addr} {fd : FuncData} (F : FunD K "format_fact" "format_fact" (defArgs s_format_fact) (defBody s_format_fact) (defScope s_format_fact) [] [] f fd) (gx : mg "format_fact" = some (.ref f)) (T : Tx w K mg) (D_format_end : Def gp P w K mg base "format_end" ["end"] 1 m_format_end) : Def gp P w K mg base "format_fact" ["fact"] 2 m_format_fact := by
  refine def_mk F gx sc_format_fact (fun _ _ _ _ _ _ us hl => match us, hl with | [_], _ => rfl) fun cdv A outer s H E q po => ?_
  show PSs _ _ (lS K mg _ b_format_fact)
  exact (ss_cons (s_asg (e_var 0) (g_tup q.cm (gs_cons (g_name q.nd) (gs_cons (g_name q.nd) (gs_cons (g_name q.nd) (gs_nil (tg := [])))))))
    (ss_one (s_ret (e_bin o_add (e_bin o_add (e_bin o_add (e_bin o_add (e_call D_format_end q (a_cons (e_var 1) a_nil)) e_str) (e_call D_format_end q (a_cons (e_var 2) a_nil))) (e_if (t_cmp o_ge (e_var 3) e_int) e_str e_str)) (e_callTy c_str T.b_str (by decide +kernel) (a_cons (e_callB c_abs T.b_abs (by decide +kernel) (a_cons (e_var 3) a_nil)) a_nil))))))
abbrev N_format_book : List Str := ["book", "jobs", "facts", "line", "fact"]
theorem sc_format_book : FnScope N_format_book ["book"] (defScope s_format_book) := ⟨rfl, rfl, rfl, by decide +kernel, rfl, by decide +kernel, by decide +kernel⟩
def st_format_book_0 : M Fl :=
    (mAsgG (mVar 0) (gTp 2 (gCn (gN 1) (gCn (gN 2) gNl))))
def ce_format_book_0 : M D :=
    (mCall m_format_fact (mCons (mVar 4) mNil))
def ce_format_book_1 : M D :=
    (mBin addD (mVar 3) (mC (.str "\n")))
def st_format_book_1 : M Fl :=
    (mRet (mJoin (mC (.str "")) (mVal (mComp (mIter (mVal (mCat (mVal (mLst (mCons (mBin addD (mC (.str "jobs ")) (mCB strD (mCons (mVar 1) mNil))) mNil))) (mVal (mComp (mIter (mVar 2)) [4] (gN 4) mYes ce_format_book_0))))) [3] (gN 3) mYes ce_format_book_1))))
def b_format_book : M Fl :=
    (mSeq st_format_book_0
    st_format_book_1)
def m_format_book : MF := fnM 5 (b_format_book)
theorem ok_format_book {f : Addr} {fd : FuncData} (F : FunD K "format_book" "format_book" (defArgs s_format_book) (defBody s_format_book) (defScope s_format_book) [] [] f fd) (gx : mg "format_book" = some (.ref f)) (T : Tx w K mg) (D_format_fact : Def gp P w K mg base "format_fact" ["fact"] 2 m_format_fact) : Def gp P w K mg base "format_book" ["book"] 3 m_format_book := by
  refine def_mk F gx sc_format_book (fun _ _ _ _ _ _ us hl => match us, hl with | [_], _ => rfl) fun cdv A outer s H E q po => ?_
  show PSs _ _ (lS K mg _ b_format_book)
  exact (ss_cons (s_asg (e_var 0) (g_tup q.cm (gs_cons (g_name q.nd) (gs_cons (g_name q.nd) (gs_nil (tg := []))))))
    (ss_one (s_ret (e_join e_str (e_val (f_comp (own := [("line", 3)]) q.cm q.nd (i_seq (e_val (f_cat (e_val (f_lst (a_cons (e_bin o_add e_str (e_callTy c_str T.b_str (by decide +kernel) (a_cons (e_var 1) a_nil))) a_nil))) (e_val (f_comp (own := [("fact", 4)]) q.cm q.nd (i_seq (e_var 2)) (blkOk_by (own := [("fact", 4)]) (N := N_format_book) (sc := defScope s_format_book) (by decide +kernel)) (fun _ _ _ _ _ => (g_name q.blk.nd)) (fun _ _ _ _ _ => ts_nil) (fun _ _ _ _ _ => (e_call D_format_fact q.blk (a_cons (e_var 4) a_nil)))))))) (blkOk_by (own := [("line", 3)]) (N := N_format_book) (sc := defScope s_format_book) (by decide +kernel)) (fun _ _ _ _ _ => (g_name q.blk.nd)) (fun _ _ _ _ _ => ts_nil) (fun _ _ _ _ _ => (e_bin o_add (e_var 3) e_str))))))))
abbrev N_read_integer : List Str := ["text", "sign"]
theorem sc_read_integer : FnScope N_read_integer ["text"] (defScope s_read_integer) := ⟨rfl, rfl, rfl, by decide +kernel, rfl, by decide +kernel, by decide +kernel⟩
def ce_read_integer_0 : M D :=
    (mBin inT (mVar 1) (mC (.str "0123456789")))
def st_read_integer_0 : M Fl :=
    (mIf (mOr (mTest (mBin eqX (mVar 0) (mC (.str "")))) (mOr (mTest (mBin gtD (mCB lenD (mCons (mVar 0) mNil)) (mC (.int 61)))) (mNot (mTest (mCB allD (mCons (mVal (mComp (mIterT (mVar 0)) [1] (gN 1) mYes ce_read_integer_0)) mNil))))))
    (mRet (mC .non))
    mNx)
def st_read_integer_1 : M Fl :=
    (mRet (mIf (mOr (mTest (mBin eqX (mVar 0) (mC (.str "0")))) (mTest (mBin neD (mBin ixT (mVar 0) (mC (.int 0))) (mC (.str "0"))))) (mCB intT (mCons (mVar 0) mNil)) (mC .non)))
def b_read_integer : M Fl :=
    (mSeq st_read_integer_0
    st_read_integer_1)
def m_read_integer : MF := fnM 2 (b_read_integer)
theorem ok_read_integer {f : Addr} {fd : FuncData} (F : FunD K "read_integer" "read_integer" (defArgs s_read_integer) (defBody s_read_integer) (defScope s_read_integer) [] [] f fd) (gx : mg "read_integer" = some (.ref f)) (T : Tx w K mg) : Def gp P w K mg base "read_integer" ["text"] 1 m_read_integer := by
  refine def_mk F gx sc_read_integer (fun _ _ _ _ _ _ us hl => match us, hl with | [_], _ => rfl) fun cdv A outer s H E q po => ?_
  show PSs _ _ (lS K mg _ b_read_integer)
  exact (ss_cons (s_if (PW.pt (w_or (t_cmp (o_eqX q) (e_var 0) e_str) (w_or (t_cmp o_gt (e_callB c_len T.b_len (by decide +kernel) (a_cons (e_var 0) a_nil)) (e_glo T.c_MOST_DIGITS)) (w_one_or (t_not (t_val (e_callB (c_all q.cm) T.b_all (by decide +kernel) (a_cons (e_val (f_comp (own := [("sign", 1)]) q.cm q.nd (i_txt (e_var 0)) (blkOk_by (own := [("sign", 1)]) (N := N_read_integer) (sc := defScope s_read_integer) (by decide +kernel)) (fun _ _ _ _ _ => (g_name q.blk.nd)) (fun _ _ _ _ _ => ts_nil) (fun _ _ _ _ _ => (e_cmp (o_inT q.blk) (e_var 1) (e_gloS T.c_DIGITS))))) a_nil))))))))
    (ss_one (s_ret e_non))
    ss_nil)
    (ss_one (s_ret (e_if (PW.pt (w_or (t_cmp (o_eqX q) (e_var 0) e_str) (w_one_or (t_cmp (o_ne q) (e_ix o_ixT (e_var 0) e_int) e_str)))) (e_callTy c_intT T.b_int (by decide +kernel) (a_cons (e_var 0) a_nil)) e_non))))
abbrev N_read_end : List Str := ["words", "job"]
theorem sc_read_end : FnScope N_read_end ["words"] (defScope s_read_end) := ⟨rfl, rfl, rfl, by decide +kernel, rfl, by decide +kernel, by decide +kernel⟩
def st_read_end_0 : M Fl :=
    (mIf (mTest (mBin eqX (mVar 0) (mVal (mLst (mCons (mC (.str "ground")) mNil)))))
    (mRet (mTup (mCons (mC .non) mNil)))
    mNx)
def st_read_end_1 : M Fl :=
    (mIf (mOr (mTest (mBin neD (mCB lenD (mCons (mVar 0) mNil)) (mC (.int 2)))) (mTest (mBin ninX (mBin ixD (mVar 0) (mC (.int 0))) (mC (.tup ((["first", "rest", "second"] : List PySem.Str).map .str))))))
    (mRet (mC .non))
    mNx)
def st_read_end_2 : M Fl :=
    (mAsg 1 (mCall m_read_integer (mCons (mBin ixD (mVar 0) (mC (.int 1))) mNil)))
def st_read_end_3 : M Fl :=
    (mRet (mIf (mTest (mBin isND (mVar 1) (mC .non))) (mC .non) (mTup (mCons (mBin addD (mBin mulD (mC (.int 3)) (mVar 1)) (mTixT (mC (.tup ((["first", "rest", "second"] : List PySem.Str).map .str))) (mCons (mBin ixD (mVar 0) (mC (.int 0))) mNil))) mNil))))
def b_read_end : M Fl :=
    (mSeq st_read_end_0
    (mSeq st_read_end_1
    (mSeq st_read_end_2
    st_read_end_3)))
def m_read_end : MF := fnM 2 (b_read_end)
theorem ok_read_end {f : Addr} {fd : FuncData} (F : FunD K "read_end" "read_end" (defArgs s_read_end) (defBody s_read_end) (defScope s_read_end) [] [] f fd) (gx : mg "read_end" = some (.ref f)) (T : Tx w K mg) (D_read_integer : Def gp P w K mg base "read_integer" ["text"] 1 m_read_integer) : Def gp P w K mg base "read_end" ["words"] 2 m_read_end := by
  refine def_mk F gx sc_read_end (fun _ _ _ _ _ _ us hl => match us, hl with | [_], _ => rfl) fun cdv A outer s H E q po => ?_
  show PSs _ _ (lS K mg _ b_read_end)
  exact (ss_cons (s_if (t_cmp (o_eqX q) (e_var 0) (e_val (f_lst (a_cons e_str a_nil))))
    (ss_one (s_ret (e_tup (a_cons e_non a_nil))))
    ss_nil)
    (ss_cons (s_if (PW.pt (w_or (t_cmp (o_ne q) (e_callB c_len T.b_len (by decide +kernel) (a_cons (e_var 0) a_nil)) e_int) (w_one_or (t_cmp (o_ninX q) (e_ix o_ix (e_var 0) e_int) (e_gloU T.c_NAMES)))))
    (ss_one (s_ret e_non))
    ss_nil)
    (ss_cons (s_set q.nd (e_call D_read_integer q (a_cons (e_ix o_ix (e_var 0) e_int) a_nil)))
    (ss_one (s_ret (e_if (t_cmp o_is (e_var 1) e_non) e_non (e_tup (a_cons (e_bin o_add (e_bin o_mul e_int (e_var 1)) (e_tixT (e_gloU T.c_NAMES) (a_cons (e_ix o_ix (e_var 0) e_int) a_nil))) a_nil))))))))
abbrev N_read_fact : List Str := ["jobs", "line", "words", "at", "x", "y", "far", "fact"]
theorem sc_read_fact : FnScope N_read_fact ["jobs", "line"] (defScope s_read_fact) := ⟨rfl, rfl, rfl, by decide +kernel, rfl, by decide +kernel, by decide +kernel⟩
def st_read_fact_0 : M Fl :=
    (mAsg 2 (mVal (mSplit (mVar 1) (mC (.str " ")))))
def st_read_fact_1 : M Fl :=
    (mIf (mOr (mTest (mBin ninX (mC (.str "<=")) (mVar 2))) (mOr (mTest (mBin ltD (mCB lenD (mCons (mVar 2) mNil)) (mC (.int 3)))) (mTest (mBin ninX (mBin ixD (mVar 2) (mUn negD (mC (.int 2)))) (mTup (mCons (mC (.str "+")) (mCons (mC (.str "-")) mNil)))))))
    (mRet (mC .non))
    mNx)
def st_read_fact_2 : M Fl :=
    (mAsg 3 (mTixL (mVar 2) (mCons (mC (.str "<=")) mNil)))
def st_read_fact_3 : M Fl :=
    (mPar [4, 5, 6] (mPv (mCall m_read_end (mCons (mSl (mVar 2) mNoP (mPart (mVar 3))) mNil)) (mPv (mCall m_read_end (mCons (mSl (mVar 2) (mPart (mBin addD (mVar 3) (mC (.int 1)))) (mPart (mUn negD (mC (.int 2))))) mNil)) (mPv (mCall m_read_integer (mCons (mBin ixD (mVar 2) (mUn negD (mC (.int 1)))) mNil)) mPn))))
def st_read_fact_4 : M Fl :=
    (mIf (mOr (mTest (mBin isND (mVar 4) (mC .non))) (mOr (mTest (mBin isND (mVar 5) (mC .non))) (mOr (mTest (mBin isND (mVar 6) (mC .non))) (mAnd (mTest (mBin eqX (mBin ixD (mVar 2) (mUn negD (mC (.int 2)))) (mC (.str "-")))) (mTest (mBin eqX (mVar 6) (mC (.int 0))))))))
    (mRet (mC .non))
    mNx)
def st_read_fact_5 : M Fl :=
    (mAsg 7 (mTup (mCons (mBin ixD (mVar 4) (mC (.int 0))) (mCons (mBin ixD (mVar 5) (mC (.int 0))) (mCons (mIf (mTest (mBin eqX (mBin ixD (mVar 2) (mUn negD (mC (.int 2)))) (mC (.str "+")))) (mVar 6) (mUn negD (mVar 6))) mNil)))))
def st_read_fact_6 : M Fl :=
    (mRet (mIf (mTest (mCall m_is_fact (mCons (mVar 0) (mCons (mVar 7) mNil)))) (mVar 7) (mC .non)))
def b_read_fact : M Fl :=
    (mSeq st_read_fact_0
    (mSeq st_read_fact_1
    (mSeq st_read_fact_2
    (mSeq st_read_fact_3
    (mSeq st_read_fact_4
    (mSeq st_read_fact_5
    st_read_fact_6))))))
def m_read_fact : MF := fnM 8 (b_read_fact)
theorem ok_read_fact {f : Addr} {fd : FuncData} (F : FunD K "read_fact" "read_fact" (defArgs s_read_fact) (defBody s_read_fact) (defScope s_read_fact) [] [] f fd) (gx : mg "read_fact" = some (.ref f)) (T : Tx w K mg) (D_read_integer : Def gp P w K mg base "read_integer" ["text"] 1 m_read_integer) (D_read_end : Def gp P w K mg base "read_end" ["words"] 2 m_read_end) (D_is_fact : Def gp P w K mg base "is_fact" ["jobs", "value"] 4 m_is_fact) : Def gp P w K mg base "read_fact" ["jobs", "line"] 5 m_read_fact := by
  refine def_mk F gx sc_read_fact (fun _ _ _ _ _ _ us hl => match us, hl with | [_, _], _ => rfl) fun cdv A outer s H E q po => ?_
  show PSs _ _ (lS K mg _ b_read_fact)
  exact (ss_cons (s_set q.nd (e_val (f_split (e_var 1) e_str)))
    (ss_cons (s_if (PW.pt (w_or (t_cmp (o_ninX q) e_str (e_var 2)) (w_or (t_cmp o_lt (e_callB c_len T.b_len (by decide +kernel) (a_cons (e_var 2) a_nil)) e_int) (w_one_or (t_cmp (o_ninX q) (e_ix o_ix (e_var 2) (e_un o_neg e_int)) (e_tup (a_cons e_str (a_cons e_str a_nil))))))))
    (ss_one (s_ret e_non))
    ss_nil)
    (ss_cons (s_set q.nd (e_tixL (e_var 2) (a_cons e_str a_nil)))
    (ss_cons (s_par3 q.cm q.nd (p_val (e_call D_read_end q (a_cons (e_sl (e_var 2) o_none (o_some (e_var 3))) a_nil)) (p_val (e_call D_read_end q (a_cons (e_sl (e_var 2) (o_some (e_bin o_add (e_var 3) e_int)) (o_some (e_un o_neg e_int))) a_nil)) (p_val (e_call D_read_integer q (a_cons (e_ix o_ix (e_var 2) (e_un o_neg e_int)) a_nil)) p_nil))))
    (ss_cons (s_if (PW.pt (w_or (t_cmp o_is (e_var 4) e_non) (w_or (t_cmp o_is (e_var 5) e_non) (w_or (t_cmp o_is (e_var 6) e_non) (w_one_or (PW.pt (w_and (t_cmp (o_eqX q) (e_ix o_ix (e_var 2) (e_un o_neg e_int)) e_str) (w_one_and (t_cmp (o_eqX q) (e_var 6) e_int)))))))))
    (ss_one (s_ret e_non))
    ss_nil)
    (ss_cons (s_set q.nd (e_tup (a_cons (e_ix o_ix (e_var 4) e_int) (a_cons (e_ix o_ix (e_var 5) e_int) (a_cons (e_if (t_cmp (o_eqX q) (e_ix o_ix (e_var 2) (e_un o_neg e_int)) e_str) (e_var 6) (e_un o_neg (e_var 6))) a_nil)))))
    (ss_one (s_ret (e_if (t_val (e_call D_is_fact q (a_cons (e_var 0) (a_cons (e_var 7) a_nil)))) (e_var 7) e_non)))))))))
abbrev N_read_jobs : List Str := ["line", "words", "jobs"]
theorem sc_read_jobs : FnScope N_read_jobs ["line"] (defScope s_read_jobs) := ⟨rfl, rfl, rfl, by decide +kernel, rfl, by decide +kernel, by decide +kernel⟩
def st_read_jobs_0 : M Fl :=
    (mAsg 1 (mVal (mSplit (mVar 0) (mC (.str " ")))))
def st_read_jobs_1 : M Fl :=
    (mAsg 2 (mIf (mAnd (mTest (mBin eqX (mCB lenD (mCons (mVar 1) mNil)) (mC (.int 2)))) (mTest (mBin eqX (mBin ixD (mVar 1) (mC (.int 0))) (mC (.str "jobs"))))) (mCall m_read_integer (mCons (mBin ixD (mVar 1) (mC (.int 1))) mNil)) (mC .non)))
def st_read_jobs_2 : M Fl :=
    (mRet (mIf (mAnd (mTest (mBin notND (mVar 2) (mC .non))) (mTest (mChain leD leD (mC (.int 1)) (mVar 2) (mC (.int 8))))) (mVar 2) (mC .non)))
def b_read_jobs : M Fl :=
    (mSeq st_read_jobs_0
    (mSeq st_read_jobs_1
    st_read_jobs_2))
def m_read_jobs : MF := fnM 3 (b_read_jobs)
theorem ok_read_jobs {f : Addr} {fd : FuncData} (F : FunD K "read_jobs" "read_jobs" (defArgs s_read_jobs) (defBody s_read_jobs) (defScope s_read_jobs) [] [] f fd) (gx : mg "read_jobs" = some (.ref f)) (T : Tx w K mg) (D_read_integer : Def gp P w K mg base "read_integer" ["text"] 1 m_read_integer) : Def gp P w K mg base "read_jobs" ["line"] 2 m_read_jobs := by
  refine def_mk F gx sc_read_jobs (fun _ _ _ _ _ _ us hl => match us, hl with | [_], _ => rfl) fun cdv A outer s H E q po => ?_
  show PSs _ _ (lS K mg _ b_read_jobs)
  exact (ss_cons (s_set q.nd (e_val (f_split (e_var 0) e_str)))
    (ss_cons (s_set q.nd (e_if (PW.pt (w_and (t_cmp (o_eqX q) (e_callB c_len T.b_len (by decide +kernel) (a_cons (e_var 1) a_nil)) e_int) (w_one_and (t_cmp (o_eqX q) (e_ix o_ix (e_var 1) e_int) e_str)))) (e_call D_read_integer q (a_cons (e_ix o_ix (e_var 1) e_int) a_nil)) e_non))
    (ss_one (s_ret (e_if (PW.pt (w_and (t_cmp o_isnot (e_var 2) e_non) (w_one_and (t_chain o_le o_le e_int (e_var 2) (e_glo T.c_MOST_JOBS))))) (e_var 2) e_non)))))
abbrev N_lines_of : List Str := ["text", "lines"]
theorem sc_lines_of : FnScope N_lines_of ["text"] (defScope s_lines_of) := ⟨rfl, rfl, rfl, by decide +kernel, rfl, by decide +kernel, by decide +kernel⟩
def st_lines_of_0 : M Fl :=
    (mAsg 1 (mVal (mSplit (mVar 0) (mC (.str "\n")))))
def st_lines_of_1 : M Fl :=
    (mRet (mTup (mCons (mSl (mVar 1) mNoP (mPart (mUn negD (mC (.int 1))))) (mCons (mBin ixD (mVar 1) (mUn negD (mC (.int 1)))) mNil))))
def b_lines_of : M Fl :=
    (mSeq st_lines_of_0
    st_lines_of_1)
def m_lines_of : MF := fnM 2 (b_lines_of)
theorem ok_lines_of {f : Addr} {fd : FuncData} (F : FunD K "lines_of" "lines_of" (defArgs s_lines_of) (defBody s_lines_of) (defScope s_lines_of) [] [] f fd) (gx : mg "lines_of" = some (.ref f)) (T : Tx w K mg) : Def gp P w K mg base "lines_of" ["text"] 1 m_lines_of := by
  refine def_mk F gx sc_lines_of (fun _ _ _ _ _ _ us hl => match us, hl with | [_], _ => rfl) fun cdv A outer s H E q po => ?_
  show PSs _ _ (lS K mg _ b_lines_of)
  exact (ss_cons (s_set q.nd (e_val (f_split (e_var 0) e_str)))
    (ss_one (s_ret (e_tup (a_cons (e_sl (e_var 1) o_none (o_some (e_un o_neg e_int))) (a_cons (e_ix o_ix (e_var 1) (e_un o_neg e_int)) a_nil))))))
abbrev N_parse_book : List Str := ["text", "lines", "rest", "jobs", "facts", "index", "line", "found"]
theorem sc_parse_book : FnScope N_parse_book ["text"] (defScope s_parse_book) := ⟨rfl, rfl, rfl, by decide +kernel, rfl, by decide +kernel, by decide +kernel⟩
def st_parse_book_0 : M Fl :=
    (mAsgG (mCall m_lines_of (mCons (mVar 0) mNil)) (gTp 2 (gCn (gN 1) (gCn (gN 2) gNl))))
def st_parse_book_1 : M Fl :=
    (mPar [3, 4] (mPv (mC .non) (mPo (mLst mNil) mPn)))
def lb_parse_book_0 : M Fl :=
    (mSeq (mAsg 7 (mIf (mTest (mBin eqX (mVar 5) (mC (.int 0)))) (mCall m_read_jobs (mCons (mVar 6) mNil)) (mCall m_read_fact (mCons (mVar 3) (mCons (mVar 6) mNil)))))
    (mSeq (mIf (mOr (mTest (mBin isND (mVar 7) (mC .non))) (mTest (mBin gtD (mVar 5) (mC (.int 40)))))
    (mRaise "ParseError" "line" (mVar 5))
    mNx)
    (mIf (mTest (mBin eqX (mVar 5) (mC (.int 0))))
    (mAsg 3 (mVar 7))
    (mDrop (mAppO 4 (mVar 7))))))
def st_parse_book_2 : M Fl :=
    (mFor (mEnum (mCons (mVar 1) mNil)) (gTp 2 (gCn (gN 5) (gCn (gN 6) gNl)))
    lb_parse_book_0)
def st_parse_book_3 : M Fl :=
    (mIf (mOr (mTest (mBin eqX (mVar 1) (mVal (mLst mNil)))) (mTest (mBin neD (mVar 2) (mC (.str "")))))
    (mRaise "ParseError" "line" (mCB lenD (mCons (mVar 1) mNil)))
    mNx)
def st_parse_book_4 : M Fl :=
    (mRet (mTup (mCons (mVar 3) (mCons (mCB tupD (mCons (mVar 4) mNil)) mNil))))
def b_parse_book : M Fl :=
    (mSeq st_parse_book_0
    (mSeq st_parse_book_1
    (mSeq st_parse_book_2
    (mSeq (mFrz 4) (mSeq st_parse_book_3
    st_parse_book_4)))))
def m_parse_book : MF := fnM 8 (b_parse_book)
theorem ok_parse_book {f : Addr} {fd : FuncData} (F : FunD K "parse_book" "parse_book" (defArgs s_parse_book) (defBody s_parse_book) (defScope s_parse_book) [] [] f fd) (gx : mg "parse_book" = some (.ref f)) (T : Tx w K mg) (D_lines_of : Def gp P w K mg base "lines_of" ["text"] 1 m_lines_of) (D_read_jobs : Def gp P w K mg base "read_jobs" ["line"] 2 m_read_jobs) (D_read_fact : Def gp P w K mg base "read_fact" ["jobs", "line"] 5 m_read_fact) (X_ParseError : XCl P w K mg base "ParseError" "line" (He.ga K "ParseError") "ValueError") : Def gp P w K mg base "parse_book" ["text"] 6 m_parse_book := by
  refine def_mk F gx sc_parse_book (fun _ _ _ _ _ _ us hl => match us, hl with | [_], _ => rfl) fun cdv A outer s H E q po => ?_
  show PSs _ _ (lS K mg _ b_parse_book)
  exact (ss_cons (s_asg (e_call D_lines_of q (a_cons (e_var 0) a_nil)) (g_tup q.cm (gs_cons (g_name q.nd) (gs_cons (g_name q.nd) (gs_nil (tg := []))))))
    (ss_cons (s_par2 q.cm q.nd (p_val e_non (p_own (f_lst a_nil) p_nil)))
    (ss_cons (s_for po q.cm (i_enum T.b_enumerate (a_cons (e_var 1) a_nil)) (g_tup q.cm (gs_cons (g_name q.nd) (gs_cons (g_name q.nd) (gs_nil (tg := [])))))
    (ss_cons (s_set q.nd (e_if (t_cmp (o_eqX q) (e_var 5) e_int) (e_call D_read_jobs q (a_cons (e_var 6) a_nil)) (e_call D_read_fact q (a_cons (e_var 3) (a_cons (e_var 6) a_nil)))))
    (ss_cons (s_if (PW.pt (w_or (t_cmp o_is (e_var 7) e_non) (w_one_or (t_cmp o_gt (e_var 5) (e_glo T.c_MOST_FACTS)))))
    (ss_one (s_raise X_ParseError q (e_var 5)))
    ss_nil)
    (ss_one (s_if (t_cmp (o_eqX q) (e_var 5) e_int)
    (ss_one (s_set q.nd (e_var 7)))
    (ss_one (s_expr (e_appO (i := 4) (e_var 7)))))))))
    (s_frz (i := 4) (ss_cons (s_if (PW.pt (w_or (t_cmp (o_eqX q) (e_var 1) (e_val (f_lst a_nil))) (w_one_or (t_cmp (o_ne q) (e_var 2) e_str))))
    (ss_one (s_raise X_ParseError q (e_callB c_len T.b_len (by decide +kernel) (a_cons (e_var 1) a_nil))))
    ss_nil)
    (ss_one (s_ret (e_tup (a_cons (e_var 3) (a_cons (e_callTy c_tup T.b_tuple (by decide +kernel) (a_cons (e_var 4) a_nil)) a_nil))))))))))
abbrev N_law_pen : List Str := ["_law_script"]
theorem sc_law_pen : FnScope N_law_pen ["_law_script"] (defScope s_law_pen) := ⟨rfl, rfl, rfl, by decide +kernel, rfl, by decide +kernel, by decide +kernel⟩
def st_law_pen_0 : M Fl :=
    (mRet (mMat (mLst (mCons (mVal (mListOf (mCons (mSl (mVar 0) mNoP (mPart (mC (.int 63)))) mNil))) (mCons (mC (.int 0)) (mCons (mC (.int 0)) mNil))))))
def b_law_pen : M Fl :=
    st_law_pen_0
def m_law_pen : MF := fnM 1 (b_law_pen)
theorem ok_law_pen {f : Addr} {fd : FuncData} (F : FunD K "_law_pen" "_law_pen" (defArgs s_law_pen) (defBody s_law_pen) (defScope s_law_pen) [] [] f fd) (gx : mg "_law_pen" = some (.ref f)) (T : Tx w K mg) : Def gp P w K mg base "_law_pen" ["_law_script"] 1 m_law_pen := by
  refine def_mk F gx sc_law_pen (fun _ _ _ _ _ _ us hl => match us, hl with | [_], _ => rfl) fun cdv A outer s H E q po => ?_
  show PSs _ _ (lS K mg _ b_law_pen)
  exact (ss_one (s_ret (e_mat (f_lst (a_cons (e_val (f_list T.b_list (a_cons (e_sl (e_var 0) o_none (o_some e_int)) a_nil))) (a_cons e_int (a_cons e_int a_nil)))))))
abbrev N_law_fresh : List Str := ["_law_pen_here", "_law_seat", "_law_given", "_law_cell", "_law_prime", "_law_state", "_law_found", "_law_lap"]
theorem sc_law_fresh : FnScope N_law_fresh ["_law_pen_here"] (defScope s_law_fresh) := ⟨rfl, rfl, rfl, by decide +kernel, rfl, by decide +kernel, by decide +kernel⟩
def st_law_fresh_0 : M Fl :=
    (mPar [1, 2] (mPv (mBin ixD (mVar 0) (mC (.int 1))) (mPv (mBin ixD (mVar 0) (mC (.int 0))) mPn)))
def st_law_fresh_1 : M Fl :=
    (mSetR (mVar 0) (mC (.int 1)) (mBin addD (mVar 1) (mC (.int 1))))
def st_law_fresh_2 : M Fl :=
    (mAsg 3 (mIf (mTest (mBin neD (mVar 2) (mVal (mLst mNil)))) (mBin ixD (mVar 2) (mBin modD (mCB intD (mCons (mVar 1) mNil)) (mCB lenD (mCons (mVar 2) mNil)))) (mC (.int 0))))
def st_law_fresh_3 : M Fl :=
    (mIf (mAnd (mTest (mBin ltD (mVar 1) (mCB lenD (mCons (mVar 2) mNil)))) (mTest (mBin geD (mVar 3) (mBin powD (mC (.int 10)) (mC (.int 18))))))
    (mRet (mBin subD (mVar 3) (mBin powD (mC (.int 10)) (mC (.int 18)))))
    mNx)
def st_law_fresh_4 : M Fl :=
    (mAsg 4 (mC (.int 2305843009213693951)))
def st_law_fresh_5 : M Fl :=
    (mAsg 5 (mBin modD (mCB intD (mCons (mBin addD (mBin addD (mBin mulD (mVar 3) (mC (.int 48271))) (mBin mulD (mC (.int 60013)) (mVar 1))) (mC (.int 31))) mNil)) (mVar 4)))
def st_law_fresh_6 : M Fl :=
    (mAsg 6 (mVar 5))
def lb_law_fresh_0 : M Fl :=
    (mSeq (mAsg 5 (mBin modD (mCB intD (mCons (mBin addD (mBin addD (mBin mulD (mVar 5) (mVar 5)) (mBin mulD (mBin mulD (mC (.int 70139)) (mBin addD (mVar 7) (mC (.int 5)))) (mBin addD (mVar 1) (mC (.int 1))))) (mVar 3)) mNil)) (mVar 4)))
    (mAsg 6 (mBin addD (mBin mulD (mVar 6) (mVar 4)) (mVar 5))))
def st_law_fresh_7 : M Fl :=
    (mFor (mRg1 (mCons (mC (.int 6)) mNil)) (gN 7)
    lb_law_fresh_0)
def st_law_fresh_8 : M Fl :=
    (mRet (mVar 6))
def b_law_fresh : M Fl :=
    (mSeq st_law_fresh_0
    (mSeq st_law_fresh_1
    (mSeq st_law_fresh_2
    (mSeq st_law_fresh_3
    (mSeq st_law_fresh_4
    (mSeq st_law_fresh_5
    (mSeq st_law_fresh_6
    (mSeq st_law_fresh_7
    st_law_fresh_8))))))))
def m_law_fresh : MF := fnM 8 (b_law_fresh)
theorem ok_law_fresh {f : Addr} {fd : FuncData} (F : FunD K "_law_fresh" "_law_fresh" (defArgs s_law_fresh) (defBody s_law_fresh) (defScope s_law_fresh) [] [] f fd) (gx : mg "_law_fresh" = some (.ref f)) (T : Tx w K mg) : Def gp P w K mg base "_law_fresh" ["_law_pen_here"] 1 m_law_fresh := by
  refine def_mk F gx sc_law_fresh (fun _ _ _ _ _ _ us hl => match us, hl with | [_], _ => rfl) fun cdv A outer s H E q po => ?_
  show PSs _ _ (lS K mg _ b_law_fresh)
  exact (ss_cons (s_par2 q.cm q.nd (p_val (e_ix o_ix (e_var 0) e_int) (p_val (e_ix o_ix (e_var 0) e_int) p_nil)))
    (ss_cons (s_setR (e_bin o_add (e_var 1) e_int) (e_var 0) e_int)
    (ss_cons (s_set q.nd (e_if (t_cmp (o_ne q) (e_var 2) (e_val (f_lst a_nil))) (e_ix o_ix (e_var 2) (e_bin o_mod (e_callTy c_int T.b_int (by decide +kernel) (a_cons (e_var 1) a_nil)) (e_callB c_len T.b_len (by decide +kernel) (a_cons (e_var 2) a_nil)))) e_int))
    (ss_cons (s_if (PW.pt (w_and (t_cmp o_lt (e_var 1) (e_callB c_len T.b_len (by decide +kernel) (a_cons (e_var 2) a_nil))) (w_one_and (t_cmp o_ge (e_var 3) (e_bin o_pow e_int e_int)))))
    (ss_one (s_ret (e_bin o_sub (e_var 3) (e_bin o_pow e_int e_int))))
    ss_nil)
    (ss_cons (s_set q.nd e_int)
    (ss_cons (s_set q.nd (e_bin o_mod (e_callTy c_int T.b_int (by decide +kernel) (a_cons (e_bin o_add (e_bin o_add (e_bin o_mul (e_var 3) e_int) (e_bin o_mul e_int (e_var 1))) e_int) a_nil)) (e_var 4)))
    (ss_cons (s_set q.nd (e_var 5))
    (ss_cons (s_for po q.cm (i_rg1 T.b_range (a_cons e_int a_nil)) (g_name q.nd)
    (ss_cons (s_set q.nd (e_bin o_mod (e_callTy c_int T.b_int (by decide +kernel) (a_cons (e_bin o_add (e_bin o_add (e_bin o_mul (e_var 5) (e_var 5)) (e_bin o_mul (e_bin o_mul e_int (e_bin o_add (e_var 7) e_int)) (e_bin o_add (e_var 1) e_int))) (e_var 3)) a_nil)) (e_var 4)))
    (ss_one (s_set q.nd (e_bin o_add (e_bin o_mul (e_var 6) (e_var 4)) (e_var 5))))))
    (ss_one (s_ret (e_var 6)))))))))))
abbrev N_law_draw : List Str := ["_law_pen_here", "_law_bound", "_law_digit"]
theorem sc_law_draw : FnScope N_law_draw ["_law_pen_here", "_law_bound"] (defScope s_law_draw) := ⟨rfl, rfl, rfl, by decide +kernel, rfl, by decide +kernel, by decide +kernel⟩
def st_law_draw_0 : M Fl :=
    (mIf (mTest (mBin ltD (mBin ixD (mVar 0) (mC (.int 2))) (mVar 1)))
    (mSetR (mVar 0) (mC (.int 2)) (mCall m_law_fresh (mCons (mVar 0) mNil)))
    mNx)
def st_law_draw_1 : M Fl :=
    (mAsg 2 (mBin modD (mCB intD (mCons (mBin ixD (mVar 0) (mC (.int 2))) mNil)) (mVar 1)))
def st_law_draw_2 : M Fl :=
    (mSetR (mVar 0) (mC (.int 2)) (mBin fdvD (mCB intD (mCons (mBin ixD (mVar 0) (mC (.int 2))) mNil)) (mVar 1)))
def st_law_draw_3 : M Fl :=
    (mRet (mVar 2))
def b_law_draw : M Fl :=
    (mSeq st_law_draw_0
    (mSeq st_law_draw_1
    (mSeq st_law_draw_2
    st_law_draw_3)))
def m_law_draw : MF := fnM 3 (b_law_draw)
theorem ok_law_draw {f : Addr} {fd : FuncData} (F : FunD K "_law_draw" "_law_draw" (defArgs s_law_draw) (defBody s_law_draw) (defScope s_law_draw) [] [] f fd) (gx : mg "_law_draw" = some (.ref f)) (T : Tx w K mg) (D_law_fresh : Def gp P w K mg base "_law_fresh" ["_law_pen_here"] 1 m_law_fresh) : Def gp P w K mg base "_law_draw" ["_law_pen_here", "_law_bound"] 2 m_law_draw := by
  refine def_mk F gx sc_law_draw (fun _ _ _ _ _ _ us hl => match us, hl with | [_, _], _ => rfl) fun cdv A outer s H E q po => ?_
  show PSs _ _ (lS K mg _ b_law_draw)
  exact (ss_cons (s_if (t_cmp o_lt (e_ix o_ix (e_var 0) e_int) (e_var 1))
    (ss_one (s_setR (e_call D_law_fresh q (a_cons (e_var 0) a_nil)) (e_var 0) e_int))
    ss_nil)
    (ss_cons (s_set q.nd (e_bin o_mod (e_callTy c_int T.b_int (by decide +kernel) (a_cons (e_ix o_ix (e_var 0) e_int) a_nil)) (e_var 1)))
    (ss_cons (s_setR (e_bin o_fdv (e_callTy c_int T.b_int (by decide +kernel) (a_cons (e_ix o_ix (e_var 0) e_int) a_nil)) (e_var 1)) (e_var 0) e_int)
    (ss_one (s_ret (e_var 2))))))
abbrev N_law_one_of : List Str := ["_law_pen_here", "_law_some"]
theorem sc_law_one_of : FnScope N_law_one_of ["_law_pen_here", "_law_some"] (defScope s_law_one_of) := ⟨rfl, rfl, rfl, by decide +kernel, rfl, by decide +kernel, by decide +kernel⟩
def st_law_one_of_0 : M Fl :=
    (mRet (mBin ixD (mVar 1) (mCall m_law_draw (mCons (mVar 0) (mCons (mCB lenD (mCons (mVar 1) mNil)) mNil)))))
def b_law_one_of : M Fl :=
    st_law_one_of_0
def m_law_one_of : MF := fnM 2 (b_law_one_of)
theorem ok_law_one_of {f : Addr} {fd : FuncData} (F : FunD K "_law_one_of" "_law_one_of" (defArgs s_law_one_of) (defBody s_law_one_of) (defScope s_law_one_of) [] [] f fd) (gx : mg "_law_one_of" = some (.ref f)) (T : Tx w K mg) (D_law_draw : Def gp P w K mg base "_law_draw" ["_law_pen_here", "_law_bound"] 2 m_law_draw) : Def gp P w K mg base "_law_one_of" ["_law_pen_here", "_law_some"] 3 m_law_one_of := by
  refine def_mk F gx sc_law_one_of (fun _ _ _ _ _ _ us hl => match us, hl with | [_, _], _ => rfl) fun cdv A outer s H E q po => ?_
  show PSs _ _ (lS K mg _ b_law_one_of)
  exact (ss_one (s_ret (e_ix o_ix (e_var 1) (e_call D_law_draw q (a_cons (e_var 0) (a_cons (e_callB c_len T.b_len (by decide +kernel) (a_cons (e_var 1) a_nil)) a_nil))))))
abbrev N_law_times : List Str := ["_law_pen_here", "_law_jobs", "_law_top", "_law_numbers", "_law_time"]
theorem sc_law_times : FnScope N_law_times ["_law_pen_here", "_law_jobs"] (defScope s_law_times) := ⟨rfl, rfl, rfl, by decide +kernel, rfl, by decide +kernel, by decide +kernel⟩
def st_law_times_0 : M Fl :=
    (mAsg 2 (mCall m_law_one_of (mCons (mVar 0) (mCons (mVal (mLst (mCons (mC (.int 2)) (mCons (mC (.int 3)) (mCons (mC (.int 6)) (mCons (mC (.int 12)) (mCons (mC (.int 100)) (mCons (mBin powD (mC (.int 10)) (mC (.int 11))) mNil)))))))) mNil))))
def ce_law_times_0 : M D :=
    (mCall m_law_draw (mCons (mVar 0) (mCons (mBin addD (mVar 2) (mC (.int 1))) mNil)))
def st_law_times_1 : M Fl :=
    (mAsg 3 (mCB tupD (mCons (mVal (mComp (mRg1 (mCons (mBin mulD (mC (.int 3)) (mVar 1)) mNil)) [4] (gN 4) mYes ce_law_times_0)) mNil)))
def st_law_times_2 : M Fl :=
    (mRet (mTup (mCons (mVar 3) (mCons (mCall m_law_one_of (mCons (mVar 0) (mCons (mVal (mLst (mCons (mC (.int 1)) (mCons (mC (.int 1)) (mCons (mC (.int 1)) (mCons (mC (.int 2)) (mCons (mC (.int 3)) (mCons (mC (.int 10)) mNil)))))))) mNil))) mNil))))
def b_law_times : M Fl :=
    (mSeq st_law_times_0
    (mSeq st_law_times_1
    st_law_times_2))
def m_law_times : MF := fnM 5 (b_law_times)
theorem ok_law_times {f : Addr} {fd : FuncData} (F : FunD K "_law_times" "_law_times" (defArgs s_law_times) (defBody s_law_times) (defScope s_law_times) [] [] f fd) (gx : mg "_law_times" = some (.ref f)) (T : Tx w K mg) (D_law_one_of : Def gp P w K mg base "_law_one_of" ["_law_pen_here", "_law_some"] 3 m_law_one_of) (D_law_draw : Def gp P w K mg base "_law_draw" ["_law_pen_here", "_law_bound"] 2 m_law_draw) : Def gp P w K mg base "_law_times" ["_law_pen_here", "_law_jobs"] 4 m_law_times := by
  refine def_mk F gx sc_law_times (fun _ _ _ _ _ _ us hl => match us, hl with | [_, _], _ => rfl) fun cdv A outer s H E q po => ?_
  show PSs _ _ (lS K mg _ b_law_times)
  exact (ss_cons (s_set q.nd (e_call D_law_one_of q (a_cons (e_var 0) (a_cons (e_val (f_lst (a_cons e_int (a_cons e_int (a_cons e_int (a_cons e_int (a_cons e_int (a_cons (e_bin o_pow e_int e_int) a_nil)))))))) a_nil))))
    (ss_cons (s_set q.nd (e_callTy c_tup T.b_tuple (by decide +kernel) (a_cons (e_val (f_comp (own := [("_law_time", 4)]) q.cm q.nd (i_rg1 T.b_range (a_cons (e_bin o_mul e_int (e_var 1)) a_nil)) (blkOk_by (own := [("_law_time", 4)]) (N := N_law_times) (sc := defScope s_law_times) (by decide +kernel)) (fun _ _ _ _ _ => (g_name q.blk.nd)) (fun _ _ _ _ _ => ts_nil) (fun _ _ _ _ _ => (e_call D_law_draw q.blk (a_cons (e_var 0) (a_cons (e_bin o_add (e_var 2) e_int) a_nil)))))) a_nil)))
    (ss_one (s_ret (e_tup (a_cons (e_var 3) (a_cons (e_call D_law_one_of q (a_cons (e_var 0) (a_cons (e_val (f_lst (a_cons e_int (a_cons e_int (a_cons e_int (a_cons e_int (a_cons e_int (a_cons e_int a_nil)))))))) a_nil))) a_nil)))))))
abbrev N_law_number : List Str := ["_law_times_here", "_law_end"]
theorem sc_law_number : FnScope N_law_number ["_law_times_here", "_law_end"] (defScope s_law_number) := ⟨rfl, rfl, rfl, by decide +kernel, rfl, by decide +kernel, by decide +kernel⟩
def st_law_number_0 : M Fl :=
    (mRet (mIf (mTest (mBin isND (mVar 1) (mC .non))) (mC (.int 0)) (mBin ixD (mBin ixD (mVar 0) (mC (.int 0))) (mVar 1))))
def b_law_number : M Fl :=
    st_law_number_0
def m_law_number : MF := fnM 2 (b_law_number)
theorem ok_law_number {f : Addr} {fd : FuncData} (F : FunD K "_law_number" "_law_number" (defArgs s_law_number) (defBody s_law_number) (defScope s_law_number) [] [] f fd) (gx : mg "_law_number" = some (.ref f)) (T : Tx w K mg) : Def gp P w K mg base "_law_number" ["_law_times_here", "_law_end"] 1 m_law_number := by
  refine def_mk F gx sc_law_number (fun _ _ _ _ _ _ us hl => match us, hl with | [_, _], _ => rfl) fun cdv A outer s H E q po => ?_
  show PSs _ _ (lS K mg _ b_law_number)
  exact (ss_one (s_ret (e_if (t_cmp o_is (e_var 1) e_non) e_int (e_ix o_ix (e_ix o_ix (e_var 0) e_int) (e_var 1)))))
abbrev N_law_two_ends : List Str := ["_law_pen_here", "_law_jobs", "_law_some", "_law_one", "_law_end"]
theorem sc_law_two_ends : FnScope N_law_two_ends ["_law_pen_here", "_law_jobs"] (defScope s_law_two_ends) := ⟨rfl, rfl, rfl, by decide +kernel, rfl, by decide +kernel, by decide +kernel⟩
def st_law_two_ends_0 : M Fl :=
    (mAsg 2 (mVal (mCat (mVal (mLst (mCons (mC .non) mNil))) (mVal (mListRg1 (mBin mulD (mC (.int 3)) (mVar 1)))))))
def st_law_two_ends_1 : M Fl :=
    (mAsg 3 (mCall m_law_one_of (mCons (mVar 0) (mCons (mBin addD (mVar 2) (mSl (mVar 2) (mPart (mC (.int 1))) mNoP)) mNil))))
def ct_law_two_ends_0 : M Bool :=
    (mTest (mBin neD (mVar 4) (mVar 3)))
def ce_law_two_ends_0 : M D :=
    (mVar 4)
def st_law_two_ends_2 : M Fl :=
    (mRet (mTup (mCons (mVar 3) (mCons (mCall m_law_one_of (mCons (mVar 0) (mCons (mVal (mComp (mIter (mVar 2)) [4] (gN 4) ct_law_two_ends_0 ce_law_two_ends_0)) mNil))) mNil))))
def b_law_two_ends : M Fl :=
    (mSeq st_law_two_ends_0
    (mSeq st_law_two_ends_1
    st_law_two_ends_2))
def m_law_two_ends : MF := fnM 5 (b_law_two_ends)
theorem ok_law_two_ends {f : Addr} {fd : FuncData} (F : FunD K "_law_two_ends" "_law_two_ends" (defArgs s_law_two_ends) (defBody s_law_two_ends) (defScope s_law_two_ends) [] [] f fd) (gx : mg "_law_two_ends" = some (.ref f)) (T : Tx w K mg) (D_law_one_of : Def gp P w K mg base "_law_one_of" ["_law_pen_here", "_law_some"] 3 m_law_one_of) : Def gp P w K mg base "_law_two_ends" ["_law_pen_here", "_law_jobs"] 4 m_law_two_ends := by
  refine def_mk F gx sc_law_two_ends (fun _ _ _ _ _ _ us hl => match us, hl with | [_, _], _ => rfl) fun cdv A outer s H E q po => ?_
  show PSs _ _ (lS K mg _ b_law_two_ends)
  exact (ss_cons (s_set q.nd (e_val (f_cat (e_val (f_lst (a_cons e_non a_nil))) (e_val (f_listRg1 q.cm T.b_list T.b_range (e_bin o_mul e_int (e_var 1)))))))
    (ss_cons (s_set q.nd (e_call D_law_one_of q (a_cons (e_var 0) (a_cons (e_bin o_add (e_var 2) (e_sl (e_var 2) (o_some e_int) o_none)) a_nil))))
    (ss_one (s_ret (e_tup (a_cons (e_var 3) (a_cons (e_call D_law_one_of q (a_cons (e_var 0) (a_cons (e_val (f_comp (own := [("_law_end", 4)]) q.cm q.nd (i_seq (e_var 2)) (blkOk_by (own := [("_law_end", 4)]) (N := N_law_two_ends) (sc := defScope s_law_two_ends) (by decide +kernel)) (fun _ _ _ _ _ => (g_name q.blk.nd)) (fun _ _ _ _ _ => (ts_one (t_cmp (o_ne q.blk) (e_var 4) (e_var 3)))) (fun _ _ _ _ _ => (e_var 4)))) a_nil))) a_nil)))))))
abbrev N_law_true_fact : List Str := ["_law_pen_here", "_law_jobs", "_law_times_here", "_law_x", "_law_y", "_law_far", "_law_least"]
theorem sc_law_true_fact : FnScope N_law_true_fact ["_law_pen_here", "_law_jobs", "_law_times_here"] (defScope s_law_true_fact) := ⟨rfl, rfl, rfl, by decide +kernel, rfl, by decide +kernel, by decide +kernel⟩
def st_law_true_fact_0 : M Fl :=
    (mAsgG (mCall m_law_two_ends (mCons (mVar 0) (mCons (mVar 1) mNil))) (gTp 2 (gCn (gN 3) (gCn (gN 4) gNl))))
def st_law_true_fact_1 : M Fl :=
    (mAsg 5 (mBin subD (mCall m_law_number (mCons (mVar 2) (mCons (mVar 3) mNil))) (mCall m_law_number (mCons (mVar 2) (mCons (mVar 4) mNil)))))
def st_law_true_fact_2 : M Fl :=
    (mAsg 6 (mUn negD (mBin fdvD (mCB intD (mCons (mUn negD (mVar 5)) mNil)) (mBin ixD (mVar 2) (mC (.int 1))))))
def st_law_true_fact_3 : M Fl :=
    (mRet (mTup (mCons (mVar 3) (mCons (mVar 4) (mCons (mBin addD (mVar 6) (mCall m_law_one_of (mCons (mVar 0) (mCons (mVal (mLst (mCons (mC (.int 0)) (mCons (mC (.int 0)) (mCons (mC (.int 0)) (mCons (mC (.int 1)) (mCons (mC (.int 2)) (mCons (mC (.int 5)) (mCons (mC (.int 40)) mNil))))))))) mNil)))) mNil)))))
def b_law_true_fact : M Fl :=
    (mSeq st_law_true_fact_0
    (mSeq st_law_true_fact_1
    (mSeq st_law_true_fact_2
    st_law_true_fact_3)))
def m_law_true_fact : MF := fnM 7 (b_law_true_fact)
theorem ok_law_true_fact {f : Addr} {fd : FuncData} (F : FunD K "_law_true_fact" "_law_true_fact" (defArgs s_law_true_fact) (defBody s_law_true_fact) (defScope s_law_true_fact) [] [] f fd) (gx : mg "_law_true_fact" = some (.ref f)) (T : Tx w K mg) (D_law_two_ends : Def gp P w K mg base "_law_two_ends" ["_law_pen_here", "_law_jobs"] 4 m_law_two_ends) (D_law_number : Def gp P w K mg base "_law_number" ["_law_times_here", "_law_end"] 1 m_law_number) (D_law_one_of : Def gp P w K mg base "_law_one_of" ["_law_pen_here", "_law_some"] 3 m_law_one_of) : Def gp P w K mg base "_law_true_fact" ["_law_pen_here", "_law_jobs", "_law_times_here"] 5 m_law_true_fact := by
  refine def_mk F gx sc_law_true_fact (fun _ _ _ _ _ _ us hl => match us, hl with | [_, _, _], _ => rfl) fun cdv A outer s H E q po => ?_
  show PSs _ _ (lS K mg _ b_law_true_fact)
  exact (ss_cons (s_asg (e_call D_law_two_ends q (a_cons (e_var 0) (a_cons (e_var 1) a_nil))) (g_tup q.cm (gs_cons (g_name q.nd) (gs_cons (g_name q.nd) (gs_nil (tg := []))))))
    (ss_cons (s_set q.nd (e_bin o_sub (e_call D_law_number q (a_cons (e_var 2) (a_cons (e_var 3) a_nil))) (e_call D_law_number q (a_cons (e_var 2) (a_cons (e_var 4) a_nil)))))
    (ss_cons (s_set q.nd (e_un o_neg (e_bin o_fdv (e_callTy c_int T.b_int (by decide +kernel) (a_cons (e_un o_neg (e_var 5)) a_nil)) (e_ix o_ix (e_var 2) e_int))))
    (ss_one (s_ret (e_tup (a_cons (e_var 3) (a_cons (e_var 4) (a_cons (e_bin o_add (e_var 6) (e_call D_law_one_of q (a_cons (e_var 0) (a_cons (e_val (f_lst (a_cons e_int (a_cons e_int (a_cons e_int (a_cons e_int (a_cons e_int (a_cons e_int (a_cons e_int a_nil))))))))) a_nil)))) a_nil)))))))))
abbrev N_law_book : List Str := ["_law_pen_here", "_law_jobs", "_law_most", "_law_times_here", "_law_facts", "_law_lap"]
theorem sc_law_book : FnScope N_law_book ["_law_pen_here", "_law_jobs", "_law_most"] (defScope s_law_book) := ⟨rfl, rfl, rfl, by decide +kernel, rfl, by decide +kernel, by decide +kernel⟩
def st_law_book_0 : M Fl :=
    (mAsg 3 (mCall m_law_times (mCons (mVar 0) (mCons (mVar 1) mNil))))
def ce_law_book_0 : M D :=
    (mCall m_law_true_fact (mCons (mVar 0) (mCons (mVar 1) (mCons (mVar 3) mNil))))
def st_law_book_1 : M Fl :=
    (mAsg 4 (mVal (mComp (mRg1 (mCons (mCall m_law_draw (mCons (mVar 0) (mCons (mBin addD (mVar 2) (mC (.int 1))) mNil))) mNil)) [5] (gN 5) mYes ce_law_book_0)))
def st_law_book_2 : M Fl :=
    (mRet (mTup (mCons (mTup (mCons (mVar 1) (mCons (mCB tupD (mCons (mVar 4) mNil)) mNil))) (mCons (mVar 3) mNil))))
def b_law_book : M Fl :=
    (mSeq st_law_book_0
    (mSeq st_law_book_1
    st_law_book_2))
def m_law_book : MF := fnM 6 (b_law_book)
theorem ok_law_book {f : Addr} {fd : FuncData} (F : FunD K "_law_book" "_law_book" (defArgs s_law_book) (defBody s_law_book) (defScope s_law_book) [] [] f fd) (gx : mg "_law_book" = some (.ref f)) (T : Tx w K mg) (D_law_times : Def gp P w K mg base "_law_times" ["_law_pen_here", "_law_jobs"] 4 m_law_times) (D_law_draw : Def gp P w K mg base "_law_draw" ["_law_pen_here", "_law_bound"] 2 m_law_draw) (D_law_true_fact : Def gp P w K mg base "_law_true_fact" ["_law_pen_here", "_law_jobs", "_law_times_here"] 5 m_law_true_fact) : Def gp P w K mg base "_law_book" ["_law_pen_here", "_law_jobs", "_law_most"] 6 m_law_book := by
  refine def_mk F gx sc_law_book (fun _ _ _ _ _ _ us hl => match us, hl with | [_, _, _], _ => rfl) fun cdv A outer s H E q po => ?_
  show PSs _ _ (lS K mg _ b_law_book)
  exact (ss_cons (s_set q.nd (e_call D_law_times q (a_cons (e_var 0) (a_cons (e_var 1) a_nil))))
    (ss_cons (s_setCV (own := [("_law_lap", 5)]) q.cm q.nd (sw_true rfl rfl rfl (by decide +kernel)) (i_rg1 T.b_range (a_cons (e_call D_law_draw q (a_cons (e_var 0) (a_cons (e_bin o_add (e_var 2) e_int) a_nil))) a_nil)) (blkOk_by (own := [("_law_lap", 5)]) (N := N_law_book) (sc := defScope s_law_book) (by decide +kernel)) (fun _ _ _ _ _ => (g_name q.blk.nd)) (fun _ _ _ _ _ => ts_nil) (fun _ _ _ _ _ => (e_call D_law_true_fact q.blk (a_cons (e_var 0) (a_cons (e_var 1) (a_cons (e_var 3) a_nil))))))
    (ss_one (s_ret (e_tup (a_cons (e_tup (a_cons (e_var 1) (a_cons (e_callTy c_tup T.b_tuple (by decide +kernel) (a_cons (e_var 4) a_nil)) a_nil))) (a_cons (e_var 3) a_nil)))))))
abbrev N_law_any_book : List Str := ["_law_pen_here", "_law_jobs", "_law_most", "_law_book_here", "_law_times_here", "_law_facts", "_law_lap", "_law_x", "_law_y"]
theorem sc_law_any_book : FnScope N_law_any_book ["_law_pen_here", "_law_jobs", "_law_most"] (defScope s_law_any_book) := ⟨rfl, rfl, rfl, by decide +kernel, rfl, by decide +kernel, by decide +kernel⟩
def st_law_any_book_0 : M Fl :=
    (mAsgG (mCall m_law_book (mCons (mVar 0) (mCons (mVar 1) (mCons (mVar 2) mNil)))) (gTp 2 (gCn (gN 3) (gCn (gN 4) gNl))))
def st_law_any_book_1 : M Fl :=
    (mOwn 5 (mListOf (mCons (mBin ixD (mVar 3) (mC (.int 1))) mNil)))
def lb_law_any_book_0 : M Fl :=
    (mSeq (mAsgG (mCall m_law_two_ends (mCons (mVar 0) (mCons (mVar 1) mNil))) (gTp 2 (gCn (gN 7) (gCn (gN 8) gNl))))
    (mDrop (mAppO 5 (mTup (mCons (mVar 7) (mCons (mVar 8) (mCons (mBin subD (mCall m_law_draw (mCons (mVar 0) (mCons (mC (.int 12)) mNil))) (mC (.int 8))) mNil)))))))
def st_law_any_book_2 : M Fl :=
    (mFor (mRg1 (mCons (mCall m_law_draw (mCons (mVar 0) (mCons (mC (.int 3)) mNil))) mNil)) (gN 6)
    lb_law_any_book_0)
def st_law_any_book_3 : M Fl :=
    (mRet (mTup (mCons (mVar 1) (mCons (mCB tupD (mCons (mSl (mVar 5) mNoP (mPart (mC (.int 40)))) mNil)) mNil))))
def b_law_any_book : M Fl :=
    (mSeq st_law_any_book_0
    (mSeq st_law_any_book_1
    (mSeq st_law_any_book_2
    (mSeq (mFrz 5) st_law_any_book_3))))
def m_law_any_book : MF := fnM 9 (b_law_any_book)
theorem ok_law_any_book {f : Addr} {fd : FuncData} (F : FunD K "_law_any_book" "_law_any_book" (defArgs s_law_any_book) (defBody s_law_any_book) (defScope s_law_any_book) [] [] f fd) (gx : mg "_law_any_book" = some (.ref f)) (T : Tx w K mg) (D_law_book : Def gp P w K mg base "_law_book" ["_law_pen_here", "_law_jobs", "_law_most"] 6 m_law_book) (D_law_draw : Def gp P w K mg base "_law_draw" ["_law_pen_here", "_law_bound"] 2 m_law_draw) (D_law_two_ends : Def gp P w K mg base "_law_two_ends" ["_law_pen_here", "_law_jobs"] 4 m_law_two_ends) : Def gp P w K mg base "_law_any_book" ["_law_pen_here", "_law_jobs", "_law_most"] 7 m_law_any_book := by
  refine def_mk F gx sc_law_any_book (fun _ _ _ _ _ _ us hl => match us, hl with | [_, _, _], _ => rfl) fun cdv A outer s H E q po => ?_
  show PSs _ _ (lS K mg _ b_law_any_book)
  exact (ss_cons (s_asg (e_call D_law_book q (a_cons (e_var 0) (a_cons (e_var 1) (a_cons (e_var 2) a_nil)))) (g_tup q.cm (gs_cons (g_name q.nd) (gs_cons (g_name q.nd) (gs_nil (tg := []))))))
    (ss_cons (s_own q.nd (f_list T.b_list (a_cons (e_ix o_ix (e_var 3) e_int) a_nil)))
    (ss_cons (s_for po q.cm (i_rg1 T.b_range (a_cons (e_call D_law_draw q (a_cons (e_var 0) (a_cons e_int a_nil))) a_nil)) (g_name q.nd)
    (ss_cons (s_asg (e_call D_law_two_ends q (a_cons (e_var 0) (a_cons (e_var 1) a_nil))) (g_tup q.cm (gs_cons (g_name q.nd) (gs_cons (g_name q.nd) (gs_nil (tg := []))))))
    (ss_one (s_expr (e_appO (i := 5) (e_tup (a_cons (e_var 7) (a_cons (e_var 8) (a_cons (e_bin o_sub (e_call D_law_draw q (a_cons (e_var 0) (a_cons e_int a_nil))) e_int) a_nil)))))))))
    (s_frz (i := 5) (ss_one (s_ret (e_tup (a_cons (e_var 1) (a_cons (e_callTy c_tup T.b_tuple (by decide +kernel) (a_cons (e_sl (e_var 5) o_none (o_some e_int)) a_nil)) a_nil)))))))))
abbrev N_law_end_text : List Str := ["_law_end"]
theorem sc_law_end_text : FnScope N_law_end_text ["_law_end"] (defScope s_law_end_text) := ⟨rfl, rfl, rfl, by decide +kernel, rfl, by decide +kernel, by decide +kernel⟩
def st_law_end_text_0 : M Fl :=
    (mRet (mIf (mTest (mBin isND (mVar 0) (mC .non))) (mC (.str "ground")) (mBin addD (mBin ixD (mVal (mLst (mCons (mC (.str "first ")) (mCons (mC (.str "rest ")) (mCons (mC (.str "second ")) mNil))))) (mBin modD (mCB intD (mCons (mVar 0) mNil)) (mC (.int 3)))) (mCB strD (mCons (mBin fdvD (mVar 0) (mC (.int 3))) mNil)))))
def b_law_end_text : M Fl :=
    st_law_end_text_0
def m_law_end_text : MF := fnM 1 (b_law_end_text)
theorem ok_law_end_text {f : Addr} {fd : FuncData} (F : FunD K "_law_end_text" "_law_end_text" (defArgs s_law_end_text) (defBody s_law_end_text) (defScope s_law_end_text) [] [] f fd) (gx : mg "_law_end_text" = some (.ref f)) (T : Tx w K mg) : Def gp P w K mg base "_law_end_text" ["_law_end"] 1 m_law_end_text := by
  refine def_mk F gx sc_law_end_text (fun _ _ _ _ _ _ us hl => match us, hl with | [_], _ => rfl) fun cdv A outer s H E q po => ?_
  show PSs _ _ (lS K mg _ b_law_end_text)
  exact (ss_one (s_ret (e_if (t_cmp o_is (e_var 0) e_non) e_str (e_bin o_add (e_ix o_ix (e_val (f_lst (a_cons e_str (a_cons e_str (a_cons e_str a_nil))))) (e_bin o_mod (e_callTy c_int T.b_int (by decide +kernel) (a_cons (e_var 0) a_nil)) e_int)) (e_callTy c_str T.b_str (by decide +kernel) (a_cons (e_bin o_fdv (e_var 0) e_int) a_nil))))))
abbrev N_law_book_text : List Str := ["_law_book_here", "_law_found", "_law_x", "_law_y", "_law_far", "_law_sign", "_law_ends"]
theorem sc_law_book_text : FnScope N_law_book_text ["_law_book_here"] (defScope s_law_book_text) := ⟨rfl, rfl, rfl, by decide +kernel, rfl, by decide +kernel, by decide +kernel⟩
def st_law_book_text_0 : M Fl :=
    (mAsg 1 (mBin addD (mBin addD (mC (.str "jobs ")) (mCB strD (mCons (mBin ixD (mVar 0) (mC (.int 0))) mNil))) (mC (.str "\n"))))
def lb_law_book_text_0 : M Fl :=
    (mSeq (mAsg 5 (mIf (mTest (mBin geD (mVar 4) (mC (.int 0)))) (mC (.str " + ")) (mC (.str " - "))))
    (mSeq (mAsg 6 (mBin addD (mBin addD (mCall m_law_end_text (mCons (mVar 2) mNil)) (mC (.str " <= "))) (mCall m_law_end_text (mCons (mVar 3) mNil))))
    (mAsg 1 (mBin addD (mBin addD (mBin addD (mBin addD (mVar 1) (mVar 6)) (mVar 5)) (mCB strD (mCons (mCB absD (mCons (mVar 4) mNil)) mNil))) (mC (.str "\n"))))))
def st_law_book_text_1 : M Fl :=
    (mFor (mIter (mBin ixD (mVar 0) (mC (.int 1)))) (gTp 3 (gCn (gN 2) (gCn (gN 3) (gCn (gN 4) gNl))))
    lb_law_book_text_0)
def st_law_book_text_2 : M Fl :=
    (mRet (mVar 1))
def b_law_book_text : M Fl :=
    (mSeq st_law_book_text_0
    (mSeq st_law_book_text_1
    st_law_book_text_2))
def m_law_book_text : MF := fnM 7 (b_law_book_text)
theorem ok_law_book_text {f : Addr} {fd : FuncData} (F : FunD K "_law_book_text" "_law_book_text" (defArgs s_law_book_text) (defBody s_law_book_text) (defScope s_law_book_text) [] [] f fd) (gx : mg "_law_book_text" = some (.ref f)) (T : Tx w K mg) (D_law_end_text : Def gp P w K mg base "_law_end_text" ["_law_end"] 1 m_law_end_text) : Def gp P w K mg base "_law_book_text" ["_law_book_here"] 2 m_law_book_text := by
  refine def_mk F gx sc_law_book_text (fun _ _ _ _ _ _ us hl => match us, hl with | [_], _ => rfl) fun cdv A outer s H E q po => ?_
  show PSs _ _ (lS K mg _ b_law_book_text)
  exact (ss_cons (s_set q.nd (e_bin o_add (e_bin o_add e_str (e_callTy c_str T.b_str (by decide +kernel) (a_cons (e_ix o_ix (e_var 0) e_int) a_nil))) e_str))
    (ss_cons (s_for po q.cm (i_seq (e_ix o_ix (e_var 0) e_int)) (g_tup q.cm (gs_cons (g_name q.nd) (gs_cons (g_name q.nd) (gs_cons (g_name q.nd) (gs_nil (tg := []))))))
    (ss_cons (s_set q.nd (e_if (t_cmp o_ge (e_var 4) e_int) e_str e_str))
    (ss_cons (s_set q.nd (e_bin o_add (e_bin o_add (e_call D_law_end_text q (a_cons (e_var 2) a_nil)) e_str) (e_call D_law_end_text q (a_cons (e_var 3) a_nil))))
    (ss_one (s_set q.nd (e_bin o_add (e_bin o_add (e_bin o_add (e_bin o_add (e_var 1) (e_var 6)) (e_var 5)) (e_callTy c_str T.b_str (by decide +kernel) (a_cons (e_callB c_abs T.b_abs (by decide +kernel) (a_cons (e_var 4) a_nil)) a_nil))) e_str))))))
    (ss_one (s_ret (e_var 1)))))
abbrev N_law_figures : List Str := ["_law_text", "_law_sign"]
theorem sc_law_figures : FnScope N_law_figures ["_law_text"] (defScope s_law_figures) := ⟨rfl, rfl, rfl, by decide +kernel, rfl, by decide +kernel, by decide +kernel⟩
def ct_law_figures_0 : M Bool :=
    (mTest (mBin ninT (mVar 1) (mC (.str "0123456789"))))
def ce_law_figures_0 : M D :=
    (mVar 1)
def st_law_figures_0 : M Fl :=
    (mIf (mOr (mTest (mBin eqX (mVar 0) (mC (.str "")))) (mTest (mBin neD (mVal (mComp (mIterT (mVar 0)) [1] (gN 1) ct_law_figures_0 ce_law_figures_0)) (mVal (mLst mNil)))))
    (mRet (mC (.bl false)))
    mNx)
def st_law_figures_1 : M Fl :=
    (mRet (mOrV (mBin eqX (mVar 0) (mC (.str "0"))) (mBin neD (mBin ixT (mVar 0) (mC (.int 0))) (mC (.str "0")))))
def b_law_figures : M Fl :=
    (mSeq st_law_figures_0
    st_law_figures_1)
def m_law_figures : MF := fnM 2 (b_law_figures)
theorem ok_law_figures {f : Addr} {fd : FuncData} (F : FunD K "_law_figures" "_law_figures" (defArgs s_law_figures) (defBody s_law_figures) (defScope s_law_figures) [] [] f fd) (gx : mg "_law_figures" = some (.ref f)) (T : Tx w K mg) : Def gp P w K mg base "_law_figures" ["_law_text"] 1 m_law_figures := by
  refine def_mk F gx sc_law_figures (fun _ _ _ _ _ _ us hl => match us, hl with | [_], _ => rfl) fun cdv A outer s H E q po => ?_
  show PSs _ _ (lS K mg _ b_law_figures)
  exact (ss_cons (s_if (PW.pt (w_or (t_cmp (o_eqX q) (e_var 0) e_str) (w_one_or (t_cmp (o_ne q) (e_val (f_comp (own := [("_law_sign", 1)]) q.cm q.nd (i_txt (e_var 0)) (blkOk_by (own := [("_law_sign", 1)]) (N := N_law_figures) (sc := defScope s_law_figures) (by decide +kernel)) (fun _ _ _ _ _ => (g_name q.blk.nd)) (fun _ _ _ _ _ => (ts_one (t_cmp (o_ninT q.blk) (e_var 1) e_str))) (fun _ _ _ _ _ => (e_var 1)))) (e_val (f_lst a_nil))))))
    (ss_one (s_ret e_bl))
    ss_nil)
    (ss_one (s_ret (e_or (e_cmp (o_eqX q) (e_var 0) e_str) (e_one (e_cmp (o_ne q) (e_ix o_ixT (e_var 0) e_int) e_str))))))
abbrev N_law_read_end : List Str := ["_law_jobs", "_law_text", "_law_part", "_law_word", "_law_job"]
theorem sc_law_read_end : FnScope N_law_read_end ["_law_jobs", "_law_text"] (defScope s_law_read_end) := ⟨rfl, rfl, rfl, by decide +kernel, rfl, by decide +kernel, by decide +kernel⟩
def st_law_read_end_0 : M Fl :=
    (mIf (mTest (mBin eqX (mVar 1) (mC (.str "ground"))))
    (mRet (mVal (mLst (mCons (mC .non) mNil))))
    mNx)
def lb_law_read_end_0 : M Fl :=
    (mIf (mAnd (mTest (mBin eqX (mSlT (mVar 1) mNoP (mPart (mCB lenD (mCons (mVar 3) mNil)))) (mVar 3))) (mAnd (mTest (mCall m_law_figures (mCons (mSlT (mVar 1) (mPart (mCB lenD (mCons (mVar 3) mNil))) mNoP) mNil))) (mTest (mBin ltD (mCB lenD (mCons (mVar 1) mNil)) (mC (.int 12))))))
    (mSeq (mAsg 4 (mCB intT (mCons (mSlT (mVar 1) (mPart (mCB lenD (mCons (mVar 3) mNil))) mNoP) mNil)))
    (mRet (mIf (mTest (mBin ltD (mVar 4) (mVar 0))) (mVal (mLst (mCons (mBin addD (mBin mulD (mC (.int 3)) (mVar 4)) (mVar 2)) mNil))) (mVal (mLst mNil)))))
    mNx)
def st_law_read_end_1 : M Fl :=
    (mFor (mEnum (mCons (mVal (mLst (mCons (mC (.str "first ")) (mCons (mC (.str "rest ")) (mCons (mC (.str "second ")) mNil))))) mNil)) (gTp 2 (gCn (gN 2) (gCn (gN 3) gNl)))
    lb_law_read_end_0)
def st_law_read_end_2 : M Fl :=
    (mRet (mVal (mLst mNil)))
def b_law_read_end : M Fl :=
    (mSeq st_law_read_end_0
    (mSeq st_law_read_end_1
    st_law_read_end_2))
def m_law_read_end : MF := fnM 5 (b_law_read_end)
theorem ok_law_read_end {f : Addr} {fd : FuncData} (F : FunD K "_law_read_end" "_law_read_end" (defArgs s_law_read_end) (defBody s_law_read_end) (defScope s_law_read_end) [] [] f fd) (gx : mg "_law_read_end" = some (.ref f)) (T : Tx w K mg) (D_law_figures : Def gp P w K mg base "_law_figures" ["_law_text"] 1 m_law_figures) : Def gp P w K mg base "_law_read_end" ["_law_jobs", "_law_text"] 2 m_law_read_end := by
  refine def_mk F gx sc_law_read_end (fun _ _ _ _ _ _ us hl => match us, hl with | [_, _], _ => rfl) fun cdv A outer s H E q po => ?_
  show PSs _ _ (lS K mg _ b_law_read_end)
  exact (ss_cons (s_if (t_cmp (o_eqX q) (e_var 1) e_str)
    (ss_one (s_ret (e_val (f_lst (a_cons e_non a_nil)))))
    ss_nil)
    (ss_cons (s_for po q.cm (i_enum T.b_enumerate (a_cons (e_val (f_lst (a_cons e_str (a_cons e_str (a_cons e_str a_nil))))) a_nil)) (g_tup q.cm (gs_cons (g_name q.nd) (gs_cons (g_name q.nd) (gs_nil (tg := [])))))
    (ss_one (s_if (PW.pt (w_and (t_cmp (o_eqX q) (e_slT (e_var 1) o_none (o_some (e_callB c_len T.b_len (by decide +kernel) (a_cons (e_var 3) a_nil)))) (e_var 3)) (w_and (t_val (e_call D_law_figures q (a_cons (e_slT (e_var 1) (o_some (e_callB c_len T.b_len (by decide +kernel) (a_cons (e_var 3) a_nil))) o_none) a_nil))) (w_one_and (t_cmp o_lt (e_callB c_len T.b_len (by decide +kernel) (a_cons (e_var 1) a_nil)) e_int)))))
    (ss_cons (s_set q.nd (e_callTy c_intT T.b_int (by decide +kernel) (a_cons (e_slT (e_var 1) (o_some (e_callB c_len T.b_len (by decide +kernel) (a_cons (e_var 3) a_nil))) o_none) a_nil)))
    (ss_one (s_ret (e_if (t_cmp o_lt (e_var 4) (e_var 0)) (e_val (f_lst (a_cons (e_bin o_add (e_bin o_mul e_int (e_var 4)) (e_var 2)) a_nil))) (e_val (f_lst a_nil))))))
    ss_nil)))
    (ss_one (s_ret (e_val (f_lst a_nil))))))
abbrev N_law_read_fact : List Str := ["_law_jobs", "_law_line", "_law_sign", "_law_times_here", "_law_parts", "_law_last", "_law_figures_here", "_law_x", "_law_y", "_law_far"]
theorem sc_law_read_fact : FnScope N_law_read_fact ["_law_jobs", "_law_line"] (defScope s_law_read_fact) := ⟨rfl, rfl, rfl, by decide +kernel, rfl, by decide +kernel, by decide +kernel⟩
def lb_law_read_fact_0 : M Fl :=
    (mSeq (mAsg 4 (mVal (mSplit (mVar 1) (mC (.str " <= ")))))
    (mIf (mAnd (mTest (mBin eqX (mCB lenD (mCons (mVar 4) mNil)) (mC (.int 2)))) (mTest (mBin eqX (mCB lenD (mCons (mVal (mSplit (mBin ixD (mVar 4) (mC (.int 1))) (mVar 2))) mNil)) (mC (.int 2)))))
    (mSeq (mAsgG (mVal (mSplit (mBin ixD (mVar 4) (mC (.int 1))) (mVar 2))) (gTl 2 (gCn (gN 5) (gCn (gN 6) gNl))))
    (mSeq (mPar [7, 8] (mPv (mCall m_law_read_end (mCons (mVar 0) (mCons (mBin ixD (mVar 4) (mC (.int 0))) mNil))) (mPv (mCall m_law_read_end (mCons (mVar 0) (mCons (mVar 5) mNil))) mPn)))
    (mIf (mAnd (mTest (mBin neX (mVar 7) (mVal (mLst mNil)))) (mAnd (mTest (mBin neX (mVar 8) (mVal (mLst mNil)))) (mAnd (mTest (mBin neX (mVar 7) (mVar 8))) (mAnd (mTest (mCall m_law_figures (mCons (mVar 6) mNil))) (mTest (mBin ltD (mCB lenD (mCons (mVar 6) mNil)) (mC (.int 14))))))))
    (mSeq (mAsg 9 (mCB intT (mCons (mVar 6) mNil)))
    (mIf (mAnd (mTest (mBin leD (mVar 9) (mBin powD (mC (.int 10)) (mC (.int 12))))) (mOr (mTest (mBin gtD (mVar 9) (mC (.int 0)))) (mTest (mBin gtD (mVar 3) (mC (.int 0))))))
    (mRet (mVal (mLst (mCons (mTup (mCons (mBin ixD (mVar 7) (mC (.int 0))) (mCons (mBin ixD (mVar 8) (mC (.int 0))) (mCons (mBin mulD (mVar 9) (mVar 3)) mNil)))) mNil))))
    mNx))
    mNx)))
    mNx))
def st_law_read_fact_0 : M Fl :=
    (mFor (mIter (mTup (mCons (mTup (mCons (mC (.str " + ")) (mCons (mC (.int 1)) mNil))) (mCons (mTup (mCons (mC (.str " - ")) (mCons (mUn negD (mC (.int 1))) mNil))) mNil)))) (gTp 2 (gCn (gN 2) (gCn (gN 3) gNl)))
    lb_law_read_fact_0)
def st_law_read_fact_1 : M Fl :=
    (mRet (mVal (mLst mNil)))
def b_law_read_fact : M Fl :=
    (mSeq st_law_read_fact_0
    st_law_read_fact_1)
def m_law_read_fact : MF := fnM 10 (b_law_read_fact)
theorem ok_law_read_fact {f : Addr} {fd : FuncData} (F : FunD K "_law_read_fact" "_law_read_fact" (defArgs s_law_read_fact) (defBody s_law_read_fact) (defScope s_law_read_fact) [] [] f fd) (gx : mg "_law_read_fact" = some (.ref f)) (T : Tx w K mg) (D_law_read_end : Def gp P w K mg base "_law_read_end" ["_law_jobs", "_law_text"] 2 m_law_read_end) (D_law_figures : Def gp P w K mg base "_law_figures" ["_law_text"] 1 m_law_figures) : Def gp P w K mg base "_law_read_fact" ["_law_jobs", "_law_line"] 3 m_law_read_fact := by
  refine def_mk F gx sc_law_read_fact (fun _ _ _ _ _ _ us hl => match us, hl with | [_, _], _ => rfl) fun cdv A outer s H E q po => ?_
  show PSs _ _ (lS K mg _ b_law_read_fact)
  exact (ss_cons (s_for po q.cm (i_seq (e_tup (a_cons (e_tup (a_cons e_str (a_cons e_int a_nil))) (a_cons (e_tup (a_cons e_str (a_cons (e_un o_neg e_int) a_nil))) a_nil)))) (g_tup q.cm (gs_cons (g_name q.nd) (gs_cons (g_name q.nd) (gs_nil (tg := [])))))
    (ss_cons (s_set q.nd (e_val (f_split (e_var 1) e_str)))
    (ss_one (s_if (PW.pt (w_and (t_cmp (o_eqX q) (e_callB c_len T.b_len (by decide +kernel) (a_cons (e_var 4) a_nil)) e_int) (w_one_and (t_cmp (o_eqX q) (e_callB c_len T.b_len (by decide +kernel) (a_cons (e_val (f_split (e_ix o_ix (e_var 4) e_int) (e_var 2))) a_nil)) e_int))))
    (ss_cons (s_asg (e_val (f_split (e_ix o_ix (e_var 4) e_int) (e_var 2))) (g_lst q.cm (gs_cons (g_name q.nd) (gs_cons (g_name q.nd) (gs_nil (tg := []))))))
    (ss_cons (s_par2 q.cm q.nd (p_val (e_call D_law_read_end q (a_cons (e_var 0) (a_cons (e_ix o_ix (e_var 4) e_int) a_nil))) (p_val (e_call D_law_read_end q (a_cons (e_var 0) (a_cons (e_var 5) a_nil))) p_nil)))
    (ss_one (s_if (PW.pt (w_and (t_cmp (o_neX q) (e_var 7) (e_val (f_lst a_nil))) (w_and (t_cmp (o_neX q) (e_var 8) (e_val (f_lst a_nil))) (w_and (t_cmp (o_neX q) (e_var 7) (e_var 8)) (w_and (t_val (e_call D_law_figures q (a_cons (e_var 6) a_nil))) (w_one_and (t_cmp o_lt (e_callB c_len T.b_len (by decide +kernel) (a_cons (e_var 6) a_nil)) e_int)))))))
    (ss_cons (s_set q.nd (e_callTy c_intT T.b_int (by decide +kernel) (a_cons (e_var 6) a_nil)))
    (ss_one (s_if (PW.pt (w_and (t_cmp o_le (e_var 9) (e_bin o_pow e_int e_int)) (w_one_and (PW.pt (w_or (t_cmp o_gt (e_var 9) e_int) (w_one_or (t_cmp o_gt (e_var 3) e_int)))))))
    (ss_one (s_ret (e_val (f_lst (a_cons (e_tup (a_cons (e_ix o_ix (e_var 7) e_int) (a_cons (e_ix o_ix (e_var 8) e_int) (a_cons (e_bin o_mul (e_var 9) (e_var 3)) a_nil)))) a_nil)))))
    ss_nil)))
    ss_nil))))
    ss_nil))))
    (ss_one (s_ret (e_val (f_lst a_nil)))))
abbrev N_law_read_book : List Str := ["_law_text", "_law_lines", "_law_facts", "_law_heads", "_law_at", "_law_line", "_law_found", "_law_jobs"]
theorem sc_law_read_book : FnScope N_law_read_book ["_law_text"] (defScope s_law_read_book) := ⟨rfl, rfl, rfl, by decide +kernel, rfl, by decide +kernel, by decide +kernel⟩
def st_law_read_book_0 : M Fl :=
    (mPar [1, 2] (mPv (mVal (mSplit (mVar 0) (mC (.str "\n")))) (mPo (mLst mNil) mPn)))
def ce_law_read_book_0 : M D :=
    (mBin addD (mC (.str "jobs ")) (mCB strD (mCons (mVar 7) mNil)))
def st_law_read_book_1 : M Fl :=
    (mAsg 3 (mVal (mComp (mRg2 (mCons (mC (.int 1)) (mCons (mC (.int 9)) mNil))) [7] (gN 7) mYes ce_law_read_book_0)))
def lb_law_read_book_0 : M Fl :=
    (mSeq (mIf (mAnd (mTest (mBin eqX (mVar 4) (mC (.int 0)))) (mTest (mBin ninX (mVar 5) (mVar 3))))
    (mRet (mTup (mCons (mC (.str "line")) (mCons (mC (.int 0)) mNil))))
    mNx)
    (mIf (mTest (mBin gtD (mVar 4) (mC (.int 0))))
    (mSeq (mAsg 6 (mCall m_law_read_fact (mCons (mBin addD (mTixL (mVar 3) (mCons (mBin ixD (mVar 1) (mC (.int 0))) mNil)) (mC (.int 1))) (mCons (mVar 5) mNil))))
    (mSeq (mIf (mOr (mTest (mBin eqX (mVar 6) (mVal (mLst mNil)))) (mTest (mBin gtD (mVar 4) (mC (.int 40)))))
    (mRet (mTup (mCons (mC (.str "line")) (mCons (mVar 4) mNil))))
    mNx)
    (mDrop (mExtO 2 (mVar 6)))))
    mNx))
def st_law_read_book_2 : M Fl :=
    (mFor (mEnum (mCons (mSl (mVar 1) mNoP (mPart (mUn negD (mC (.int 1))))) mNil)) (gTp 2 (gCn (gN 4) (gCn (gN 5) gNl)))
    lb_law_read_book_0)
def st_law_read_book_3 : M Fl :=
    (mIf (mOr (mTest (mBin eqX (mCB lenD (mCons (mVar 1) mNil)) (mC (.int 1)))) (mTest (mBin neX (mBin ixD (mVar 1) (mUn negD (mC (.int 1)))) (mC (.str "")))))
    (mRet (mTup (mCons (mC (.str "line")) (mCons (mBin subD (mCB lenD (mCons (mVar 1) mNil)) (mC (.int 1))) mNil))))
    mNx)
def st_law_read_book_4 : M Fl :=
    (mRet (mTup (mCons (mC (.str "told")) (mCons (mTup (mCons (mBin addD (mTixL (mVar 3) (mCons (mBin ixD (mVar 1) (mC (.int 0))) mNil)) (mC (.int 1))) (mCons (mCB tupD (mCons (mVar 2) mNil)) mNil))) mNil))))
def b_law_read_book : M Fl :=
    (mSeq st_law_read_book_0
    (mSeq st_law_read_book_1
    (mSeq st_law_read_book_2
    (mSeq (mFrz 2) (mSeq st_law_read_book_3
    st_law_read_book_4)))))
def m_law_read_book : MF := fnM 8 (b_law_read_book)
theorem ok_law_read_book {f : Addr} {fd : FuncData} (F : FunD K "_law_read_book" "_law_read_book" (defArgs s_law_read_book) (defBody s_law_read_book) (defScope s_law_read_book) [] [] f fd) (gx : mg "_law_read_book" = some (.ref f)) (T : Tx w K mg) (D_law_read_fact : Def gp P w K mg base "_law_read_fact" ["_law_jobs", "_law_line"] 3 m_law_read_fact) : Def gp P w K mg base "_law_read_book" ["_law_text"] 4 m_law_read_book := by
  refine def_mk F gx sc_law_read_book (fun _ _ _ _ _ _ us hl => match us, hl with | [_], _ => rfl) fun cdv A outer s H E q po => ?_
  show PSs _ _ (lS K mg _ b_law_read_book)
  exact (ss_cons (s_par2 q.cm q.nd (p_val (e_val (f_split (e_var 0) e_str)) (p_own (f_lst a_nil) p_nil)))
    (ss_cons (s_setCV (own := [("_law_jobs", 7)]) q.cm q.nd (sw_true rfl rfl rfl (by decide +kernel)) (i_rg2 T.b_range (a_cons e_int (a_cons e_int a_nil))) (blkOk_by (own := [("_law_jobs", 7)]) (N := N_law_read_book) (sc := defScope s_law_read_book) (by decide +kernel)) (fun _ _ _ _ _ => (g_name q.blk.nd)) (fun _ _ _ _ _ => ts_nil) (fun _ _ _ _ _ => (e_bin o_add e_str (e_callTy c_str T.b_str (by decide +kernel) (a_cons (e_var 7) a_nil)))))
    (ss_cons (s_for po q.cm (i_enum T.b_enumerate (a_cons (e_sl (e_var 1) o_none (o_some (e_un o_neg e_int))) a_nil)) (g_tup q.cm (gs_cons (g_name q.nd) (gs_cons (g_name q.nd) (gs_nil (tg := [])))))
    (ss_cons (s_if (PW.pt (w_and (t_cmp (o_eqX q) (e_var 4) e_int) (w_one_and (t_cmp (o_ninX q) (e_var 5) (e_var 3)))))
    (ss_one (s_ret (e_tup (a_cons e_str (a_cons e_int a_nil)))))
    ss_nil)
    (ss_one (s_if (t_cmp o_gt (e_var 4) e_int)
    (ss_cons (s_set q.nd (e_call D_law_read_fact q (a_cons (e_bin o_add (e_tixL (e_var 3) (a_cons (e_ix o_ix (e_var 1) e_int) a_nil)) e_int) (a_cons (e_var 5) a_nil))))
    (ss_cons (s_if (PW.pt (w_or (t_cmp (o_eqX q) (e_var 6) (e_val (f_lst a_nil))) (w_one_or (t_cmp o_gt (e_var 4) e_int))))
    (ss_one (s_ret (e_tup (a_cons e_str (a_cons (e_var 4) a_nil)))))
    ss_nil)
    (ss_one (s_expr (e_extO (i := 2) (e_var 6))))))
    ss_nil))))
    (s_frz (i := 2) (ss_cons (s_if (PW.pt (w_or (t_cmp (o_eqX q) (e_callB c_len T.b_len (by decide +kernel) (a_cons (e_var 1) a_nil)) e_int) (w_one_or (t_cmp (o_neX q) (e_ix o_ix (e_var 1) (e_un o_neg e_int)) e_str))))
    (ss_one (s_ret (e_tup (a_cons e_str (a_cons (e_bin o_sub (e_callB c_len T.b_len (by decide +kernel) (a_cons (e_var 1) a_nil)) e_int) a_nil)))))
    ss_nil)
    (ss_one (s_ret (e_tup (a_cons e_str (a_cons (e_tup (a_cons (e_bin o_add (e_tixL (e_var 3) (a_cons (e_ix o_ix (e_var 1) e_int) a_nil)) e_int) (a_cons (e_callTy c_tup T.b_tuple (by decide +kernel) (a_cons (e_var 2) a_nil)) a_nil))) a_nil))))))))))
abbrev N_law_told : List Str := ["_law_text", "_law_found", "e"]
theorem sc_law_told : FnScope N_law_told ["_law_text"] (defScope s_law_told) := ⟨rfl, rfl, rfl, by decide +kernel, rfl, by decide +kernel, by decide +kernel⟩
def su_law_told_0 : List (Str × D) → M Fl :=
    fun fs => (mRet (mTup (mCons (mC (.str "line")) (mCons (mFld fs "line") mNil))))
def st_law_told_0 : M Fl :=
    (mTry [] "ParseError" 2
    (mAsg 1 (mCall m_parse_book (mCons (mVar 0) mNil)))
    su_law_told_0)
def st_law_told_1 : M Fl :=
    (mRet (mTup (mCons (mC (.str "told")) (mCons (mVar 1) mNil))))
def b_law_told : M Fl :=
    (mSeq st_law_told_0
    st_law_told_1)
def m_law_told : MF := fnM 3 (b_law_told)
theorem ok_law_told {f : Addr} {fd : FuncData} (F : FunD K "_law_told" "_law_told" (defArgs s_law_told) (defBody s_law_told) (defScope s_law_told) [] [] f fd) (gx : mg "_law_told" = some (.ref f)) (T : Tx w K mg) (D_parse_book : Def gp P w K mg base "parse_book" ["text"] 6 m_parse_book) (X_ParseError : XCl P w K mg base "ParseError" "line" (He.ga K "ParseError") "ValueError") (A_ParseError : Away K mg "ParseError" []) : Def gp P w K mg base "_law_told" ["_law_text"] 7 m_law_told := by
  refine def_mk F gx sc_law_told (fun _ _ _ _ _ _ us hl => match us, hl with | [_], _ => rfl) fun cdv A outer s H E q po => ?_
  show PSs _ _ (lS K mg _ b_law_told)
  exact (ss_cons (s_tryN (i := 2) q X_ParseError.at_ A_ParseError (fun W' pn xe q po => (ss_one (s_set q.nd (e_call D_parse_book q (a_cons (e_var 0) a_nil)))))
    (fun a oe cls d pn hz hf => (xss_one (xs_ret (mf := fun fs => (mTup (mCons (mC (.str "line")) (mCons (mFld fs "line") mNil)))) fun fs => (x_tup (xa_cons (x_of e_str) (xa_cons (x_fld (i := 2) X_ParseError hz.zc hf) xa_nil)))))))
    (ss_one (s_ret (e_tup (a_cons e_str (a_cons (e_var 1) a_nil))))))
abbrev N_law_marred : List Str := ["_law_pen_here", "_law_text", "_law_lines", "_law_option", "_law_at", "_law_other", "_law_parts", "_law_spot", "_law_some", "_law_word"]
theorem sc_law_marred : FnScope N_law_marred ["_law_pen_here", "_law_text"] (defScope s_law_marred) := ⟨rfl, rfl, rfl, by decide +kernel, rfl, by decide +kernel, by decide +kernel⟩
def st_law_marred_0 : M Fl :=
    (mPar [2, 3] (mPo (mSplit (mVar 1) (mC (.str "\n"))) (mPv (mCall m_law_draw (mCons (mVar 0) (mCons (mC (.int 9)) mNil))) mPn)))
def st_law_marred_1 : M Fl :=
    (mPar [4, 5] (mPv (mCall m_law_draw (mCons (mVar 0) (mCons (mLenO 2) mNil))) (mPv (mCall m_law_draw (mCons (mVar 0) (mCons (mLenO 2) mNil))) mPn)))
def st_law_marred_2 : M Fl :=
    (mIf (mTest (mBin eqX (mVar 3) (mC (.int 0))))
    (mSeq (mFrz 2) (mRet (mJoin (mC (.str "\n")) (mBin addD (mSl (mVar 2) mNoP (mPart (mVar 4))) (mSl (mVar 2) (mPart (mBin addD (mVar 4) (mC (.int 1)))) mNoP)))))
    mNx)
def st_law_marred_3 : M Fl :=
    (mIf (mTest (mBin eqX (mVar 3) (mC (.int 1))))
    (mSeq (mFrz 2) (mRet (mJoin (mC (.str "\n")) (mVal (mCat (mVal (mCat (mSl (mVar 2) mNoP (mPart (mVar 4))) (mVal (mLst (mCons (mBin ixD (mVar 2) (mVar 5)) mNil))))) (mSl (mVar 2) (mPart (mVar 4)) mNoP))))))
    mNx)
def st_law_marred_4 : M Fl :=
    (mOwn 6 (mSplit (mIxO 2 (mVar 4)) (mC (.str " "))))
def st_law_marred_5 : M Fl :=
    (mAsg 7 (mCall m_law_draw (mCons (mVar 0) (mCons (mBin addD (mLenO 6) (mC (.int 1))) mNil))))
def st_law_marred_6 : M Fl :=
    (mAsg 8 (mVal (mLst (mCons (mC (.str "first")) (mCons (mC (.str "rest")) (mCons (mC (.str "second")) (mCons (mC (.str "ground")) (mCons (mC (.str "jobs")) (mCons (mC (.str "<=")) (mCons (mC (.str "+")) (mCons (mC (.str "-")) (mCons (mC (.str "0")) (mCons (mC (.str "00")) (mCons (mC (.str "1")) (mCons (mC (.str "2")) (mCons (mC (.str "8")) (mCons (mC (.str "9")) (mCons (mC (.str "")) (mCons (mC (.str "1_0")) mNil)))))))))))))))))))
def st_law_marred_7 : M Fl :=
    (mAsg 8 (mVal (mCat (mVar 8) (mVal (mLst (mCons (mC (.str "=<")) (mCons (mC (.str "First")) (mCons (mC (.str "-0")) (mCons (mC (.str "+1")) (mCons (mC (.str "1000000000000")) (mCons (mC (.str "1000000000001")) (mCons (mC (.str "x")) (mCons (mC (.str "3.0")) mNil)))))))))))))
def st_law_marred_8 : M Fl :=
    (mAsg 8 (mVal (mCat (mVar 8) (mVal (mLst (mCons (mC (.str "Jobs")) (mCons (mC (.str "Ground")) (mCons (mC (.str "Rest")) (mCons (mC (.str "Second")) (mCons (mC (.str "GROUND")) (mCons (mC (.str "first\t0")) (mCons (mC (.str "\t")) (mCons (mC (.str "0\t<=")) mNil)))))))))))))
def st_law_marred_9 : M Fl :=
    (mAsg 9 (mCall m_law_one_of (mCons (mVar 0) (mCons (mVal (mCat (mVar 8) (mVal (mLst (mCons (mC (.str "01")) mNil))))) mNil))))
def st_law_marred_10 : M Fl :=
    (mIf (mOr (mTest (mBin eqX (mVar 3) (mC (.int 2)))) (mTest (mBin eqX (mVar 7) (mLenO 6))))
    (mSeq (mFrz 6) (mOwn 6 (mCat (mVal (mCat (mSl (mVar 6) mNoP (mPart (mVar 7))) (mVal (mLst (mCons (mVar 9) mNil))))) (mSl (mVar 6) (mPart (mVar 7)) mNoP))))
    (mIf (mTest (mBin eqX (mVar 3) (mC (.int 3))))
    (mSeq (mFrz 6) (mOwn 6 (mCat (mSl (mVar 6) mNoP (mPart (mVar 7))) (mSl (mVar 6) (mPart (mBin addD (mVar 7) (mC (.int 1)))) mNoP))))
    (mSetO 6 (mVar 7) (mVar 9))))
def st_law_marred_11 : M Fl :=
    (mSetO 2 (mVar 4) (mJoin (mC (.str " ")) (mVar 6)))
def st_law_marred_12 : M Fl :=
    (mRet (mBin addD (mJoin (mC (.str "\n")) (mVar 2)) (mCall m_law_one_of (mCons (mVar 0) (mCons (mVal (mLst (mCons (mC (.str "")) (mCons (mC (.str "")) (mCons (mC (.str "")) (mCons (mC (.str "\n")) (mCons (mC (.str " ")) (mCons (mC (.str "jobs 1")) (mCons (mC (.str "first 0 <= ground + 1")) mNil))))))))) mNil)))))
def b_law_marred : M Fl :=
    (mSeq st_law_marred_0
    (mSeq st_law_marred_1
    (mSeq st_law_marred_2
    (mSeq st_law_marred_3
    (mSeq st_law_marred_4
    (mSeq st_law_marred_5
    (mSeq st_law_marred_6
    (mSeq st_law_marred_7
    (mSeq st_law_marred_8
    (mSeq st_law_marred_9
    (mSeq st_law_marred_10
    (mSeq (mFrz 6) (mSeq st_law_marred_11
    (mSeq (mFrz 2) st_law_marred_12))))))))))))))
def m_law_marred : MF := fnM 10 (b_law_marred)
theorem ok_law_marred {f : Addr} {fd : FuncData} (F : FunD K "_law_marred" "_law_marred" (defArgs s_law_marred) (defBody s_law_marred) (defScope s_law_marred) [] [] f fd) (gx : mg "_law_marred" = some (.ref f)) (T : Tx w K mg) (D_law_draw : Def gp P w K mg base "_law_draw" ["_law_pen_here", "_law_bound"] 2 m_law_draw) (D_law_one_of : Def gp P w K mg base "_law_one_of" ["_law_pen_here", "_law_some"] 3 m_law_one_of) : Def gp P w K mg base "_law_marred" ["_law_pen_here", "_law_text"] 4 m_law_marred := by
  refine def_mk F gx sc_law_marred (fun _ _ _ _ _ _ us hl => match us, hl with | [_, _], _ => rfl) fun cdv A outer s H E q po => ?_
  show PSs _ _ (lS K mg _ b_law_marred)
  exact (ss_cons (s_par2 q.cm q.nd (p_own (f_split (e_var 1) e_str) (p_val (e_call D_law_draw q (a_cons (e_var 0) (a_cons e_int a_nil))) p_nil)))
    (ss_cons (s_par2 q.cm q.nd (p_val (e_call D_law_draw q (a_cons (e_var 0) (a_cons (e_lenO (i := 2) T.b_len) a_nil))) (p_val (e_call D_law_draw q (a_cons (e_var 0) (a_cons (e_lenO (i := 2) T.b_len) a_nil))) p_nil)))
    (ss_cons (s_if (t_cmp (o_eqX q) (e_var 3) e_int)
    (s_frz (i := 2) (ss_one (s_ret (e_join e_str (e_bin o_add (e_sl (e_var 2) o_none (o_some (e_var 4))) (e_sl (e_var 2) (o_some (e_bin o_add (e_var 4) e_int)) o_none))))))
    ss_nil)
    (ss_cons (s_if (t_cmp (o_eqX q) (e_var 3) e_int)
    (s_frz (i := 2) (ss_one (s_ret (e_join e_str (e_val (f_cat (e_val (f_cat (e_sl (e_var 2) o_none (o_some (e_var 4))) (e_val (f_lst (a_cons (e_ix o_ix (e_var 2) (e_var 5)) a_nil))))) (e_sl (e_var 2) (o_some (e_var 4)) o_none)))))))
    ss_nil)
    (ss_cons (s_own q.nd (f_split (e_ixO (i := 2) (e_var 4)) e_str))
    (ss_cons (s_set q.nd (e_call D_law_draw q (a_cons (e_var 0) (a_cons (e_bin o_add (e_lenO (i := 6) T.b_len) e_int) a_nil))))
    (ss_cons (s_set q.nd (e_val (f_lst (a_cons e_str (a_cons e_str (a_cons e_str (a_cons e_str (a_cons e_str (a_cons e_str (a_cons e_str (a_cons e_str (a_cons e_str (a_cons e_str (a_cons e_str (a_cons e_str (a_cons e_str (a_cons e_str (a_cons e_str (a_cons e_str a_nil)))))))))))))))))))
    (ss_cons (s_set q.nd (e_val (f_cat (e_var 8) (e_val (f_lst (a_cons e_str (a_cons e_str (a_cons e_str (a_cons e_str (a_cons e_str (a_cons e_str (a_cons e_str (a_cons e_str a_nil)))))))))))))
    (ss_cons (s_set q.nd (e_val (f_cat (e_var 8) (e_val (f_lst (a_cons e_str (a_cons e_str (a_cons e_str (a_cons e_str (a_cons e_str (a_cons e_str (a_cons e_str (a_cons e_str a_nil)))))))))))))
    (ss_cons (s_set q.nd (e_call D_law_one_of q (a_cons (e_var 0) (a_cons (e_val (f_cat (e_var 8) (e_val (f_lst (a_cons e_str a_nil))))) a_nil))))
    (ss_cons (s_if (PW.pt (w_or (t_cmp (o_eqX q) (e_var 3) e_int) (w_one_or (t_cmp (o_eqX q) (e_var 7) (e_lenO (i := 6) T.b_len)))))
    (s_frz (i := 6) (ss_one (s_own q.nd (f_cat (e_val (f_cat (e_sl (e_var 6) o_none (o_some (e_var 7))) (e_val (f_lst (a_cons (e_var 9) a_nil))))) (e_sl (e_var 6) (o_some (e_var 7)) o_none)))))
    (ss_one (s_if (t_cmp (o_eqX q) (e_var 3) e_int)
    (s_frz (i := 6) (ss_one (s_own q.nd (f_cat (e_sl (e_var 6) o_none (o_some (e_var 7))) (e_sl (e_var 6) (o_some (e_bin o_add (e_var 7) e_int)) o_none)))))
    (ss_one (s_setO (i := 6) (e_var 9) (e_var 7))))))
    (s_frz (i := 6) (ss_cons (s_setO (i := 2) (e_join e_str (e_var 6)) (e_var 4))
    (s_frz (i := 2) (ss_one (s_ret (e_bin o_add (e_join e_str (e_var 2)) (e_call D_law_one_of q (a_cons (e_var 0) (a_cons (e_val (f_lst (a_cons e_str (a_cons e_str (a_cons e_str (a_cons e_str (a_cons e_str (a_cons e_str (a_cons e_str a_nil))))))))) a_nil))))))))))))))))))))
abbrev N_law : List Str := ["_law_script", "_law_pen_here", "_law_lap", "_law_book_here", "_law_text", "_law_turn", "_law_full", "_law_found", "_law_long", "_law_due"]
theorem sc_law : FnScope N_law ["_law_script"] (defScope s_law) := ⟨rfl, rfl, rfl, by decide +kernel, rfl, by decide +kernel, by decide +kernel⟩
def st_law_0 : M Fl :=
    (mAsg 1 (mCall m_law_pen (mCons (mVar 0) mNil)))
def lb_law_0 : M Fl :=
    (mSeq (mAsg 4 (mCall m_law_marred (mCons (mVar 1) (mCons (mVar 4) mNil))))
    (mIf (mTest (mBin neX (mCB reprX (mCons (mCall m_law_told (mCons (mVar 4) mNil)) mNil)) (mCB reprX (mCons (mCall m_law_read_book (mCons (mVar 4) mNil)) mNil))))
    (mRet (mC (.bl false)))
    mNx))
def lb_law_1 : M Fl :=
    (mSeq (mAsg 3 (mCall m_law_any_book (mCons (mVar 1) (mCons (mBin addD (mC (.int 1)) (mCall m_law_draw (mCons (mVar 1) (mCons (mC (.int 8)) mNil)))) (mCons (mC (.int 12)) mNil)))))
    (mSeq (mIf (mTest (mBin eqX (mCall m_law_draw (mCons (mVar 1) (mCons (mC (.int 8)) mNil))) (mC (.int 0))))
    (mAsg 3 (mTup (mCons (mBin ixD (mVar 3) (mC (.int 0))) (mCons (mSl (mBin addD (mBin ixD (mVar 3) (mC (.int 1))) (mBin repT (mTup (mCons (mTup (mCons (mC .non) (mCons (mC (.int 0)) (mCons (mUn negD (mC (.int 7))) mNil)))) mNil)) (mC (.int 41)))) mNoP (mPart (mBin addD (mC (.int 39)) (mCall m_law_draw (mCons (mVar 1) (mCons (mC (.int 2)) mNil)))))) mNil))))
    mNx)
    (mSeq (mAsg 4 (mCall m_law_book_text (mCons (mVar 3) mNil)))
    (mSeq (mIf (mOr (mTest (mBin neX (mCall m_format_book (mCons (mVar 3) mNil)) (mVar 4))) (mTest (mBin neX (mCB reprX (mCons (mCall m_law_told (mCons (mVar 4) mNil)) mNil)) (mCB reprX (mCons (mTup (mCons (mC (.str "told")) (mCons (mVar 3) mNil))) mNil)))))
    (mRet (mC (.bl false)))
    mNx)
    (mFor (mRg1 (mCons (mC (.int 4)) mNil)) (gN 5)
    lb_law_0)))))
def st_law_1 : M Fl :=
    (mFor (mRg1 (mCons (mC (.int 5)) mNil)) (gN 2)
    lb_law_1)
def st_law_2 : M Fl :=
    (mAsg 6 (mBin addD (mC (.str "jobs 2\n")) (mBin mulT (mC (.str "ground <= rest 1 + 0\n")) (mC (.int 41)))))
def st_law_3 : M Fl :=
    (mAsg 7 (mVal (mLst (mCons (mCall m_law_told (mCons (mC (.str "")) mNil)) (mCons (mCall m_law_told (mCons (mC (.str "\n")) mNil)) (mCons (mCall m_law_told (mCons (mC (.str "jobs 1")) mNil)) (mCons (mCall m_law_told (mCons (mC (.str "jobs 1\n\n")) mNil)) (mCons (mCall m_law_told (mCons (mVar 6) mNil)) mNil))))))))
def st_law_4 : M Fl :=
    (mAsg 7 (mVal (mCat (mVar 7) (mVal (mLst (mCons (mCall m_law_told (mCons (mC (.str "jobs 1\nground <= rest 0 - 0\n")) mNil)) (mCons (mCall m_law_told (mCons (mC (.str "jobs 1\nrest 0 <= rest 0 + 1\n")) mNil)) mNil)))))))
def st_law_5 : M Fl :=
    (mAsg 8 (mBin mulT (mC (.str "1")) (mC (.int 5000))))
def st_law_6 : M Fl :=
    (mAsg 7 (mVal (mCat (mVar 7) (mVal (mLst (mCons (mCall m_law_told (mCons (mBin addD (mBin addD (mC (.str "jobs ")) (mVar 8)) (mC (.str "\n"))) mNil)) (mCons (mCall m_law_told (mCons (mBin addD (mBin addD (mC (.str "jobs 1\nrest 0 <= ground + ")) (mVar 8)) (mC (.str "\n"))) mNil)) mNil)))))))
def st_law_7 : M Fl :=
    (mAsg 9 (mVal (mLst (mCons (mTup (mCons (mC (.str "line")) (mCons (mC (.int 0)) mNil))) (mCons (mTup (mCons (mC (.str "line")) (mCons (mC (.int 0)) mNil))) (mCons (mTup (mCons (mC (.str "line")) (mCons (mC (.int 0)) mNil))) (mCons (mTup (mCons (mC (.str "line")) (mCons (mC (.int 1)) mNil))) (mCons (mTup (mCons (mC (.str "line")) (mCons (mC (.int 41)) mNil))) (mCons (mTup (mCons (mC (.str "line")) (mCons (mC (.int 1)) mNil))) (mCons (mTup (mCons (mC (.str "line")) (mCons (mC (.int 1)) mNil))) mNil))))))))))
def st_law_8 : M Fl :=
    (mRet (mBin eqX (mVar 7) (mVal (mCat (mVar 9) (mVal (mLst (mCons (mTup (mCons (mC (.str "line")) (mCons (mC (.int 0)) mNil))) (mCons (mTup (mCons (mC (.str "line")) (mCons (mC (.int 1)) mNil))) mNil))))))))
def b_law : M Fl :=
    (mSeq st_law_0
    (mSeq st_law_1
    (mSeq st_law_2
    (mSeq st_law_3
    (mSeq st_law_4
    (mSeq st_law_5
    (mSeq st_law_6
    (mSeq st_law_7
    st_law_8))))))))
def m_law : MF := fnM 10 (b_law)
theorem ok_law {f : Addr} {fd : FuncData} (F : FunD K "law" "law" (defArgs s_law) (defBody s_law) (defScope s_law) [] [] f fd) (T : Tx w K mg) (D_law_pen : Def True P w K mg base "_law_pen" ["_law_script"] 1 m_law_pen) (D_law_any_book : Def True P w K mg base "_law_any_book" ["_law_pen_here", "_law_jobs", "_law_most"] 7 m_law_any_book) (D_law_draw : Def True P w K mg base "_law_draw" ["_law_pen_here", "_law_bound"] 2 m_law_draw) (D_law_book_text : Def True P w K mg base "_law_book_text" ["_law_book_here"] 2 m_law_book_text) (D_format_book : Def True P w K mg base "format_book" ["book"] 3 m_format_book) (D_law_told : Def True P w K mg base "_law_told" ["_law_text"] 7 m_law_told) (D_law_marred : Def True P w K mg base "_law_marred" ["_law_pen_here", "_law_text"] 4 m_law_marred) (D_law_read_book : Def True P w K mg base "_law_read_book" ["_law_text"] 4 m_law_read_book) : FOk True P w K mg base 8 f fd ["_law_script"] m_law := by
  refine def_ok F sc_law fun cdv A outer s H E q po => ?_
  show PSs _ _ (lS K mg _ b_law)
  exact (ss_cons (s_set q.nd (e_call D_law_pen q (a_cons (e_var 0) a_nil)))
    (ss_cons (s_for po q.cm (i_rg1 T.b_range (a_cons e_int a_nil)) (g_name q.nd)
    (ss_cons (s_set q.nd (e_call D_law_any_book q (a_cons (e_var 1) (a_cons (e_bin o_add e_int (e_call D_law_draw q (a_cons (e_var 1) (a_cons e_int a_nil)))) (a_cons e_int a_nil)))))
    (ss_cons (s_if (t_cmp (o_eqX q) (e_call D_law_draw q (a_cons (e_var 1) (a_cons e_int a_nil))) e_int)
    (ss_one (s_set q.nd (e_tup (a_cons (e_ix o_ix (e_var 3) e_int) (a_cons (e_sl (e_bin o_add (e_ix o_ix (e_var 3) e_int) (e_bin o_repT (e_tup (a_cons (e_tup (a_cons e_non (a_cons e_int (a_cons (e_un o_neg e_int) a_nil)))) a_nil)) e_int)) o_none (o_some (e_bin o_add e_int (e_call D_law_draw q (a_cons (e_var 1) (a_cons e_int a_nil)))))) a_nil)))))
    ss_nil)
    (ss_cons (s_set q.nd (e_call D_law_book_text q (a_cons (e_var 3) a_nil)))
    (ss_cons (s_if (PW.pt (w_or (t_cmp (o_neX q) (e_call D_format_book q (a_cons (e_var 3) a_nil)) (e_var 4)) (w_one_or (t_cmp (o_neX q) (e_callB (c_reprX q T.sm) T.b_repr (by decide +kernel) (a_cons (e_call D_law_told q (a_cons (e_var 4) a_nil)) a_nil)) (e_callB (c_reprX q T.sm) T.b_repr (by decide +kernel) (a_cons (e_tup (a_cons e_str (a_cons (e_var 3) a_nil))) a_nil))))))
    (ss_one (s_ret e_bl))
    ss_nil)
    (ss_one (s_for po q.cm (i_rg1 T.b_range (a_cons e_int a_nil)) (g_name q.nd)
    (ss_cons (s_set q.nd (e_call D_law_marred q (a_cons (e_var 1) (a_cons (e_var 4) a_nil))))
    (ss_one (s_if (t_cmp (o_neX q) (e_callB (c_reprX q T.sm) T.b_repr (by decide +kernel) (a_cons (e_call D_law_told q (a_cons (e_var 4) a_nil)) a_nil)) (e_callB (c_reprX q T.sm) T.b_repr (by decide +kernel) (a_cons (e_call D_law_read_book q (a_cons (e_var 4) a_nil)) a_nil)))
    (ss_one (s_ret e_bl))
    ss_nil))))))))))
    (ss_cons (s_set q.nd (e_bin o_add e_str (e_bin o_mulT e_str e_int)))
    (ss_cons (s_set q.nd (e_val (f_lst (a_cons (e_call D_law_told q (a_cons e_str a_nil)) (a_cons (e_call D_law_told q (a_cons e_str a_nil)) (a_cons (e_call D_law_told q (a_cons e_str a_nil)) (a_cons (e_call D_law_told q (a_cons e_str a_nil)) (a_cons (e_call D_law_told q (a_cons (e_var 6) a_nil)) a_nil))))))))
    (ss_cons (s_set q.nd (e_val (f_cat (e_var 7) (e_val (f_lst (a_cons (e_call D_law_told q (a_cons e_str a_nil)) (a_cons (e_call D_law_told q (a_cons e_str a_nil)) a_nil)))))))
    (ss_cons (s_set q.nd (e_bin o_mulT e_str e_int))
    (ss_cons (s_set q.nd (e_val (f_cat (e_var 7) (e_val (f_lst (a_cons (e_call D_law_told q (a_cons (e_bin o_add (e_bin o_add e_str (e_var 8)) e_str) a_nil)) (a_cons (e_call D_law_told q (a_cons (e_bin o_add (e_bin o_add e_str (e_var 8)) e_str) a_nil)) a_nil)))))))
    (ss_cons (s_set q.nd (e_val (f_lst (a_cons (e_tup (a_cons e_str (a_cons e_int a_nil))) (a_cons (e_tup (a_cons e_str (a_cons e_int a_nil))) (a_cons (e_tup (a_cons e_str (a_cons e_int a_nil))) (a_cons (e_tup (a_cons e_str (a_cons e_int a_nil))) (a_cons (e_tup (a_cons e_str (a_cons e_int a_nil))) (a_cons (e_tup (a_cons e_str (a_cons e_int a_nil))) (a_cons (e_tup (a_cons e_str (a_cons e_int a_nil))) a_nil))))))))))
    (ss_one (s_ret (e_cmp (o_eqX q) (e_var 7) (e_val (f_cat (e_var 9) (e_val (f_lst (a_cons (e_tup (a_cons e_str (a_cons e_int a_nil))) (a_cons (e_tup (a_cons e_str (a_cons e_int a_nil))) a_nil)))))))))))))))))
end
end Lw
end
section
set_option maxHeartbeats 0
namespace Lw
open PySem PySem.Spec PyProof.Rows L2 Dm
theorem facts {P : Program} {w : World} {K : PySem.W.Frag} {h : Heap} {mg : Str → Option Value} {f : Addr} (X : K.In h) (G : h.Ns mainGlobals mg) (hfa : mg ("law" : Str) = some (.ref f)) (c2 : SaysM faL fnL [] more h K) :
    ∃ fd : FuncData, (∀ (s : Shared) (v : Value), BindsTo s fd ⟨[v], []⟩ [("_law_script", v)]) ∧ ∀ base : Heap, FOk True P w K mg base 8 f fd ["_law_script"] m_law := by
  have c := c2.d
  obtain ⟨fd0, F0⟩ := c.def_ 0 (d := dd_is_integer) rfl
  obtain ⟨fd1, F1⟩ := c.def_ 1 (d := dd_is_within) rfl
  obtain ⟨fd2, F2⟩ := c.def_ 2 (d := dd_is_end) rfl
  obtain ⟨fd3, F3⟩ := c.def_ 3 (d := dd_is_fact) rfl
  obtain ⟨fd4, F4⟩ := c.def_ 4 (d := dd_format_end) rfl
  obtain ⟨fd5, F5⟩ := c.def_ 5 (d := dd_format_fact) rfl
  obtain ⟨fd6, F6⟩ := c.def_ 6 (d := dd_format_book) rfl
  obtain ⟨fd7, F7⟩ := c.def_ 7 (d := dd_read_integer) rfl
  obtain ⟨fd8, F8⟩ := c.def_ 8 (d := dd_read_end) rfl
  obtain ⟨fd9, F9⟩ := c.def_ 9 (d := dd_read_fact) rfl
  obtain ⟨fd10, F10⟩ := c.def_ 10 (d := dd_read_jobs) rfl
  obtain ⟨fd11, F11⟩ := c.def_ 11 (d := dd_lines_of) rfl
  obtain ⟨fd12, F12⟩ := c.def_ 12 (d := dd_parse_book) rfl
  obtain ⟨fd13, F13⟩ := c.def_ 13 (d := dd_law_pen) rfl
  obtain ⟨fd14, F14⟩ := c.def_ 14 (d := dd_law_fresh) rfl
  obtain ⟨fd15, F15⟩ := c.def_ 15 (d := dd_law_draw) rfl
  obtain ⟨fd16, F16⟩ := c.def_ 16 (d := dd_law_one_of) rfl
  obtain ⟨fd17, F17⟩ := c.def_ 17 (d := dd_law_times) rfl
  obtain ⟨fd18, F18⟩ := c.def_ 18 (d := dd_law_number) rfl
  obtain ⟨fd19, F19⟩ := c.def_ 19 (d := dd_law_two_ends) rfl
  obtain ⟨fd20, F20⟩ := c.def_ 20 (d := dd_law_true_fact) rfl
  obtain ⟨fd21, F21⟩ := c.def_ 21 (d := dd_law_book) rfl
  obtain ⟨fd22, F22⟩ := c.def_ 22 (d := dd_law_any_book) rfl
  obtain ⟨fd23, F23⟩ := c.def_ 23 (d := dd_law_end_text) rfl
  obtain ⟨fd24, F24⟩ := c.def_ 24 (d := dd_law_book_text) rfl
  obtain ⟨fd25, F25⟩ := c.def_ 25 (d := dd_law_figures) rfl
  obtain ⟨fd26, F26⟩ := c.def_ 26 (d := dd_law_read_end) rfl
  obtain ⟨fd27, F27⟩ := c.def_ 27 (d := dd_law_read_fact) rfl
  obtain ⟨fd28, F28⟩ := c.def_ 28 (d := dd_law_read_book) rfl
  obtain ⟨fd29, F29⟩ := c.def_ 29 (d := dd_law_told) rfl
  obtain ⟨fd30, F30⟩ := c.def_ 30 (d := dd_law_marred) rfl
  obtain ⟨fd31, F31⟩ := c.def_ 31 (d := dd_law) rfl
  obtain ⟨fd32, F32⟩ := c.def_ 32 (d := dd_ParseError) rfl
  have T : Tx w K mg := ⟨more_at c2.more 0 rfl, He.free_ok X G (c.fact 32 (f := .free "isinstance") rfl), He.free_ok X G (c.fact 33 (f := .free "int") rfl), He.free_ok X G (c.fact 34 (f := .free "bool") rfl), He.free_ok X G (c.fact 35 (f := .free "tuple") rfl), He.free_ok X G (c.fact 36 (f := .free "len") rfl), He.free_ok X G (c.fact 37 (f := .free "str") rfl), He.free_ok X G (c.fact 38 (f := .free "abs") rfl), He.free_ok X G (c.fact 39 (f := .free "all") rfl), He.free_ok X G (c.fact 40 (f := .free "enumerate") rfl), He.free_ok X G (c.fact 41 (f := .free "list") rfl), He.free_ok X G (c.fact 42 (f := .free "range") rfl), He.free_ok X G (c.fact 43 (f := .free "repr") rfl), He.free_ok X G (c.fact 44 (f := .free "ValueError") rfl), He.int_ok X G (c.fact 45 (f := .int "MOST_FAR" 1000000000000) rfl), gloU_mk (He.glo_ok X G (c.fact 46 (f := .glo "NAMES") rfl)) (more_at c2.more 3 rfl), He.int_ok X G (c.fact 47 (f := .int "MOST_DIGITS" 61) rfl), He.str_ok X G (c.fact 48 (f := .str "DIGITS" "0123456789") rfl), He.int_ok X G (c.fact 49 (f := .int "MOST_JOBS" 8) rfl), He.int_ok X G (c.fact 50 (f := .int "MOST_FACTS" 40) rfl)⟩
  have G_ParseError := He.glo_ok X G (c.fact 51 (f := .glo "ParseError") rfl)
  have A_ParseError : Away K mg "ParseError" [] := away_mk G_ParseError (fun y hy => by cases hy) (more_at c2.more 2 rfl)
  have e := hfa.symm.trans (He.glo_ok X G (c.fact 31 (f := .glo "law") rfl))
  cases e
  have bl := FunD.bindsA (ps := ["_law_script"]) F31 fun _ _ _ _ _ _ us hl => match us, hl with | [_], _ => rfl
  refine ⟨fd31, fun s v => bl s [v] rfl, fun base => ?_⟩
  have X_ParseError : XCl P w K mg base "ParseError" "line" (He.ga K "ParseError") "ValueError" := xcl_mk exb_VE G_ParseError (more_at c2.more 1 rfl) (F32.bindsN fun _ _ _ _ _ _ us hl => match us, hl with | [_, _], _ => rfl) fun TC hno => ok_ParseError F32 T TC hno
  have D_is_integer := ok_is_integer (gp := True) (P := P) (w := w) (base := base) F0 (He.glo_ok X G (c.fact 0 (f := .glo "is_integer") rfl)) T
  have D_is_within := ok_is_within (gp := True) (P := P) (w := w) (base := base) F1 (He.glo_ok X G (c.fact 1 (f := .glo "is_within") rfl)) T D_is_integer
  have D_is_end := ok_is_end (gp := True) (P := P) (w := w) (base := base) F2 (He.glo_ok X G (c.fact 2 (f := .glo "is_end") rfl)) T D_is_within
  have D_is_fact := ok_is_fact (gp := True) (P := P) (w := w) (base := base) F3 (He.glo_ok X G (c.fact 3 (f := .glo "is_fact") rfl)) T D_is_end D_is_within
  have D_format_end := ok_format_end (gp := True) (P := P) (w := w) (base := base) F4 (He.glo_ok X G (c.fact 4 (f := .glo "format_end") rfl)) T
  have D_format_fact := ok_format_fact (gp := True) (P := P) (w := w) (base := base) F5 (He.glo_ok X G (c.fact 5 (f := .glo "format_fact") rfl)) T D_format_end
  have D_format_book := ok_format_book (gp := True) (P := P) (w := w) (base := base) F6 (He.glo_ok X G (c.fact 6 (f := .glo "format_book") rfl)) T D_format_fact
  have D_read_integer := ok_read_integer (gp := True) (P := P) (w := w) (base := base) F7 (He.glo_ok X G (c.fact 7 (f := .glo "read_integer") rfl)) T
  have D_read_end := ok_read_end (gp := True) (P := P) (w := w) (base := base) F8 (He.glo_ok X G (c.fact 8 (f := .glo "read_end") rfl)) T D_read_integer
  have D_read_fact := ok_read_fact (gp := True) (P := P) (w := w) (base := base) F9 (He.glo_ok X G (c.fact 9 (f := .glo "read_fact") rfl)) T D_read_integer D_read_end D_is_fact
  have D_read_jobs := ok_read_jobs (gp := True) (P := P) (w := w) (base := base) F10 (He.glo_ok X G (c.fact 10 (f := .glo "read_jobs") rfl)) T D_read_integer
  have D_lines_of := ok_lines_of (gp := True) (P := P) (w := w) (base := base) F11 (He.glo_ok X G (c.fact 11 (f := .glo "lines_of") rfl)) T
  have D_parse_book := ok_parse_book (gp := True) (P := P) (w := w) (base := base) F12 (He.glo_ok X G (c.fact 12 (f := .glo "parse_book") rfl)) T D_lines_of D_read_jobs D_read_fact X_ParseError
  have D_law_pen := ok_law_pen (gp := True) (P := P) (w := w) (base := base) F13 (He.glo_ok X G (c.fact 13 (f := .glo "_law_pen") rfl)) T
  have D_law_fresh := ok_law_fresh (gp := True) (P := P) (w := w) (base := base) F14 (He.glo_ok X G (c.fact 14 (f := .glo "_law_fresh") rfl)) T
  have D_law_draw := ok_law_draw (gp := True) (P := P) (w := w) (base := base) F15 (He.glo_ok X G (c.fact 15 (f := .glo "_law_draw") rfl)) T D_law_fresh
  have D_law_one_of := ok_law_one_of (gp := True) (P := P) (w := w) (base := base) F16 (He.glo_ok X G (c.fact 16 (f := .glo "_law_one_of") rfl)) T D_law_draw
  have D_law_times := ok_law_times (gp := True) (P := P) (w := w) (base := base) F17 (He.glo_ok X G (c.fact 17 (f := .glo "_law_times") rfl)) T D_law_one_of D_law_draw
  have D_law_number := ok_law_number (gp := True) (P := P) (w := w) (base := base) F18 (He.glo_ok X G (c.fact 18 (f := .glo "_law_number") rfl)) T
  have D_law_two_ends := ok_law_two_ends (gp := True) (P := P) (w := w) (base := base) F19 (He.glo_ok X G (c.fact 19 (f := .glo "_law_two_ends") rfl)) T D_law_one_of
  have D_law_true_fact := ok_law_true_fact (gp := True) (P := P) (w := w) (base := base) F20 (He.glo_ok X G (c.fact 20 (f := .glo "_law_true_fact") rfl)) T D_law_two_ends D_law_number D_law_one_of
  have D_law_book := ok_law_book (gp := True) (P := P) (w := w) (base := base) F21 (He.glo_ok X G (c.fact 21 (f := .glo "_law_book") rfl)) T D_law_times D_law_draw D_law_true_fact
  have D_law_any_book := ok_law_any_book (gp := True) (P := P) (w := w) (base := base) F22 (He.glo_ok X G (c.fact 22 (f := .glo "_law_any_book") rfl)) T D_law_book D_law_draw D_law_two_ends
  have D_law_end_text := ok_law_end_text (gp := True) (P := P) (w := w) (base := base) F23 (He.glo_ok X G (c.fact 23 (f := .glo "_law_end_text") rfl)) T
  have D_law_book_text := ok_law_book_text (gp := True) (P := P) (w := w) (base := base) F24 (He.glo_ok X G (c.fact 24 (f := .glo "_law_book_text") rfl)) T D_law_end_text
  have D_law_figures := ok_law_figures (gp := True) (P := P) (w := w) (base := base) F25 (He.glo_ok X G (c.fact 25 (f := .glo "_law_figures") rfl)) T
  have D_law_read_end := ok_law_read_end (gp := True) (P := P) (w := w) (base := base) F26 (He.glo_ok X G (c.fact 26 (f := .glo "_law_read_end") rfl)) T D_law_figures
  have D_law_read_fact := ok_law_read_fact (gp := True) (P := P) (w := w) (base := base) F27 (He.glo_ok X G (c.fact 27 (f := .glo "_law_read_fact") rfl)) T D_law_read_end D_law_figures
  have D_law_read_book := ok_law_read_book (gp := True) (P := P) (w := w) (base := base) F28 (He.glo_ok X G (c.fact 28 (f := .glo "_law_read_book") rfl)) T D_law_read_fact
  have D_law_told := ok_law_told (gp := True) (P := P) (w := w) (base := base) F29 (He.glo_ok X G (c.fact 29 (f := .glo "_law_told") rfl)) T D_parse_book X_ParseError A_ParseError
  have D_law_marred := ok_law_marred (gp := True) (P := P) (w := w) (base := base) F30 (He.glo_ok X G (c.fact 30 (f := .glo "_law_marred") rfl)) T D_law_draw D_law_one_of
  exact ok_law (P := P) (w := w) (base := base) F31 T D_law_pen D_law_any_book D_law_draw D_law_book_text D_format_book D_law_told D_law_marred D_law_read_book
end Lw
open PySem PySem.W PySem.Calls PyProof.Rows
theorem Lw.closes (plain : ∀ ns : List Int, ns.length ≤ 63 → ∃ hd, Lw.m_law [.ro (ns.map Dm.D.int)] [] = .ok (.bl true) [] hd) : PySem.Challenge.rw_twobenches_k64_texts_of_books.Holds := by
  w_on; o_law
  refine HandSHeadRun.head_any (r := OpenLaw.row PySem.Challenge.rw_twobenches_k64_texts_of_books) (q := view (OpenLaw.row PySem.Challenge.rw_twobenches_k64_texts_of_books).prog [42]) (H := Lw.hk) (ob := Lw.obs) (M := 20000) (loose := Lw.looseL) (d := HandSHeadRun.topDef (OpenLaw.row PySem.Challenge.rw_twobenches_k64_texts_of_books).prog 42) (kwd := []) Lw.obs_eq
    (by kernel_rfl) (fun s => by kernel_rfl) Lw.head_run (by kernel_rfl) (by kernel_rfl) (by kernel_rfl) (by rfl) (by first | assumption | decide +kernel) (by decide +kernel) ⟨rfl, rfl, rfl, rfl, rfl, by decide +kernel⟩ ?hw ?hc
  case hw => w_witness2
  case hc =>
    refine Dm.law_end (l := PySem.Challenge.rw_twobenches_k64_texts_of_books) (n := 63) (k := 8) (x := "_law_script") rfl (by decide) (by kernel_rfl) ⟨rfl, by decide, by decide⟩ ?F
    intro w mg fa h Y G hmg0
    obtain ⟨K, KX, c⟩ := Y
    have hmg : mg ("law" : PySem.Str) = some (.ref fa) := by
      have e : (HandSHeadRun.topDef (OpenLaw.row PySem.Challenge.rw_twobenches_k64_texts_of_books).prog 42).name = ("law" : PySem.Str) := by kernel_rfl
      rw [← e]
      exact hmg0
    obtain ⟨fd, hb, hF⟩ := Lw.facts (P := (PySem.Challenge.rw_twobenches_k64_texts_of_books).prog) (w := w) KX G hmg c
    exact ⟨K, fd, Lw.m_law, KX, hb, plain, fun base _ _ => hF base⟩
namespace Lw
end Lw
end
section
namespace Lw
open PySem L2 Dm
local macro_rules
  | `(tactic| simp!) => `(tactic| simp (disch := first | decide | omega | assumption) only [↓wpA, wpB, startD, List.map_cons, List.map_nil, List.replicate_succ, List.replicate_zero, List.length_cons, List.length_nil, List.cons_append, List.nil_append, List.set_cons_succ, List.set_cons_zero, Nat.reduceAdd, Nat.reduceSub, Nat.reduceLeDiff, Nat.reduceEqDiff, Int.cast_ofNat_Int, Int.reduceEq, Int.reduceLT, Int.reduceLE, Bool.not_true, Bool.not_false, Bool.not_not, wipeD, backD, keepD, Option.map_some, Option.bind_some, List.getElem?_cons_succ, List.getElem?_cons_zero, Bool.or_true, Bool.true_or, Bool.or_false, Bool.false_or])
  | `(tactic| simp! [$ls,*]) => `(tactic| simp (disch := first | decide | omega | assumption) only [↓wpA, wpB, startD, List.map_cons, List.map_nil, List.replicate_succ, List.replicate_zero, List.length_cons, List.length_nil, List.cons_append, List.nil_append, List.set_cons_succ, List.set_cons_zero, Nat.reduceAdd, Nat.reduceSub, Nat.reduceLeDiff, Nat.reduceEqDiff, Int.cast_ofNat_Int, Int.reduceEq, Int.reduceLT, Int.reduceLE, Bool.not_true, Bool.not_false, Bool.not_not, wipeD, backD, keepD, Option.map_some, Option.bind_some, List.getElem?_cons_succ, List.getElem?_cons_zero, Bool.or_true, Bool.true_or, Bool.or_false, Bool.false_or, $ls,*])
  | `(tactic| simp! only) => `(tactic| simp (disch := first | decide | omega | assumption) only [↓wpA, wpB, startD, List.map_cons, List.map_nil, List.replicate_succ, List.replicate_zero, List.length_cons, List.length_nil, List.cons_append, List.nil_append, List.set_cons_succ, List.set_cons_zero, Nat.reduceAdd, Nat.reduceSub, Nat.reduceLeDiff, Nat.reduceEqDiff, Int.cast_ofNat_Int, Int.reduceEq, Int.reduceLT, Int.reduceLE, Bool.not_true, Bool.not_false, Bool.not_not, wipeD, backD, keepD, Option.map_some, Option.bind_some, List.getElem?_cons_succ, List.getElem?_cons_zero, Bool.or_true, Bool.true_or, Bool.or_false, Bool.false_or, isiD, tyN, kt_NoneType_int, kt_NoneType_bool, kt_NoneType_tuple, kt_NoneType_str, kt_NoneType_list, kt_NoneType_dict, kt_bool_int, kt_bool_bool, kt_bool_tuple, kt_bool_str, kt_bool_list, kt_bool_dict, kt_int_int, kt_int_bool, kt_int_tuple, kt_int_str, kt_int_list, kt_int_dict, kt_str_int, kt_str_bool, kt_str_tuple, kt_str_str, kt_str_list, kt_str_dict, kt_tuple_int, kt_tuple_bool, kt_tuple_tuple, kt_tuple_str, kt_tuple_list, kt_tuple_dict, kt_list_int, kt_list_bool, kt_list_tuple, kt_list_str, kt_list_list, kt_list_dict, kt_dict_int, kt_dict_bool, kt_dict_tuple, kt_dict_str, kt_dict_list, kt_dict_dict])
  | `(tactic| simp! only [$ls,*]) => `(tactic| simp (disch := first | decide | omega | assumption) only [↓wpA, wpB, startD, List.map_cons, List.map_nil, List.replicate_succ, List.replicate_zero, List.length_cons, List.length_nil, List.cons_append, List.nil_append, List.set_cons_succ, List.set_cons_zero, Nat.reduceAdd, Nat.reduceSub, Nat.reduceLeDiff, Nat.reduceEqDiff, Int.cast_ofNat_Int, Int.reduceEq, Int.reduceLT, Int.reduceLE, Bool.not_true, Bool.not_false, Bool.not_not, wipeD, backD, keepD, Option.map_some, Option.bind_some, List.getElem?_cons_succ, List.getElem?_cons_zero, Bool.or_true, Bool.true_or, Bool.or_false, Bool.false_or, isiD, tyN, kt_NoneType_int, kt_NoneType_bool, kt_NoneType_tuple, kt_NoneType_str, kt_NoneType_list, kt_NoneType_dict, kt_bool_int, kt_bool_bool, kt_bool_tuple, kt_bool_str, kt_bool_list, kt_bool_dict, kt_int_int, kt_int_bool, kt_int_tuple, kt_int_str, kt_int_list, kt_int_dict, kt_str_int, kt_str_bool, kt_str_tuple, kt_str_str, kt_str_list, kt_str_dict, kt_tuple_int, kt_tuple_bool, kt_tuple_tuple, kt_tuple_str, kt_tuple_list, kt_tuple_dict, kt_list_int, kt_list_bool, kt_list_tuple, kt_list_str, kt_list_list, kt_list_dict, kt_dict_int, kt_dict_bool, kt_dict_tuple, kt_dict_str, kt_dict_list, kt_dict_dict, $ls,*])
def penO (given : List Int) (seat rest : Int) : O := .lst [.lst (given.map .int), .int seat, .int rest]
def Pen (h : Hd) : Prop := ∃ given seat rest, given.length ≤ 63 ∧ h = [penO given seat rest]
theorem pyL_ints : ∀ ns : List Int, D.pyL (ns.map .int) = some (ns.map PyData.int)
  | [] => rfl
  | n :: ns => by simp [D.pyL, D.py, pyL_ints ns]
theorem lay_ints : ∀ ns : List Int, PyData.canLayAll0 (ns.map PyData.int) = true
  | [] => rfl
  | n :: ns => by simp [PyData.canLayAll0, PyData.canLay0, lay_ints ns]
theorem dep_ints : ∀ ns : List Int, PyData.depthAll (ns.map PyData.int) = 0
  | [] => rfl
  | n :: ns => by simp [PyData.depthAll, PyData.depth, dep_ints ns]
theorem shaped_ints (ns : List Int) : SeqAt.shaped (.list (ns.map PyData.int)) = true := by
  simp [SeqAt.shaped, PyData.canLay0, lay_ints, PyData.depth, dep_ints]
theorem ne_empty (h : Hd) (given : List Int) : neD h (.lst (given.map .int)) (.lst []) = some (.bl (!given.isEmpty)) := by
  have e1 : D.py (.lst (given.map .int)) = some (.list (given.map PyData.int)) := by simp [D.py, pyL_ints]
  have e2 : D.py (.lst []) = some (.list []) := rfl
  have e3 : SeqAt.shaped (.list []) = true := shaped_ints []
  unfold neD eqB
  simp only [e1, e2, shaped_ints, e3, Bool.and_self, if_true]
  cases given <;> rfl
theorem pow18 (h : Hd) : powD h (.int 10) (.int 18) = some (.int 1000000000000000000) := by
  rw [pow_p (by decide) (by decide) (by decide)]
  rfl
theorem cell_ok {h : Hd} {given : List Int} {seat : Int} {s : Sd} (h1 : s[1]? = some (.val (.int seat))) (h2 : s[2]? = some (.val (.lst (given.map .int)))) :
    ∃ cell : Int, st_law_fresh_2 s h = .ok .nx (s.set 3 (.val (.int cell))) h := by
  cases given with
  | nil => exact ⟨0, by
      have e : neD h (.lst []) (.lst []) = some (.bl false) := ne_empty h []
      simp [st_law_fresh_2, h2, e]⟩
  | cons g gs =>
    have hp : (0 : Int) < ((g :: gs).map D.int).length := by simp
    refine ⟨(g :: gs).getD (seat % (((g :: gs).map D.int).length : Int)).toNat 0, ?_⟩
    have e := ne_empty h (g :: gs)
    have ix : atI ((g :: gs).map D.int) (seat % (((g :: gs).map D.int).length : Int)) = some (.int ((g :: gs).getD (seat % (((g :: gs).map D.int).length : Int)).toNat 0)) := atI_int (Int.emod_nonneg _ (by omega)) (by have := Int.emod_lt_of_pos seat hp; simpa using this)
    unfold st_law_fresh_2
    simp only [mAsg_ap, mIf_ap, mTest_ap, mBin_ap, mVar_ap, h2, bind_ok, mVal_ap, mLst_ap, mNil_ap, List.length_nil, Nat.zero_le, if_true, e, mOf_some, List.isEmpty_cons, Bool.not_false, cond_true, mCB_ap, mCons_ap, h1, int_int, len_lst, mod_p hp, ix_lst, ix]
theorem lap_ok {h : Hd} {p g : D} {seat cell st fo : Int} {i : Nat} (hi : i < 6) (h0 : 0 ≤ st) (h1 : st < 2305843009213693951) :
    ∃ st' fo' : Int, 0 ≤ st' ∧ st' < 2305843009213693951 ∧ lb_law_fresh_0 [.val p, .val (.int seat), .val g, .val (.int cell), .val (.int 2305843009213693951), .val (.int st), .val (.int fo), .val (.int (0 + (i : Int)))] h
      = .ok .nx [.val p, .val (.int seat), .val g, .val (.int cell), .val (.int 2305843009213693951), .val (.int st'), .val (.int fo'), .val (.int (0 + (i : Int)))] h := by
  have n1 : mulD h (.int st) (.int st) = some (.int (st * st)) := mul_l (s64_of (by omega) (by omega))
  have n2 : mulD h (.int 70139) (.int (0 + (i : Int) + 5)) = some (.int (70139 * (0 + (i : Int) + 5))) := mul_l (by decide)
  have n3 : mulD h (.int (70139 * (0 + (i : Int) + 5))) (.int (seat + 1)) = some (.int (70139 * (0 + (i : Int) + 5) * (seat + 1))) := mul_l (s64_of (by omega) (by omega))
  have n4 : mulD h (.int fo) (.int 2305843009213693951) = some (.int (fo * 2305843009213693951)) := mul_r (s64_of (by omega) (by omega))
  have m3 : ∀ z, modD h (.int z) (.int 2305843009213693951) = some (.int (z % 2305843009213693951)) := fun z => mod_p (by decide)
  generalize e1 : (st * st + 70139 * (0 + (i : Int) + 5) * (seat + 1) + cell) = z1 at *
  refine ⟨z1 % 2305843009213693951, fo * 2305843009213693951 + z1 % 2305843009213693951, Int.emod_nonneg _ (by decide), Int.emod_lt_of_pos _ (by decide), ?_⟩
  simp only [lb_law_fresh_0, mSeq_ap, mAsg_ap, mBin_ap, mCB_ap, mCons_ap, mNil_ap, mVar_ap, mC_ap, bind_ok, List.set_cons_succ, List.set_cons_zero, List.getElem?_cons_succ, List.getElem?_cons_zero, n1, n2, n3, n4, m3, mOf_some, add_int, int_int, e1]
theorem fresh_ok {h : Hd} (P : Pen h) : ∃ v h', m_law_fresh [.ref 0] h = .ok (.int v) [] h' ∧ Pen h' := by
  obtain ⟨given, seat, rest, hl, rfl⟩ := P
  have P' : Pen [penO given (seat + 1) rest] := ⟨given, seat + 1, rest, hl, rfl⟩
  obtain ⟨cell, hc⟩ := cell_ok (h := [penO given (seat + 1) rest]) (given := given) (seat := seat) (s := [.val (.ref 0), .val (.int seat), .val (.lst (given.map .int)), .no, .no, .no, .no, .no]) rfl rfl
  have e0 : st_law_fresh_0 [.val (.ref 0), .no, .no, .no, .no, .no, .no, .no] [penO given seat rest] = .ok .nx [.val (.ref 0), .val (.int seat), .val (.lst (given.map .int)), .no, .no, .no, .no, .no] [penO given seat rest] := rfl
  have e1 : st_law_fresh_1 [.val (.ref 0), .val (.int seat), .val (.lst (given.map .int)), .no, .no, .no, .no, .no] [penO given seat rest] = .ok .nx [.val (.ref 0), .val (.int seat), .val (.lst (given.map .int)), .no, .no, .no, .no, .no] [penO given (seat + 1) rest] := rfl
  have start : m_law_fresh [.ref 0] [penO given seat rest] = fin (b_law_fresh [.val (.ref 0), .no, .no, .no, .no, .no, .no, .no] [penO given seat rest]) := rfl
  rw [start]
  unfold b_law_fresh
  rw [seq_nx e0, seq_nx e1, seq_nx hc]
  simp only [List.set_cons_succ, List.set_cons_zero]
  have step3 : ∀ s h, s[1]? = some (.val (.int seat)) → s[2]? = some (.val (.lst (given.map .int))) → s[3]? = some (.val (.int cell)) → st_law_fresh_3 s h = .ok .nx s h ∨ st_law_fresh_3 s h = .ok (.rt (.int (cell - 1000000000000000000))) s h := by
    intro s h e1 e2 e3
    unfold st_law_fresh_3
    simp only [mIf_ap, mAnd_ap, mTest_ap, mBin_ap, mVar_ap, mCB_ap, mCons_ap, mNil_ap, mC_ap, mRet_ap, mNx_ap, bind_ok, e1, e2, e3, len_lst, mOf_some, lt_int, pow18, ge_int, sub_int]
    cases decide (seat < ((given.map D.int).length : Int)) <;> simp
    by_cases hb : (1000000000000000000 : Int) ≤ cell
    · right; simp [hb, e3]
    · left; simp [hb]
  rcases step3 [.val (.ref 0), .val (.int seat), .val (.lst (given.map .int)), .val (.int cell), .no, .no, .no, .no] [penO given (seat + 1) rest] rfl rfl rfl with e3 | e3
  · rw [seq_nx e3]
    have m1 : mulD [penO given (seat + 1) rest] (.int cell) (.int 48271) = some (.int (cell * 48271)) := mul_r (by decide)
    have m2 : mulD [penO given (seat + 1) rest] (.int 60013) (.int seat) = some (.int (60013 * seat)) := mul_l (by decide)
    have m3 : ∀ z, modD [penO given (seat + 1) rest] (.int z) (.int 2305843009213693951) = some (.int (z % 2305843009213693951)) := fun z => mod_p (by decide)
    rw [seq_nx (m := st_law_fresh_4) (s1 := [.val (.ref 0), .val (.int seat), .val (.lst (given.map .int)), .val (.int cell), .val (.int 2305843009213693951), .no, .no, .no]) (h1 := [penO given (seat + 1) rest]) rfl]
    rw [seq_nx (m := st_law_fresh_5) (s1 := [.val (.ref 0), .val (.int seat), .val (.lst (given.map .int)), .val (.int cell), .val (.int 2305843009213693951), .val (.int ((cell * 48271 + 60013 * seat + 31) % 2305843009213693951)), .no, .no]) (h1 := [penO given (seat + 1) rest]) (by simp [st_law_fresh_5, m1, m2, m3])]
    rw [seq_nx (m := st_law_fresh_6) (s1 := [.val (.ref 0), .val (.int seat), .val (.lst (given.map .int)), .val (.int cell), .val (.int 2305843009213693951), .val (.int ((cell * 48271 + 60013 * seat + 31) % 2305843009213693951)), .val (.int ((cell * 48271 + 60013 * seat + 31) % 2305843009213693951)), .no]) (h1 := [penO given (seat + 1) rest]) rfl]
    obtain ⟨s', h', e1, st, fo, lp, e2, _, _, e4⟩ := loop_ok (g := gN 7) (b := lb_law_fresh_0) (xs := rg 0 6) (s := [.val (.ref 0), .val (.int seat), .val (.lst (given.map .int)), .val (.int cell), .val (.int 2305843009213693951), .val (.int ((cell * 48271 + 60013 * seat + 31) % 2305843009213693951)), .val (.int ((cell * 48271 + 60013 * seat + 31) % 2305843009213693951)), .no]) (h := [penO given (seat + 1) rest])
      (fun _ s2 h2 => ∃ (st fo : Int) (lp : Sl), s2 = [Sl.val (.ref 0), .val (.int seat), .val (.lst (given.map .int)), .val (.int cell), .val (.int 2305843009213693951), .val (.int st), .val (.int fo), lp] ∧ 0 ≤ st ∧ st < 2305843009213693951 ∧ h2 = [penO given (seat + 1) rest])
      ⟨_, _, _, rfl, Int.emod_nonneg _ (by decide), Int.emod_lt_of_pos _ (by decide), rfl⟩ (fun i x s2 h2 hx ⟨st, fo, lp, e1, e2, e3, e4⟩ => by
        subst e1; subst e4
        have hi : i < 6 := by have := (List.getElem?_eq_some_iff.mp hx).1; simpa [rg] using this
        have ex : x = .int (0 + (i : Int)) := by rw [rg_get 0 6 i hi] at hx; cases hx; rfl
        subst ex
        obtain ⟨st', fo', g0, g1, eb⟩ := lap_ok (h := [penO given (seat + 1) rest]) (p := .ref 0) (g := .lst (given.map .int)) (seat := seat) (cell := cell) (fo := fo) hi e2 e3
        exact ⟨_, _, _, _, rfl, eb, st', fo', _, rfl, g0, g1, rfl⟩)
    refine ⟨fo, _, ?_, P'⟩
    have e7 : st_law_fresh_7 [.val (.ref 0), .val (.int seat), .val (.lst (given.map .int)), .val (.int cell), .val (.int 2305843009213693951), .val (.int ((cell * 48271 + 60013 * seat + 31) % 2305843009213693951)), .val (.int ((cell * 48271 + 60013 * seat + 31) % 2305843009213693951)), .no] [penO given (seat + 1) rest] = .ok .nx s' h' := e1
    rw [seq_nx e7, e2, e4]
    rfl
  · refine ⟨cell - 1000000000000000000, _, ?_, P'⟩
    rw [seq_rt e3]
    rfl
theorem setR_pen {a b e : M D} {s s1 : Sd} {h : Hd} {given : List Int} {seat rest z : Int} (he : e s h = .ok (.int z) s1 [penO given seat rest]) (ha : a s1 [penO given seat rest] = .ok (.ref 0) s1 [penO given seat rest]) (hb : b s1 [penO given seat rest] = .ok (.int 2) s1 [penO given seat rest]) :
    mSetR a b e s h = .ok .nx s1 [penO given seat z] := by
  unfold mSetR
  rw [he]
  simp only [bind_ok, ha, hb]
  rfl
theorem draw_ok {h : Hd} (P : Pen h) {b : Int} (hb : 0 < b) (hb2 : b ≤ 10 ^ 400) : ∃ d h', m_law_draw [.ref 0, .int b] h = .ok (.int d) [] h' ∧ 0 ≤ d ∧ d < b ∧ Pen h' := by
  have go : ∀ h, Pen h → ∃ d h', fin (mSeq st_law_draw_1 (mSeq st_law_draw_2 st_law_draw_3) [.val (.ref 0), .val (.int b), .no] h) = .ok (.int d) [] h' ∧ 0 ≤ d ∧ d < b ∧ Pen h' := by
    rintro h ⟨given, seat, rest, hl, rfl⟩
    refine ⟨rest % b, [penO given seat (rest / b)], ?_, Int.emod_nonneg _ (by omega), Int.emod_lt_of_pos _ hb, given, seat, rest / b, hl, rfl⟩
    have e1 : st_law_draw_1 [.val (.ref 0), .val (.int b), .no] [penO given seat rest] = .ok .nx [.val (.ref 0), .val (.int b), .val (.int (rest % b))] [penO given seat rest] := by
      have i2 : ixD [penO given seat rest] (.ref 0) (.int 2) = some (.int rest) := rfl
      simp [st_law_draw_1, i2, mod_p hb]
    have e2 : st_law_draw_2 [.val (.ref 0), .val (.int b), .val (.int (rest % b))] [penO given seat rest] = .ok .nx [.val (.ref 0), .val (.int b), .val (.int (rest % b))] [penO given seat (rest / b)] := by
      have i2 : ixD [penO given seat rest] (.ref 0) (.int 2) = some (.int rest) := rfl
      have f := fdv_p (h := [penO given seat rest]) (i := rest) hb (bnd_of (by omega) hb2)
      exact setR_pen (rest := rest) (by simp only [mVar_ap, mC_ap, mBin_ap, mCB_ap, mCons_ap, mNil_ap, bind_ok, List.getElem?_cons_succ, List.getElem?_cons_zero, i2, mOf_some, int_int, f]) rfl rfl
    rw [seq_nx e1, seq_nx e2]
    rfl
  obtain ⟨given, seat, rest, hl, rfl⟩ := id P
  have start : m_law_draw [.ref 0, .int b] [penO given seat rest] = fin (mSeq st_law_draw_0 (mSeq st_law_draw_1 (mSeq st_law_draw_2 st_law_draw_3)) [.val (.ref 0), .val (.int b), .no] [penO given seat rest]) := rfl
  rw [start]
  have i2 : ixD [penO given seat rest] (.ref 0) (.int 2) = some (.int rest) := rfl
  by_cases hr : rest < b
  · obtain ⟨v, h1, ef, P1⟩ := fresh_ok P
    obtain ⟨given1, seat1, rest1, hl1, rfl⟩ := id P1
    have es : mSetR (mVar 0) (mC (.int 2)) (mCall m_law_fresh (mCons (mVar 0) mNil)) [.val (.ref 0), .val (.int b), .no] [penO given seat rest] = .ok .nx [.val (.ref 0), .val (.int b), .no] [penO given1 seat1 v] :=
      setR_pen (rest := rest1) (by simp [ef]) rfl rfl
    have e0 : st_law_draw_0 [.val (.ref 0), .val (.int b), .no] [penO given seat rest] = .ok .nx [.val (.ref 0), .val (.int b), .no] [penO given1 seat1 v] := by
      simp only [st_law_draw_0, mIf_ap, mTest_ap, mVar_ap, mC_ap, mBin_ap, bind_ok, List.getElem?_cons_succ, List.getElem?_cons_zero, i2, mOf_some, lt_int, decide_eq_true hr, es, cond_true]
    rw [seq_nx e0]
    exact go _ ⟨given1, seat1, v, hl1, rfl⟩
  · have e0 : st_law_draw_0 [.val (.ref 0), .val (.int b), .no] [penO given seat rest] = .ok .nx [.val (.ref 0), .val (.int b), .no] [penO given seat rest] := by
      simp only [st_law_draw_0, mIf_ap, mTest_ap, mVar_ap, mC_ap, mBin_ap, bind_ok, List.getElem?_cons_succ, List.getElem?_cons_zero, i2, mOf_some, lt_int, decide_eq_false hr, cond_false, mNx_ap]
    rw [seq_nx e0]
    exact go _ P
theorem one_of_ok {h : Hd} (P : Pen h) {xs : List D} (hn : xs ≠ []) (hl : xs.length ≤ 100000) : ∃ d h', m_law_one_of [.ref 0, .lst xs] h = .ok d [] h' ∧ d ∈ xs ∧ Pen h' := by
  have hp : (0 : Int) < xs.length := by have := List.length_pos_iff.mpr hn; omega
  obtain ⟨k, h', e, h0, h1, P'⟩ := draw_ok P hp (by omega)
  have hk : k.toNat < xs.length := by omega
  refine ⟨xs[k.toNat], h', ?_, List.getElem_mem hk, P'⟩
  have ix : atI xs k = some xs[k.toNat] := atI_in h0 (List.getElem?_eq_getElem hk)
  simp [m_law_one_of, b_law_one_of, st_law_one_of_0, startD, e, ix]
theorem pen_ok {ns : List Int} (hl : ns.length ≤ 63) : ∃ h, m_law_pen [.ro (ns.map .int)] [] = .ok (.ref 0) [] h ∧ Pen h := by
  have e : cut (ns.map D.int) none (some 63) = ns.map D.int := by
    unfold cut
    have : HT.sIx (ns.map D.int).length (ns.map D.int).length (some 63) = (ns.map D.int).length := by
      rw [show (63 : Int) = ((63 : Nat) : Int) from rfl, HT.sIx_nat]
      simp; omega
    rw [this]
    have hz : HT.sIx (ns.map D.int).length 0 none = 0 := rfl
    rw [hz, Nat.sub_zero, List.drop_zero, List.take_length]
  refine ⟨[penO ns 0 0], ?_, ns, 0, 0, hl, rfl⟩
  have e2 : slD [] (.ro (ns.map .int)) none (some 63) = some (.lst (ns.map .int)) := by simp [slD, e]
  have e3 : seqOf [] (.lst (ns.map D.int)) = some (ns.map D.int) := rfl
  simp [m_law_pen, b_law_pen, st_law_pen_0, startD, e2, e3, penO]
theorem draw_wp {h : Hd} {b : Int} {Q : D → Sd → Hd → Prop} {E : Ex} (P : Pen h) (hb : 0 < b) (hb2 : b ≤ 10 ^ 400) (k : ∀ d h', 0 ≤ d → d < b → Pen h' → Q (.int d) [] h') : Wq Q E () (m_law_draw [.ref 0, .int b] h) := by
  obtain ⟨d, h', e, h0, h1, P'⟩ := draw_ok P hb hb2
  exact Wq.of e (k d h' h0 h1 P')
theorem one_of_wp {h : Hd} {xs : List D} {Q : D → Sd → Hd → Prop} {E : Ex} (P : Pen h) (hn : xs ≠ []) (hl : xs.length ≤ 100000) (k : ∀ d h', d ∈ xs → Pen h' → Q d [] h') : Wq Q E () (m_law_one_of [.ref 0, .lst xs] h) := by
  obtain ⟨d, h', e, hd, P'⟩ := one_of_ok P hn hl
  exact Wq.of e (k d h' hd P')
theorem pen_wp {ns : List Int} {Q : D → Sd → Hd → Prop} {E : Ex} (hl : ns.length ≤ 63) (k : ∀ h', Pen h' → Q (.ref 0) [] h') : Wq Q E () (m_law_pen [.ro (ns.map .int)] []) := by
  obtain ⟨h', e, P'⟩ := pen_ok hl
  exact Wq.of e (k h' P')
theorem law_of {ns : List Int} (w : Wq (fun d s _ => d = .bl true ∧ s = []) nX () (m_law [.ro (ns.map .int)] [])) : ∃ hd, m_law [.ro (ns.map .int)] [] = .ok (.bl true) [] hd := by
  obtain ⟨d, s, h, e, rfl, rfl⟩ := w.ex
  exact ⟨h, e⟩
theorem rg0 (n : Nat) : rg 0 n = (List.range n).map fun i : Nat => D.int (i : Int) := by simp [rg]
theorem rg_at {n i : Nat} {x : D} (hx : (rg 0 n)[i]? = some x) : i < n ∧ x = .int (i : Int) := by
  have hi : i < n := by have := (List.getElem?_eq_some_iff.mp hx).1; rw [rg_len] at this; exact this
  rw [rg_get 0 n i hi] at hx
  cases hx
  exact ⟨hi, by simp⟩
@[simp] theorem at_0 {x : D} {r : List D} : atI (x :: r) 0 = some x := atI_in (by decide) rfl
@[simp] theorem at_1 {x y : D} {r : List D} : atI (x :: y :: r) 1 = some y := atI_in (by decide) rfl
@[simp] theorem at_2 {x y z : D} {r : List D} : atI (x :: y :: z :: r) 2 = some z := atI_in (by decide) rfl
theorem mul3 {h : Hd} {z : Int} : mulD h (.int 3) (.int z) = some (.int (3 * z)) := mul_l (by decide)
def NN (T : List Int) : Prop := ∀ x ∈ T, (0 : Int) ≤ x
theorem add_tup {h : Hd} {xs ys : List D} (h1 : xs.length ≤ 50000) (h2 : ys.length ≤ 50000) : addD h (.tup xs) (.tup ys) = some (.tup (xs ++ ys)) := by
  simp [addD]
  try omega
theorem cut_to {xs : List D} {k : Nat} (hk : k ≤ xs.length) : cut xs none (some (k : Int)) = xs.take k := by
  unfold cut
  rw [HT.sIx_nat]
  have hz : HT.sIx xs.length 0 none = 0 := rfl
  rw [hz, Nat.min_eq_left hk]
  simp
theorem cut_from {xs : List D} {k : Nat} (hk : k ≤ xs.length) : cut xs (some (k : Int)) none = xs.drop k := by
  unfold cut
  rw [HT.sIx_nat]
  have hz : HT.sIx xs.length xs.length none = xs.length := rfl
  rw [hz, Nat.min_eq_left hk]
  exact List.take_of_length_le (by simp)
theorem pow11 (h : Hd) : powD h (.int 10) (.int 11) = some (.int 100000000000) := by
  rw [pow_p (by decide) (by decide) (by decide)]
  rfl
theorem draws_ok {vs : List Nat} {g : D → M Unit} {e : M D} {s : Sd} {h : Hd} {m : Nat} {b : Int} (hb : 0 < b) (hb2 : b ≤ 10 ^ 400) (hm : m ≤ 1000) (P : Pen h)
    (st : ∀ (i : Nat) h, i < m → Pen h → ∃ s1, g (.int (i : Int)) s h = .ok () s1 h ∧ (∀ d h', m_law_draw [.ref 0, .int b] h = .ok (.int d) [] h' → ∃ s2, e s1 h = .ok (.int d) s2 h' ∧ wipeD s2 vs = s)) :
    ∃ (T : List Int) (h' : Hd), cloop vs g mYes e (rg 0 m) [] s h = .ok (T.map D.int) s h' ∧ T.length = m ∧ (∀ x ∈ T, 0 ≤ x ∧ x < b) ∧ Pen h' := by
  obtain ⟨ys, h', e1, e2, ⟨P', T, e3, e4⟩⟩ := cloop_ok (vs := vs) (g := g) (e := e) (xs := rg 0 m) (s := s) (h := h) (fun _ acc h => Pen h ∧ ∃ T : List Int, acc = T.map D.int ∧ ∀ x ∈ T, 0 ≤ x ∧ x < b) ⟨P, [], rfl, by simp⟩ (by rw [rg_len]; exact hm)
    (fun i x acc h hx ha ⟨P, T, e3, e4⟩ => by
      obtain ⟨hi, rfl⟩ := rg_at hx
      obtain ⟨d, h', ed, d0, d1, P'⟩ := draw_ok P hb hb2
      obtain ⟨s1, f1, f2⟩ := st i h hi P
      obtain ⟨s2, f3, f4⟩ := f2 d h' ed
      refine ⟨s1, .int d, s2, h', f1, f3, f4, P', T ++ [d], by simp [e3], fun x hx => ?_⟩
      rcases List.mem_append.mp hx with hx | hx
      · exact e4 x hx
      · rw [List.mem_singleton] at hx
        subst hx
        exact ⟨d0, d1⟩)
  rw [rg_len] at e2
  refine ⟨T, h', by rw [e1, e3], ?_, e4, P'⟩
  rw [e3] at e2
  simpa using e2
theorem times_ok {h : Hd} (P : Pen h) {n : Nat} (hn : n ≤ 300) : ∃ (T : List Int) (p : Int) (h' : Hd), m_law_times [.ref 0, .int (n : Int)] h = .ok (.tup [.tup (T.map .int), .int p]) [] h' ∧ T.length = 3 * n ∧ NN T ∧ (∀ x ∈ T, x ≤ 100000000000) ∧ 1 ≤ p ∧ p ≤ 10 ∧ Pen h' := by
  obtain ⟨d, h1, e, hd, P1⟩ := one_of_ok P (xs := [.int 2, .int 3, .int 6, .int 12, .int 100, .int 100000000000]) (by simp) (by simp)
  have ht : ∃ t : Int, d = .int t ∧ 2 ≤ t ∧ t ≤ 100000000000 := by
    simp only [List.mem_cons, List.not_mem_nil, or_false] at hd
    rcases hd with rfl | rfl | rfl | rfl | rfl | rfl <;> exact ⟨_, rfl, by decide, by decide⟩
  obtain ⟨t, rfl, t0, t1⟩ := ht
  have e0 : st_law_times_0 [.val (.ref 0), .val (.int (n : Int)), .no, .no, .no] h = .ok .nx [.val (.ref 0), .val (.int (n : Int)), .val (.int t), .no, .no] h1 := by
    simp [st_law_times_0, pow11, e]
  obtain ⟨T, h2, e1, hT, hx, P2⟩ := draws_ok (vs := [4]) (g := gN 4) (e := ce_law_times_0) (s := [.val (.ref 0), .val (.int (n : Int)), .val (.int t), .no, .no]) (h := h1) (m := 3 * n) (b := t + 1) (by omega) (by omega) (by omega) P1
    (fun i h hi P => ⟨_, rfl, fun d h' ed => ⟨_, by simp [ce_law_times_0, ed]; rfl, rfl⟩⟩)
  have sm : small (3 * (n : Int)) = true := small_of (by omega) (by omega)
  have tn : (3 * (n : Int)).toNat = 3 * n := by omega
  have e1' : st_law_times_1 [.val (.ref 0), .val (.int (n : Int)), .val (.int t), .no, .no] h1 = .ok .nx [.val (.ref 0), .val (.int (n : Int)), .val (.int t), .val (.tup (T.map .int)), .no] h2 := by
    simp [st_law_times_1, mul3, sm, tn, wipeD, e1, backD, keepD]
  obtain ⟨d, h3, e3, hd, P3⟩ := one_of_ok P2 (xs := [.int 1, .int 1, .int 1, .int 2, .int 3, .int 10]) (by simp) (by simp)
  have ht : ∃ p : Int, d = .int p ∧ 1 ≤ p ∧ p ≤ 10 := by
    simp only [List.mem_cons, List.not_mem_nil, or_false] at hd
    rcases hd with rfl | rfl | rfl | rfl | rfl | rfl <;> exact ⟨_, rfl, by decide, by decide⟩
  obtain ⟨p, rfl, p0, p1⟩ := ht
  refine ⟨T, p, h3, ?_, hT, fun x h => (hx x h).1, fun x h => by have := (hx x h).2; omega, p0, p1, P3⟩
  have st : m_law_times [.ref 0, .int (n : Int)] h = fin (b_law_times [.val (.ref 0), .val (.int (n : Int)), .no, .no, .no] h) := rfl
  rw [st]
  unfold b_law_times
  rw [seq_nx e0, seq_nx e1']
  simp [st_law_times_2, e3]
def en : Option Nat → D
  | none => .non
  | some t => .int (t : Int)
def okE (n : Nat) : Option Nat → Prop
  | none => True
  | some t => t < 3 * n
abbrev Fc := Option Nat × Option Nat × Int
def fcD (f : Fc) : D := .tup [en f.1, en f.2.1, .int f.2.2]
def okF (n : Nat) (f : Fc) : Prop := okE n f.1 ∧ okE n f.2.1 ∧ f.1 ≠ f.2.1 ∧ -(10 ^ 12) ≤ f.2.2 ∧ f.2.2 ≤ 10 ^ 12
def bkD (n : Nat) (fs : List Fc) : D := .tup [.int (n : Int), .tup (fs.map fcD)]
def tmD (T : List Int) (p : Int) : D := .tup [.tup (T.map .int), .int p]
def tnum (T : List Int) : Option Nat → Int
  | none => 0
  | some t => T.getD t 0
def holdsF (T : List Int) (p : Int) (f : Fc) : Prop := tnum T f.1 ≤ tnum T f.2.1 + f.2.2 * p
theorem ne_en {h : Hd} {a b : Option Nat} : neD h (en a) (en b) = some (.bl (!decide (a = b))) := by
  cases a with
  | none =>
    cases b with
    | none => rfl
    | some b => rfl
  | some a =>
    cases b with
    | none => rfl
    | some b =>
      show some (D.bl (!decide ((a : Int) = b))) = _
      have e : ((a : Int) = b) = (some a = some b) := by
        refine propext ⟨fun h => ?_, fun h => ?_⟩
        · congr 1; omega
        · cases h; rfl
      simp only [e]
theorem two_ends_wp {h : Hd} {n : Nat} {Q : D → Sd → Hd → Prop} {E : Ex} (P : Pen h) (n1 : 1 ≤ n) (n2 : n ≤ 300) (k : ∀ x y h', okE n x → okE n y → x ≠ y → Pen h' → Q (.tup [en x, en y]) [] h') : Wq Q E () (m_law_two_ends [.ref 0, .int (n : Int)] h) := by
  have sm : small (3 * (n : Int)) = true := small_of (by omega) (by omega)
  have tn : (3 * (n : Int)).toNat = 3 * n := by omega
  let L : List (Option Nat) := none :: (List.range (3 * n)).map some
  have eL : D.non :: rg 0 (3 * n) = L.map en := by
    simp only [L, List.map_cons, List.map_map, rg0]
    rfl
  have lL : L.length = 3 * n + 1 := by simp [L]
  have mL : ∀ x, x ∈ L → okE n x := by
    intro x hx
    cases x with
    | none => trivial
    | some t =>
      simp [L] at hx
      exact hx
  have a1 : ∀ h : Hd, addD h (.lst [.non]) (.lst (rg 0 (3 * n))) = some (.lst (L.map en)) := fun h => by
    show (if [D.non].length + (rg 0 (3 * n)).length ≤ 100000 then some (D.lst ([.non] ++ rg 0 (3 * n))) else none) = _
    rw [if_pos (by rw [rg_len]; simp; omega), ← eL]
    rfl
  have s1 : ∀ h : Hd, slD h (.lst (L.map en)) (some 1) none = some (.lst ((L.map en).drop 1)) := fun h => by
    show some (D.lst (cut (L.map en) (some 1) none)) = _
    rw [show (1 : Int) = ((1 : Nat) : Int) from rfl, cut_from (by simp; omega)]
  have a2 : ∀ h : Hd, addD h (.lst (L.map en)) (.lst ((L.map en).drop 1)) = some (.lst (L.map en ++ (L.map en).drop 1)) := fun h => by
    show (if (L.map en).length + ((L.map en).drop 1).length ≤ 100000 then some (D.lst (L.map en ++ (L.map en).drop 1)) else none) = _
    rw [if_pos (by simp; omega)]
  simp! [st_law_two_ends_0, st_law_two_ends_1, st_law_two_ends_2, b_law_two_ends, m_law_two_ends, mul3, sm, tn]
  refine ⟨by have := congrArg List.length eL; simp only [List.length_cons, List.length_map, lL] at this; omega, ?_⟩
  rw [eL]
  simp! [s1, a2]
  refine one_of_wp P (by simp [L]) (by simp; omega) fun d h1 hd P1 => ?_
  obtain ⟨x, hx, rfl⟩ : ∃ x, x ∈ L ∧ en x = d := by
    rcases List.mem_append.mp hd with hd | hd
    · obtain ⟨x, h1, h2⟩ := List.mem_map.mp hd
      exact ⟨x, h1, h2⟩
    · obtain ⟨x, h1, h2⟩ := List.mem_map.mp (List.mem_of_mem_drop hd)
      exact ⟨x, h1, h2⟩
  simp!
  refine Wq.cfm (fun d => match neD h1 d (en x) with | some (.bl b) => b | _ => false) (fun d => d) (by simp; omega) ?_ ?_
  · intro i d hd
    obtain ⟨y, _, rfl⟩ := List.mem_map.mp (List.mem_of_getElem? hd)
    simp! [ct_law_two_ends_0, ne_en]
    refine Cd.mk (fun e => ?_) (fun e => ?_)
    · simp! [ce_law_two_ends_0]
    · trivial
  · simp!
    rw [List.map_id']
    have ef : (L.map en).filter (fun d => match neD h1 d (en x) with | some (.bl b) => b | _ => false) = (L.filter fun y => !decide (y = x)).map en := by
      rw [List.filter_map]
      congr 1
      refine List.filter_congr fun y _ => ?_
      simp only [Function.comp, ne_en]
    rw [ef]
    refine one_of_wp P1 ?_ ?_ fun d h2 hd P2 => ?_
    · have hm : (some (if x = some 0 then 1 else 0) : Option Nat) ∈ L := by
        have h3 : (if x = some 0 then 1 else 0) < 3 * n := by split <;> omega
        simp only [L, List.mem_cons, List.mem_map, List.mem_range]
        exact .inr ⟨_, h3, rfl⟩
      have hne : ¬ (some (if x = some 0 then 1 else 0) : Option Nat) = x := by
        split
        · rename_i hx0
          rw [hx0]
          simp
        · rename_i hx0
          exact fun z => hx0 z.symm
      intro z
      have hz : (some (if x = some 0 then 1 else 0) : Option Nat) ∈ L.filter fun y => !decide (y = x) := List.mem_filter.mpr ⟨hm, by simpa using hne⟩
      rw [List.map_eq_nil_iff] at z
      rw [z] at hz
      cases hz
    · have := List.length_filter_le (fun y => !decide (y = x)) L
      rw [List.length_map]
      omega
    · obtain ⟨y, hy, rfl⟩ := List.mem_map.mp hd
      obtain ⟨hy1, hy2⟩ := List.mem_filter.mp hy
      simp!
      exact k x y h2 (mL x hx) (mL y hy1) (fun e => by subst e; simp at hy2) P2
theorem number_wp {h : Hd} {T : List Int} {p : Int} {n : Nat} {x : Option Nat} {Q : D → Sd → Hd → Prop} {E : Ex} (hT : T.length = 3 * n) (hx : okE n x) (k : Q (.int (tnum T x)) [] h) : Wq Q E () (m_law_number [tmD T p, en x] h) := by
  cases x with
  | none =>
    have e : isND h .non .non = some (.bl true) := rfl
    simp! [st_law_number_0, b_law_number, m_law_number, en, e]
    exact k
  | some t =>
    have ht : t < 3 * n := hx
    have e : isND h (.int (t : Int)) .non = some (.bl false) := rfl
    have ix : atI (T.map D.int) (t : Int) = some (.int (T.getD t 0)) := by
      rw [atI_int (by omega) (by omega)]
      simp
    simp! [st_law_number_0, b_law_number, m_law_number, en, e, tmD, at_0, ix]
    exact k
theorem tnum_b {T : List Int} {B : Int} {x : Option Nat} (hT : ∀ x ∈ T, 0 ≤ x ∧ x ≤ B) (hB : 0 ≤ B) : 0 ≤ tnum T x ∧ tnum T x ≤ B := by
  cases x with
  | none => exact ⟨Int.le_refl _, hB⟩
  | some t =>
    show 0 ≤ T.getD t 0 ∧ T.getD t 0 ≤ B
    rw [List.getD_eq_getElem?_getD]
    cases e : T[t]? with
    | none => exact ⟨by simp, by simpa using hB⟩
    | some y => exact hT y (List.mem_of_getElem? e)
theorem true_fact_wp {h : Hd} {T : List Int} {p : Int} {n : Nat} {Q : D → Sd → Hd → Prop} {E : Ex} (P : Pen h) (n1 : 1 ≤ n) (n2 : n ≤ 300) (hT : T.length = 3 * n) (hB : ∀ x ∈ T, 0 ≤ x ∧ x ≤ 10 ^ 11) (p1 : 1 ≤ p) (p2 : p ≤ 10)
    (k : ∀ f h', okF n f → holdsF T p f → Pen h' → Q (fcD f) [] h') : Wq Q E () (m_law_true_fact [.ref 0, .int (n : Int), tmD T p] h) := by
  simp! [st_law_true_fact_0, st_law_true_fact_1, st_law_true_fact_2, st_law_true_fact_3, b_law_true_fact, m_law_true_fact]
  refine two_ends_wp P n1 n2 fun x y h1 ex ey ne P1 => ?_
  simp!
  refine number_wp hT ex ?_
  simp!
  refine number_wp hT ey ?_
  have bx := tnum_b (x := x) hB (by decide)
  have by_ := tnum_b (x := y) hB (by decide)
  have fd : fdvD h1 (.int (-(tnum T x - tnum T y))) (.int p) = some (.int (-(tnum T x - tnum T y) / p)) := fdv_p (by omega) (bnd_of (by omega) (by omega))
  simp! [tmD, at_1, fd]
  refine one_of_wp P1 (by simp) (by simp) fun d h2 hd P2 => ?_
  obtain ⟨j, rfl, j0, j1⟩ : ∃ j : Int, d = .int j ∧ 0 ≤ j ∧ j ≤ 40 := by
    simp only [List.mem_cons, List.not_mem_nil, or_false] at hd
    rcases hd with rfl | rfl | rfl | rfl | rfl | rfl | rfl <;> exact ⟨_, rfl, by decide, by decide⟩
  simp!
  have q1 := Int.mul_ediv_add_emod (-(tnum T x - tnum T y)) p
  have q2 := Int.emod_nonneg (-(tnum T x - tnum T y)) (show p ≠ 0 by omega)
  have q3 := Int.emod_lt_of_pos (-(tnum T x - tnum T y)) (show 0 < p by omega)
  refine k (x, y, -(-(tnum T x - tnum T y) / p) + j) h2 ⟨ex, ey, ne, ?_, ?_⟩ ?_ P2
  · show -(10 ^ 12) ≤ -(-(tnum T x - tnum T y) / p) + j
    have : -(tnum T x - tnum T y) / p ≤ 10 ^ 11 := Int.ediv_le_of_le_mul (by omega) (by
      have : (10 : Int) ^ 11 * 1 ≤ 10 ^ 11 * p := Int.mul_le_mul_of_nonneg_left p1 (by decide)
      omega)
    omega
  · show -(-(tnum T x - tnum T y) / p) + j ≤ 10 ^ 12
    have : -(10 ^ 11) ≤ -(tnum T x - tnum T y) / p := Int.le_ediv_of_mul_le (by omega) (by
      have : -(10 : Int) ^ 11 * p ≤ -(10 ^ 11) * 1 := Int.mul_le_mul_of_nonpos_left (by decide) p1
      omega)
    omega
  · show tnum T x ≤ tnum T y + (-(-(tnum T x - tnum T y) / p) + j) * p
    have e1 : (-(-(tnum T x - tnum T y) / p) + j) * p = -(p * (-(tnum T x - tnum T y) / p)) + j * p := by
      rw [Int.add_mul, Int.neg_mul, Int.mul_comm p]
    have e2 : 0 ≤ j * p := Int.mul_nonneg j0 (by omega)
    omega
theorem Wq.times {h : Hd} {n : Nat} {Q : D → Sd → Hd → Prop} {E : Ex} (P : Pen h) (n2 : n ≤ 300) (k : ∀ T p h', T.length = 3 * n → (∀ x ∈ T, 0 ≤ x ∧ x ≤ 10 ^ 11) → 1 ≤ p → p ≤ 10 → Pen h' → Q (tmD T p) [] h') : Wq Q E () (m_law_times [.ref 0, .int (n : Int)] h) := by
  obtain ⟨T, p, h', e, hT, hN, hB, p1, p2, P'⟩ := times_ok P n2
  exact Wq.of e (k T p h' hT (fun x hx => ⟨hN x hx, by have := hB x hx; omega⟩) p1 p2 P')
theorem book_wp {h : Hd} {n m : Nat} {Q : D → Sd → Hd → Prop} {E : Ex} (P : Pen h) (n1 : 1 ≤ n) (n2 : n ≤ 300) (hm : m ≤ 1000)
    (k : ∀ fs T p h', fs.length ≤ m → (∀ f ∈ fs, okF n f) → T.length = 3 * n → (∀ x ∈ T, 0 ≤ x ∧ x ≤ 10 ^ 11) → 1 ≤ p → p ≤ 10 → (∀ f ∈ fs, holdsF T p f) → Pen h' → Q (.tup [bkD n fs, tmD T p]) [] h') : Wq Q E () (m_law_book [.ref 0, .int (n : Int), .int (m : Int)] h) := by
  simp! [st_law_book_0, st_law_book_1, st_law_book_2, b_law_book, m_law_book]
  refine Wq.times P n2 fun T p h1 hT hB p1 p2 P1 => ?_
  simp!
  refine draw_wp P1 (by omega) (by omega) fun c h2 c0 c1 P2 => ?_
  have sm : small c = true := small_of (by omega) (by omega)
  simp! [sm]
  refine Wq.cloop (fun i acc h => Pen h ∧ ∃ fs : List Fc, acc = fs.map fcD ∧ fs.length = i ∧ (∀ f ∈ fs, okF n f) ∧ ∀ f ∈ fs, holdsF T p f) ?_ ?_ ?_
  · exact ⟨P2, [], rfl, rfl, by simp, by simp⟩
  · rintro i x acc h hx ⟨P, fs, rfl, hl, ok, ho⟩
    have hi : i < c.toNat := (rg_at hx).1
    simp! [ce_law_book_0]
    refine true_fact_wp P n1 n2 hT hB p1 p2 fun f h' f1 f2 P' => ?_
    simp!
    refine ⟨by simp; omega, P', fs ++ [f], by simp, by simp [hl], fun g hg => ?_, fun g hg => ?_⟩
    · rcases List.mem_append.mp hg with hg | hg
      · exact ok g hg
      · rw [List.mem_singleton.mp hg]; exact f1
    · rcases List.mem_append.mp hg with hg | hg
      · exact ho g hg
      · rw [List.mem_singleton.mp hg]; exact f2
  · rintro acc h ⟨P, fs, rfl, hl, ok, ho⟩
    rw [rg_len] at hl
    simp!
    exact k fs T p h (by omega) ok hT hB p1 p2 ho P
theorem any_book_wp {h : Hd} {n m : Nat} {Q : D → Sd → Hd → Prop} {E : Ex} (P : Pen h) (n1 : 1 ≤ n) (n2 : n ≤ 300) (hm : m ≤ 30)
    (k : ∀ fs h', fs.length ≤ m + 2 → (∀ f ∈ fs, okF n f) → Pen h' → Q (bkD n fs) [] h') : Wq Q E () (m_law_any_book [.ref 0, .int (n : Int), .int (m : Int)] h) := by
  simp! [st_law_any_book_0, st_law_any_book_1, st_law_any_book_2, st_law_any_book_3, b_law_any_book, m_law_any_book]
  refine book_wp P n1 n2 (by omega) fun fs T p h1 l1 ok hT hB p1 p2 ho P1 => ?_
  have sq : seqOf h1 (.tup (fs.map fcD)) = some (fs.map fcD) := rfl
  simp! [bkD, at_1, sq]
  refine draw_wp P1 (by omega) (by omega) fun c h2 c0 c1 P2 => ?_
  have sm : small c = true := small_of (by omega) (by omega)
  simp! [sm]
  refine Wq.loop (fun i s h => (∃ (gs : List Fc) (a6 a7 a8 : Sl), s = [.val (.ref 0), .val (.int (n : Int)), .val (.int (m : Int)), .val (bkD n fs), .val (tmD T p), .own (gs.map fcD), a6, a7, a8] ∧ gs.length = fs.length + i ∧ ∀ f ∈ gs, okF n f) ∧ Pen h) ?_ ?_ ?_
  · exact ⟨⟨fs, _, _, _, rfl, rfl, ok⟩, P2⟩
  · rintro i x s h hx ⟨⟨gs, a6, a7, a8, rfl, gl, go⟩, P⟩
    have hi : i < c.toNat := (rg_at hx).1
    simp! [lb_law_any_book_0]
    refine two_ends_wp P n1 n2 fun x y h' ex ey ne P' => ?_
    simp!
    refine draw_wp P' (by omega) (by omega) fun b h3 b0 b1 P3 => ?_
    simp!
    refine ⟨by simp; omega, ⟨gs ++ [(x, y, b - 8)], _, _, _, by rw [List.map_append]; rfl, by simp; omega, fun f hf => ?_⟩, P3⟩
    rcases List.mem_append.mp hf with hf | hf
    · exact go f hf
    · rw [List.mem_singleton.mp hf]
      exact ⟨ex, ey, ne, by show -(10 ^ 12) ≤ b - 8; omega, by show b - 8 ≤ 10 ^ 12; omega⟩
  · rintro s h ⟨⟨gs, a6, a7, a8, rfl, gl, go⟩, P⟩
    rw [rg_len] at gl
    have s1 : slD h (.lst (gs.map fcD)) none (some 40) = some (.lst (gs.map fcD)) := by
      show some (D.lst (cut (gs.map fcD) none (some 40))) = _
      unfold cut
      rw [show (40 : Int) = ((40 : Nat) : Int) from rfl, HT.sIx_nat]
      have hz : HT.sIx (gs.map fcD).length 0 none = 0 := rfl
      rw [hz, List.drop_zero, Nat.sub_zero, List.take_of_length_le (by simp; omega)]
    simp! [s1]
    exact k gs h (by omega) go P
def whB (lo hi : Int) : D → Bool
  | .int i => decide (lo ≤ i) && decide (i ≤ hi)
  | _ => false
theorem within_wp {h : Hd} {d : D} {lo hi : Int} {Q : D → Sd → Hd → Prop} {E : Ex} (hr : NoR d) (k : Q (.bl (whB lo hi d)) [] h) : Wq Q E () (m_is_within [d, .int lo, .int hi] h) := by
  cases d with
  | ref i => exact absurd rfl (hr i)
  | int i =>
    simp! only [st_is_within_0, b_is_within, m_is_within, st_is_integer_0, b_is_integer, m_is_integer]
    refine Cd.mk (fun e => ?_) (fun e => ?_)
    · simp!
      rw [whB, e, Bool.true_and] at k
      exact k
    · rw [whB, e, Bool.false_and] at k
      exact k
  | _ =>
    simp! only [st_is_within_0, b_is_within, m_is_within, st_is_integer_0, b_is_integer, m_is_integer]
    exact k
theorem cut1 (xs : List D) : cut xs none (some 1) = xs.take 1 := by
  cases xs with
  | nil => rfl
  | cons x xs => exact cut_to (k := 1) (by simp)
theorem sl1 {h : Hd} {ys : List D} : slD h (.lst ys) none (some 1) = some (.lst (ys.take 1)) := by
  show some (D.lst (cut ys none (some 1))) = _
  rw [cut1]
def endB (n : Int) : D → Bool
  | .non => true
  | d => whB 0 (3 * n - 1) d
def sameE : D → D → Bool
  | .non, .non => true
  | .int i, .int j => decide (i = j)
  | _, _ => false
def factB (n : Int) : D → Bool
  | .tup [x, y, f] => endB n x && (endB n y && (!sameE x y && whB (-1000000000000) 1000000000000 f))
  | _ => false
theorem is_non {h : Hd} {d : D} : isND h d .non = some (.bl (match d with | .non => true | _ => false)) := by cases d <;> rfl
theorem mul3n {h : Hd} {z : Int} : mulD h (.int 3) (.int z) = some (.int (3 * z)) := mul_l (by decide)
theorem is_end_wp {h : Hd} {d : D} {n : Int} {Q : D → Sd → Hd → Prop} {E : Ex} (hr : NoR d) (k : Q (.bl (endB n d)) [] h) : Wq Q E () (m_is_end [.int n, d] h) := by
  cases d with
  | non =>
    simp! [st_is_end_0, b_is_end, m_is_end, is_non]
    exact k
  | _ =>
    simp! [st_is_end_0, b_is_end, m_is_end, is_non, mul3n]
    refine within_wp hr ?_
    simp!
    exact k
theorem endB_cases {n : Int} {d : D} (h : endB n d = true) : d = .non ∨ ∃ i : Int, d = .int i := by
  cases d with
  | non => exact .inl rfl
  | int i => exact .inr ⟨i, rfl⟩
  | _ => cases h
theorem eqX_ends {h : Hd} {n : Int} {x y : D} (h1 : endB n x = true) (h2 : endB n y = true) : eqX h x y = some (.bl (sameE x y)) := by
  rcases endB_cases h1 with rfl | ⟨i, rfl⟩ <;> rcases endB_cases h2 with rfl | ⟨j, rfl⟩ <;> rfl
theorem is_fact_wp {h : Hd} {d : D} {n m : Int} {b k : Nat} {Q : D → Sd → Hd → Prop} {E : Ex} (hd : Fd m b k d) (kk : Q (.bl (factB n d)) [] h) : Wq Q E () (m_is_fact [.int n, d] h) := by
  cases d with
  | ref i => exact hd.elim
  | tup xs =>
    obtain ⟨j, ej, hx⟩ := hd
    by_cases hl : xs.length = 3
    · obtain ⟨x, y, z, rfl⟩ : ∃ x y z, xs = [x, y, z] := by
        match xs, hl with
        | [x, y, z], _ => exact ⟨x, y, z, rfl⟩
      have nx : NoR x := (hx.mem (by simp)).nr
      have ny : NoR y := (hx.mem (by simp)).nr
      have nz : NoR z := (hx.mem (by simp)).nr
      simp! only [st_is_fact_0, st_is_fact_1, st_is_fact_2, b_is_fact, m_is_fact, at_0, at_1, at_2]
      refine is_end_wp nx ?_
      cases ex : endB n x with
      | false =>
        simp!
        simp only [factB, ex, Bool.false_and] at kk
        exact kk
      | true =>
        simp!
        refine is_end_wp ny ?_
        cases ey : endB n y with
        | false =>
          simp!
          simp only [factB, ex, ey, Bool.false_and, Bool.true_and] at kk
          exact kk
        | true =>
          simp! [eqX_ends ex ey, at_0, at_1]
          cases es : sameE x y with
          | true =>
            simp!
            simp only [factB, ex, ey, es, Bool.not_true, Bool.false_and, Bool.true_and] at kk
            exact kk
          | false =>
            simp! [at_2]
            refine within_wp nz ?_
            simp!
            simp only [factB, ex, ey, es, Bool.not_false, Bool.true_and] at kk
            exact kk
    · have hl2 : ¬ (xs.length : Int) = 3 := by omega
      simp! only [st_is_fact_0, st_is_fact_1, st_is_fact_2, b_is_fact, m_is_fact, decide_eq_false hl2]
      have e : factB n (.tup xs) = false := by
        match xs, hl with
        | [], _ => rfl
        | [_], _ => rfl
        | [_, _], _ => rfl
        | _ :: _ :: _ :: _ :: _, _ => rfl
      rw [e] at kk
      exact kk
  | _ =>
    simp! only [st_is_fact_0, st_is_fact_1, st_is_fact_2, b_is_fact, m_is_fact]
    exact kk
abbrev sg (k : Nat) : Str := ⟨#[k]⟩
theorem tl_sg (k : Nat) : TL.tl (sg k) = [k] := rfl
def ss (k : Nat) : List Nat → List (List Nat)
  | [] => [[]]
  | c :: r => if c = k then [] :: ss k r else match ss k r with
    | p :: ps => (c :: p) :: ps
    | [] => [[c]]
theorem ss_ne (k : Nat) : ∀ l, ss k l ≠ []
  | [] => by simp [ss]
  | c :: r => by
    unfold ss
    split
    · simp
    · split <;> simp
theorem ss_free (k : Nat) : ∀ l, ∀ p ∈ ss k l, k ∉ p
  | [], p, h => by
    simp [ss] at h
    subst h
    simp
  | c :: r, p, h => by
    have ih := ss_free k r
    unfold ss at h
    split at h
    · rcases List.mem_cons.mp h with h | h
      · subst h; simp
      · exact ih p h
    · rename_i hc
      split at h
      · rename_i q qs e
        rw [e] at ih
        rcases List.mem_cons.mp h with h | h
        · subst h
          simp only [List.mem_cons, not_or]
          exact ⟨fun z => hc z.symm, ih q List.mem_cons_self⟩
        · exact ih p (List.mem_cons_of_mem _ h)
      · rename_i e
        exact (ss_ne k r e).elim
theorem ss_join (k : Nat) : ∀ l, TL.joinL [k] (ss k l) = l
  | [] => rfl
  | c :: r => by
    have ih := ss_join k r
    have hn := ss_ne k r
    unfold ss
    split
    · rename_i hc
      subst hc
      cases e : ss c r with
      | nil => exact (hn e).elim
      | cons q qs =>
        rw [e] at ih
        show [] ++ ([c] ++ TL.joinL [c] (q :: qs)) = _
        rw [ih]
        rfl
    · split
      · rename_i q qs e
        rw [e] at ih
        cases qs with
        | nil =>
          have ih2 : q = r := ih
          rw [ih2]
          rfl
        | cons q2 qs =>
          show (c :: q) ++ ([k] ++ TL.joinL [k] (q2 :: qs)) = _
          have ih2 : q ++ ([k] ++ TL.joinL [k] (q2 :: qs)) = r := ih
          rw [List.cons_append, ih2]
      · rename_i e
        exact (hn e).elim
theorem split_facts {x : Str} {k : Nat} (hk : k < 256) : ∃ ps : List Str, Txt.split x (sg k) = ps ∧ ps ≠ [] ∧ (∀ p ∈ ps, k ∉ TL.tl p) ∧ Str.join (sg k) ps = x := by
  have ks : (sg k).cps.all (· < 256) = true := by simp [hk]
  have e1 : (Txt.split x (sg k)).map TL.tl = TL.spl [k] 0 [] (TL.tl x) := TL.split_spl x (sg k) (by simp [TL.tl]) (TL.kind_ok ks)
  have e2 := TL.spl_join (s := k) (S := []) (ss_ne k (TL.tl x)) (ss_free k (TL.tl x))
  rw [ss_join] at e2
  rw [e2] at e1
  refine ⟨_, rfl, fun z => ?_, fun p hp => ?_, ?_⟩
  · rw [z] at e1
    exact ss_ne k _ e1.symm
  · exact ss_free k (TL.tl x) _ (by rw [← e1]; exact List.mem_map_of_mem hp)
  · refine TL.ext_tl ?_
    rw [TL.tl_join, e1, tl_sg, ss_join]
theorem split_of {k : Nat} (hk : k < 256) {ps : List Str} (hne : ps ≠ []) (hp : ∀ p ∈ ps, k ∉ TL.tl p) : Txt.split (Str.join (sg k) ps) (sg k) = ps := by
  have e := TL.split_join (y := sg k) (s := k) (S := []) rfl (by simp [hk]) hne hp
  rwa [TL.join_eq] at e
theorem len_app (a b : Str) : (a ++ b).length = a.length + b.length := by
  rw [TL.len_tl, TL.tl_append, List.length_append, ← TL.len_tl, ← TL.len_tl]
theorem joinL_len {S : List Nat} : ∀ ps : List (List Nat), ps ≠ [] → (TL.joinL S ps).length + S.length = (ps.map (·.length)).sum + ps.length * S.length
  | [], h => absurd rfl h
  | [p], _ => by simp [TL.joinL]
  | p :: q :: r, _ => by
    have ih := joinL_len (S := S) (q :: r) (by simp)
    show (p ++ (S ++ TL.joinL S (q :: r))).length + S.length = _
    rw [List.length_append, List.length_append, List.map_cons, List.sum_cons, List.length_cons, Nat.succ_mul]
    omega
theorem join_len {sep : Str} {ps : List Str} (h : ps ≠ []) : (Str.join sep ps).length + sep.length = (ps.map (·.length)).sum + ps.length * sep.length := by
  have e := joinL_len (S := TL.tl sep) (ps.map TL.tl) (fun z => h (List.map_eq_nil_iff.mp z))
  rw [← TL.tl_join, ← TL.len_tl, ← TL.len_tl, List.map_map, List.length_map] at e
  rw [e]
  congr 2
theorem sum_mem {α : Type} {f : α → Nat} : ∀ {l : List α} {a : α}, a ∈ l → f a ≤ (l.map f).sum
  | b :: l, a, h => by
    rw [List.map_cons, List.sum_cons]
    rcases List.mem_cons.mp h with h | h
    · subst h; omega
    · have := sum_mem (f := f) h; omega
theorem piece_len {k : Nat} {x : Str} {ps : List Str} (hn : ps ≠ []) (e : Str.join (sg k) ps = x) : (ps.map (·.length)).sum + ps.length = x.length + 1 := by
  have h := join_len (sep := sg k) hn
  rw [e] at h
  have e1 : (sg k).length = 1 := rfl
  rw [e1] at h
  omega
theorem piece_le {k : Nat} {x : Str} {ps : List Str} (hn : ps ≠ []) (e : Str.join (sg k) ps = x) : ps.length ≤ x.length + 1 ∧ ∀ p ∈ ps, p.length ≤ x.length := by
  have h := piece_len hn e
  refine ⟨by omega, fun p hp => ?_⟩
  have h2 := sum_mem (f := fun p : Str => p.length) hp
  have h3 : 0 < ps.length := List.length_pos_iff.mpr hn
  omega
def As (x : Str) : Prop := ∀ c ∈ TL.tl x, c < 128
theorem As.app {x y : Str} (h : As x) (g : As y) : As (x ++ y) := fun c hc => by
  rw [TL.tl_append] at hc
  rcases List.mem_append.mp hc with z | z
  · exact h c z
  · exact g c z
theorem mem_joinL {S : List Nat} {c : Nat} : ∀ {ps : List (List Nat)}, c ∈ TL.joinL S ps → (∃ p ∈ ps, c ∈ p) ∨ c ∈ S
  | [p], h => .inl ⟨p, List.mem_singleton.mpr rfl, h⟩
  | p :: q :: r, h => by
    have h2 : c ∈ p ++ (S ++ TL.joinL S (q :: r)) := h
    rcases List.mem_append.mp h2 with z | z
    · exact .inl ⟨p, List.mem_cons_self, z⟩
    · rcases List.mem_append.mp z with z | z
      · exact .inr z
      · rcases mem_joinL z with ⟨u, hu, z⟩ | z
        · exact .inl ⟨u, List.mem_cons_of_mem _ hu, z⟩
        · exact .inr z
theorem joinL_mem {S : List Nat} {c : Nat} : ∀ {ps : List (List Nat)} {p : List Nat}, p ∈ ps → c ∈ p → c ∈ TL.joinL S ps
  | [q], p, h, hc => by
    rw [List.mem_singleton.mp h] at hc
    exact hc
  | q :: q2 :: r, p, h, hc => by
    show c ∈ q ++ (S ++ TL.joinL S (q2 :: r))
    rcases List.mem_cons.mp h with h | h
    · subst h
      exact List.mem_append_left _ hc
    · exact List.mem_append_right _ (List.mem_append_right _ (joinL_mem h hc))
theorem As.join {sep : Str} {ps : List Str} (hs : As sep) (h : ∀ p ∈ ps, As p) : As (Str.join sep ps) := fun c hc => by
  rw [TL.tl_join] at hc
  rcases mem_joinL hc with ⟨u, hu, z⟩ | z
  · obtain ⟨p, hp, rfl⟩ := List.mem_map.mp hu
    exact h p hp c z
  · exact hs c z
theorem As.piece {k : Nat} {x : Str} {ps : List Str} (h : As x) (e : Str.join (sg k) ps = x) : ∀ p ∈ ps, As p := fun p hp c hc => h c (by
  rw [← e, TL.tl_join]
  exact joinL_mem (List.mem_map_of_mem hp) hc)
theorem As.ok {x : Str} (h : As x) : PyData.strOk x = true := by
  unfold PyData.strOk
  rw [← Array.all_toList]
  exact List.all_eq_true.mpr fun c hc => decide_eq_true (Nat.lt_trans (h c hc) (by decide))
theorem as_sg {k : Nat} (h : k < 128) : As (sg k) := fun c hc => by
  rw [tl_sg] at hc
  rw [List.mem_singleton.mp hc]
  exact h
theorem pyL_strs : ∀ xs : List Str, D.pyL (xs.map .str) = some (xs.map PyData.str)
  | [] => rfl
  | x :: xs => by simp [D.pyL, D.py, pyL_strs xs]
theorem lay_strs : ∀ {xs : List Str}, (∀ x ∈ xs, As x) → PyData.canLayAll0 (xs.map PyData.str) = true
  | [], _ => rfl
  | x :: xs, h => by simp [PyData.canLayAll0, PyData.canLay0, (h x List.mem_cons_self).ok, lay_strs fun y hy => h y (List.mem_cons_of_mem _ hy)]
theorem dep_strs : ∀ xs : List Str, PyData.depthAll (xs.map PyData.str) = 0
  | [] => rfl
  | x :: xs => by simp [PyData.depthAll, PyData.depth, dep_strs xs]
theorem eqvS : ∀ a b : List Str, PyData.eqvAll (a.map PyData.str) (b.map PyData.str) = decide (a = b)
  | [], [] => by simp [PyData.eqvAll]
  | [], y :: b => by simp [PyData.eqvAll]
  | x :: a, [] => by simp [PyData.eqvAll]
  | x :: a, y :: b => by
    have ih := eqvS a b
    rw [List.map_cons, List.map_cons]
    simp only [PyData.eqvAll, PyData.eqv, ih]
    by_cases h1 : x = y <;> by_cases h2 : a = b <;> simp [h1, h2]
theorem eqB_strs {a b : List Str} (ha : ∀ x ∈ a, As x) (hb : ∀ x ∈ b, As x) : eqB (.lst (a.map .str)) (.lst (b.map .str)) = some (decide (a = b)) := by
  have sh : ∀ {c : List Str}, (∀ x ∈ c, As x) → SeqAt.shaped (.list (c.map PyData.str)) = true := fun {c} h => by
    simp [SeqAt.shaped, PyData.canLay0, lay_strs h, PyData.depth, dep_strs]
  unfold eqB
  simp only [D.py, pyL_strs, Option.map_some, sh ha, sh hb, Bool.and_self, if_true, PyData.eqv, eqvS]
theorem neD_strs {h : Hd} {a b : List Str} (ha : ∀ x ∈ a, As x) (hb : ∀ x ∈ b, As x) : neD h (.lst (a.map .str)) (.lst (b.map .str)) = some (.bl (!decide (a = b))) := by
  unfold neD
  rw [eqB_strs ha hb]
  rfl
theorem eqX_strs {h : Hd} {a b : List Str} (ha : ∀ x ∈ a, As x) (hb : ∀ x ∈ b, As x) : eqX h (.lst (a.map .str)) (.lst (b.map .str)) = some (.bl (decide (a = b))) := by
  show (eqB (.lst (a.map .str)) (.lst (b.map .str))).map D.bl = _
  rw [eqB_strs ha hb]
  rfl
theorem inX_strs {h : Hd} {x : Str} {ys : List Str} (hx : As x) (hy : ∀ y ∈ ys, As y) : inX h (.str x) (.lst (ys.map .str)) = some (.bl (decide (x ∈ ys))) := by
  have e : ∀ ys : List Str, ((ys.map PyData.str).any fun y => PyData.eqv y (.str x)) = decide (x ∈ ys) := by
    intro ys
    induction ys with
    | nil => simp
    | cons y ys ih =>
      rw [List.map_cons, List.any_cons, ih]
      by_cases h1 : y = x
      · subst h1; simp [PyData.eqv]
      · have : ¬ x = y := fun z => h1 z.symm
        simp [PyData.eqv, h1, this]
  show (anyQ (.str x) (ys.map .str)).map D.bl = _
  have q : anyQ (.str x) (ys.map .str) = some (decide (x ∈ ys)) := by
    show (match D.pyL (ys.map .str), D.py (.str x) with | some ds, some e => if PyData.canLayAll0 ds && e.canLay0 && decide (e.depth ≤ 40) then some (ds.any fun y => PyData.eqv y e) else none | _, _ => none) = _
    rw [pyL_strs]
    show (if PyData.canLayAll0 (ys.map PyData.str) && PyData.strOk x && decide (PyData.depth (.str x) ≤ 40) then some ((ys.map PyData.str).any fun y => PyData.eqv y (.str x)) else none) = _
    rw [lay_strs hy, hx.ok, e]
    rfl
  rw [q]
  rfl
abbrev nS (n : Nat) : Str := toString ((n : Nat) : Int)
theorem tl_nS (n : Nat) : TL.tl (nS n) = TL.numL n := TL.tl_num n
theorem as_nS (n : Nat) : As (nS n) := fun c hc => by
  rw [tl_nS] at hc
  have := TL.numL_digits n c hc
  omega
theorem nS_free {n k : Nat} (h : k < 48 ∨ 57 < k) : k ∉ TL.tl (nS n) := by
  rw [tl_nS]
  exact TL.numL_free h
theorem nS_len {n k : Nat} (hk : 0 < k) (h : n < 10 ^ k) : (nS n).length ≤ k := by
  rw [TL.len_tl, tl_nS]
  exact TL.numL_len hk h
theorem len_nS {n k : Nat} (h : (nS n).length ≤ k) : n < 10 ^ k := by
  rw [TL.len_tl, tl_nS] at h
  have key : ∀ (l : List Nat) (a : Nat), NumText.AllDigits l → l.foldl (fun acc c => acc * 10 + (c - 48)) a < (a + 1) * 10 ^ l.length := by
    intro l
    induction l with
    | nil => intro a _; simp
    | cons c l ih =>
      intro a hd
      have hc := hd.head
      have := ih (a * 10 + (c - 48)) hd.tail
      rw [List.foldl_cons, List.length_cons, Nat.pow_succ]
      refine Nat.lt_of_lt_of_le this ?_
      have h2 : a * 10 + (c - 48) + 1 ≤ (a + 1) * 10 := by omega
      calc (a * 10 + (c - 48) + 1) * 10 ^ l.length ≤ ((a + 1) * 10) * 10 ^ l.length := Nat.mul_le_mul_right _ h2
        _ = (a + 1) * (10 ^ l.length * 10) := by rw [Nat.mul_assoc, Nat.mul_comm 10]
  have e := key (TL.numL n) 0 (TL.numL_digits n)
  have ev : (TL.numL n).foldl (fun acc c => acc * 10 + (c - 48)) 0 = n := TL.numL_val n
  rw [ev] at e
  exact Nat.lt_of_lt_of_le e (by rw [Nat.zero_add, Nat.one_mul]; exact Nat.pow_le_pow_right (by decide) h)
theorem nS_int {n : Nat} (h : (nS n).length ≤ 4300) : PySem.intText? (nS n) = some (n : Int) := TL.int_num (by rw [← tl_nS, ← TL.len_tl]; exact h)
def isN (w : Str) : Bool := !decide (TL.tl w = []) && ((TL.tl w).all fun c => decide (48 ≤ c ∧ c ≤ 57)) && (decide (TL.tl w = [48]) || !decide ((TL.tl w).head? = some 48))
theorem isN_num : ∀ (m : Nat) (l : List Nat), l.length = m → l ≠ [] → NumText.AllDigits l → (l = [48] ∨ l.head? ≠ some 48) → l = TL.numL (NumText.digitsVal l) := by
  intro m
  induction m with
  | zero => intro l h hn; exact absurd (List.length_eq_zero_iff.mp h) hn
  | succ m ih =>
    intro l hl hn hd hz
    rcases List.eq_nil_or_concat l with e | ⟨r, c, e⟩
    · exact absurd e hn
    · rw [List.concat_eq_append] at e
      subst e
      have hc : 48 ≤ c ∧ c ≤ 57 := hd c (by simp)
      have ev : NumText.digitsVal (r ++ [c]) = NumText.digitsVal r * 10 + (c - 48) := by
        unfold NumText.digitsVal
        rw [List.foldl_append]
        rfl
      cases hr : r with
      | nil =>
        subst hr
        have e2 : NumText.digitsVal ([] ++ [c]) = c - 48 := by
          rw [ev]
          show 0 * 10 + (c - 48) = c - 48
          omega
        rw [e2, TL.numL_lt (by omega)]
        have : 48 + (c - 48) = c := by omega
        rw [this]
        rfl
      | cons a r' =>
        have hr2 : r ≠ [] := by rw [hr]; simp
        have hz2 : r = [48] ∨ r.head? ≠ some 48 := by
          right
          rcases hz with hz | hz
          · rw [hr] at hz
            simp at hz
          · rw [List.head?_append] at hz
            rw [hr] at hz ⊢
            simpa using hz
        have i := ih r (by simpa using hl) hr2 (fun x hx => hd x (List.mem_append_left _ hx)) hz2
        have hpos : 1 ≤ NumText.digitsVal r := by
          rcases Nat.eq_zero_or_pos (NumText.digitsVal r) with z | z
          · rw [z] at i
            rw [TL.numL_lt (by decide)] at i
            rcases hz with hz | hz
            · rw [i] at hz
              simp at hz
            · rw [List.head?_append, i] at hz
              exact absurd rfl hz
          · exact z
        rw [← hr, ev, TL.numL_step (by omega)]
        have e3 : (NumText.digitsVal r * 10 + (c - 48)) / 10 = NumText.digitsVal r := by omega
        have e4 : 48 + (NumText.digitsVal r * 10 + (c - 48)) % 10 = c := by omega
        rw [e3, e4, ← i]
theorem isN_nS {w : Str} (h : isN w = true) : ∃ n, w = nS n := by
  unfold isN at h
  simp only [Bool.and_eq_true, Bool.or_eq_true, Bool.not_eq_true', decide_eq_true_eq, decide_eq_false_iff_not, List.all_eq_true] at h
  obtain ⟨⟨h1, h2⟩, h3⟩ := h
  exact ⟨_, TL.ext_tl (by rw [tl_nS]; exact isN_num _ _ rfl h1 h2 h3)⟩
theorem nS_isN (n : Nat) : isN (nS n) = true := by
  unfold isN
  rw [tl_nS]
  simp only [Bool.and_eq_true, Bool.or_eq_true, Bool.not_eq_true', decide_eq_true_eq, decide_eq_false_iff_not, List.all_eq_true]
  refine ⟨⟨TL.numL_ne n, TL.numL_digits n⟩, ?_⟩
  induction n using Nat.strongRecOn with
  | _ n ih =>
    by_cases hn : n < 10
    · rw [TL.numL_lt hn]
      by_cases h0 : n = 0
      · left; rw [h0]
      · right
        intro z
        have := Option.some.inj z
        omega
    · right
      have h10 : 10 ≤ n := by omega
      rw [TL.numL_step h10, List.head?_append]
      have i := ih (n / 10) (by omega)
      intro z
      cases e : (TL.numL (n / 10)).head? with
      | none => exact TL.numL_ne _ (List.head?_eq_none_iff.mp e)
      | some c =>
        rw [e] at z i
        have z2 : some c = some 48 := z
        rcases i with i | i
        · have e5 : n / 10 = 0 := TL.numL_inj (by rw [i]; rfl)
          omega
        · exact i z2
def numN (m : Nat) (w : Str) : Option Nat := if isN w = true ∧ w.length ≤ m then some (NumText.digitsVal (TL.tl w)) else none
theorem numN_nS {m n : Nat} (h : (nS n).length ≤ m) : numN m (nS n) = some n := by
  unfold numN
  rw [if_pos ⟨nS_isN n, h⟩, tl_nS, TL.numL_val]
theorem numN_some {m n : Nat} {w : Str} (h : numN m w = some n) : w = nS n ∧ (nS n).length ≤ m := by
  unfold numN at h
  split at h
  · rename_i hc
    obtain ⟨k, e⟩ := isN_nS hc.1
    subst e
    rw [tl_nS, TL.numL_val] at h
    cases h
    exact ⟨rfl, hc.2⟩
  · cases h
def optN : Option Nat → D
  | none => .non
  | some n => .int (n : Int)
theorem eqX_str {h : Hd} {a b : Str} : eqX h (.str a) (.str b) = some (.bl (decide (a = b))) := rfl
theorem neX_str' {h : Hd} {a b : Str} : neX h (.str a) (.str b) = some (.bl (!decide (a = b))) := rfl
theorem len_str {h : Hd} {x : Str} (hl : x.length ≤ 100000) : lenD h [.str x] = some (.int (x.length : Nat)) := if_pos hl
abbrev D10 : List Nat := [48, 49, 50, 51, 52, 53, 54, 55, 56, 57]
theorem d10_eq : (Str.ofString "0123456789").cps.toList = D10 := by decide +kernel
theorem d10_iff {c : Nat} : c ∈ D10 ↔ 48 ≤ c ∧ c ≤ 57 := by
  simp only [D10, List.mem_cons, List.not_mem_nil, or_false]
  omega
theorem inT_dig {h : Hd} {c : Nat} : inT h (.str ⟨#[c]⟩) (.str "0123456789") = some (.bl (decide (48 ≤ c ∧ c ≤ 57))) := by
  show some (D.bl (decide (c ∈ (Str.ofString "0123456789").cps.toList))) = _
  rw [d10_eq]
  exact congrArg (fun b => some (D.bl b)) (decide_eq_decide.mpr d10_iff)
theorem ninT_dig {h : Hd} {c : Nat} : ninT h (.str ⟨#[c]⟩) (.str "0123456789") = some (.bl (!decide (48 ≤ c ∧ c ≤ 57))) := by
  show some (D.bl (!decide (c ∈ (Str.ofString "0123456789").cps.toList))) = _
  rw [d10_eq]
  exact congrArg (fun b => some (D.bl (!b))) (decide_eq_decide.mpr d10_iff)
theorem signs_get {x : Str} {i : Nat} {d : D} (e : (signsD x)[i]? = some d) : ∃ c, (TL.tl x)[i]? = some c ∧ d = .str ⟨#[c]⟩ := by
  have e2 : ((TL.tl x)[i]?).map (fun k => D.str ⟨#[k]⟩) = some d := by
    rw [← List.getElem?_map]
    exact e
  cases q : (TL.tl x)[i]? with
  | none => rw [q] at e2; cases e2
  | some c =>
    rw [q] at e2
    cases e2
    exact ⟨c, rfl, rfl⟩
theorem signs_len (x : Str) : (signsD x).length = x.length := by simp [signsD, Str.length]
def digD : D → Bool
  | .str x => match x.cps.toList with
    | [c] => decide (48 ≤ c ∧ c ≤ 57)
    | _ => false
  | _ => false
theorem bools_txt {α : Type} (f : α → Bool) : ∀ l : List α, boolsOf (l.map fun a => D.bl (f a)) = some (l.map f)
  | [] => rfl
  | a :: l => by
    show (boolsOf (l.map fun a => D.bl (f a))).map (f a :: ·) = _
    rw [bools_txt f l]
    rfl
theorem all_txt {α : Type} {h : Hd} (f : α → Bool) (l : List α) : allD h [.lst (l.map fun a => D.bl (f a))] = some (.bl (l.all f)) := by
  show ((boolsOf (l.map fun a => D.bl (f a))).map fun bs => D.bl (bs.all id)) = _
  rw [bools_txt]
  show some (D.bl ((l.map f).all id)) = _
  rw [List.all_map]
  rfl
theorem sg_ofs : (Str.ofString "0") = sg 48 := by decide +kernel
theorem tl_eq_nil {w : Str} : TL.tl w = [] ↔ w = "" := ⟨fun h => TL.ext_tl (h.trans (by decide +kernel)), fun h => by rw [h]; decide +kernel⟩
theorem tl_eq_0 {w : Str} : TL.tl w = [48] ↔ w = "0" := ⟨fun h => TL.ext_tl (h.trans (by decide +kernel)), fun h => by rw [h]; decide +kernel⟩
theorem isN_eq (w : Str) : isN w = (!decide (w = "") && ((TL.tl w).all fun c => decide (48 ≤ c ∧ c ≤ 57)) && (decide (w = "0") || !decide ((TL.tl w).head? = some 48))) := by
  unfold isN
  rw [decide_eq_decide.mpr (tl_eq_nil (w := w)), decide_eq_decide.mpr (tl_eq_0 (w := w))]
theorem ix0 {h : Hd} {w : Str} {c : Nat} (hl : w.length ≤ 100000) (e : (TL.tl w).head? = some c) : ixT h (.str w) (.int 0) = some (.str (sg c)) := by
  show (if w.length ≤ 100000 then (atI w.cps.toList 0).map fun k => D.str ⟨#[k]⟩ else none) = _
  rw [if_pos hl]
  cases q : w.cps.toList with
  | nil => rw [TL.tl, q] at e; cases e
  | cons a r =>
    rw [TL.tl, q] at e
    cases e
    have : atI (c :: r) 0 = some c := by
      unfold atI
      have : ixN (c :: r).length 0 = some 0 := by
        unfold ixN
        simp
      rw [this]
      rfl
    rw [this]
    rfl
theorem sg_inj {a b : Nat} : (sg a = sg b) ↔ a = b := ⟨fun h => by
  have := congrArg TL.tl h
  rw [tl_sg, tl_sg] at this
  exact List.head_eq_of_cons_eq this, fun h => by rw [h]⟩
theorem readint_wp {h : Hd} {w : Str} {Q : D → Sd → Hd → Prop} {E : Ex} (hl : w.length ≤ 100000) (kk : Q (optN (numN 61 w)) [] h) : Wq Q E () (m_read_integer [.str w] h) := by
  have al : ∀ H, allD H [.lst ((TL.tl w).map fun c => D.bl (decide (48 ≤ c ∧ c ≤ 57)))] = some (.bl ((TL.tl w).all fun c => decide (48 ≤ c ∧ c ≤ 57))) := fun _ => all_txt _ _
  have hln : ∀ H, lenD H [.str w] = some (.int (w.length : Nat)) := fun _ => len_str hl
  have no : ¬ (isN w = true ∧ w.length ≤ 61) → numN 61 w = none := fun hn => if_neg hn
  have nn := isN_eq w
  by_cases h0 : w = ""
  · rw [no (by rw [nn, h0]; simp)] at kk
    simp! [st_read_integer_0, st_read_integer_1, b_read_integer, m_read_integer, eqX_str, decide_eq_true h0]
    exact kk
  by_cases h1 : w.length ≤ 61
  · simp! [st_read_integer_0, st_read_integer_1, b_read_integer, m_read_integer, eqX_str, decide_eq_false h0, hln, decide_eq_false (show ¬ (61 : Int) < (w.length : Nat) by omega), ↓y_iterT, onS_str]
    refine Wq.cfm (fun _ => true) (fun d => .bl (digD d)) (by rw [signs_len]; omega) ?_ ?_
    · intro i x ex
      obtain ⟨c, _, rfl⟩ := signs_get ex
      simp! [ce_read_integer_0, inT_dig]
      trivial
    · have em : (((signsD w).filter fun _ => true).map fun d => D.bl (digD d)) = (TL.tl w).map fun c => D.bl (decide (48 ≤ c ∧ c ≤ 57)) := by
        rw [List.filter_eq_self.mpr fun _ _ => rfl, signsD, List.map_map]
        rfl
      rw [em]
      simp! [al]
      cases ha : (TL.tl w).all fun c => decide (48 ≤ c ∧ c ≤ 57) with
      | false =>
        rw [no (by rw [nn, ha]; simp)] at kk
        simp!
        exact kk
      | true =>
        by_cases h2 : w = "0"
        · have e1 : numN 61 w = some 0 := by
            rw [h2]
            decide +kernel
          rw [e1] at kk
          simp! [eqX_str, decide_eq_true h2]
          have e2 : intT h [.str w] = some (.int 0) := by
            rw [h2]
            have e3 : intText? (Str.ofString "0") = some 0 := by decide +kernel
            show (if (Str.ofString "0").length ≤ 640 then (intText? "0").map D.int else none) = _
            rw [if_pos (by decide +kernel), e3]
            rfl
          simp! [e2]
          exact kk
        · cases q : (TL.tl w).head? with
          | none => exact (h0 (tl_eq_nil.mp (List.head?_eq_none_iff.mp q))).elim
          | some c =>
            by_cases h3 : c = 48
            · rw [no (by rw [nn, q, h3]; simp [h2])] at kk
              simp! [eqX_str, decide_eq_false h2, ix0 hl q, decide_eq_true (show sg c = Str.ofString "0" from (sg_inj.mpr h3).trans sg_ofs.symm)]
              exact kk
            · have hN : isN w = true := by
                rw [nn, ha, q]
                simp [h0, h3]
              obtain ⟨n, en⟩ := isN_nS hN
              have e1 : numN 61 w = some n := by
                rw [en]
                exact numN_nS (by rw [← en]; exact h1)
              rw [e1] at kk
              have e2 : intT h [.str w] = some (.int (n : Int)) := by
                show (if w.length ≤ 640 then (intText? w).map D.int else none) = _
                rw [if_pos (by omega), en, nS_int (by rw [← en]; omega)]
                rfl
              simp! [eqX_str, decide_eq_false h2, ix0 hl q, decide_eq_false (show ¬ sg c = Str.ofString "0" from fun z => h3 (sg_inj.mp (z.trans sg_ofs))), e2]
              exact kk
  · rw [no fun z => h1 z.2] at kk
    simp! [st_read_integer_0, st_read_integer_1, b_read_integer, m_read_integer, eqX_str, decide_eq_false h0, hln, decide_eq_true (show (61 : Int) < (w.length : Nat) by omega)]
    exact kk
theorem nl_ofs : (Str.ofString "\n") = sg 10 := by decide +kernel
theorem sp_ofs : (Str.ofString " ") = sg 32 := by decide +kernel
theorem add_str {h : Hd} {x y : Str} (hl : x.length + y.length ≤ 100000) : addD h (.str x) (.str y) = some (.str (x ++ y)) := by
  show (if x.length + y.length ≤ 100000 then some (D.str (x ++ y)) else none) = _
  rw [if_pos hl]
theorem str_nat {h : Hd} {n : Nat} (hn : n < 10 ^ 62) : strD h [.int (n : Int)] = some (.str (nS n)) := by
  refine str_int ?_
  rw [Int.natAbs_natCast]
  by_cases h0 : n = 0
  · rw [h0]; decide
  · exact Nat.lt_trans ((Nat.log2_lt h0).mpr (Nat.lt_trans hn (by decide : 10 ^ 62 < 2 ^ 207))) (by decide)
theorem cut_last {xs : List D} {d : D} : cut (xs ++ [d]) none (some (-1)) = xs := by
  have e : HT.sIx (xs ++ [d]).length (xs ++ [d]).length (some (-1)) = xs.length := by
    show (if (-1 : Int) < 0 then ((-1 : Int) + ((xs ++ [d]).length : Int)).toNat else min (-1 : Int).toNat (xs ++ [d]).length) = _
    rw [if_pos (by decide), List.length_append, List.length_singleton]
    omega
  unfold cut
  rw [e]
  have z : HT.sIx (xs ++ [d]).length 0 none = 0 := rfl
  rw [z]
  simp
theorem sl_last {h : Hd} {xs : List D} {d : D} : slD h (.lst (xs ++ [d])) none (some (-1)) = some (.lst xs) := by
  show some (D.lst (cut (xs ++ [d]) none (some (-1)))) = _
  rw [cut_last]
theorem at_lastT {xs : List D} {d : D} : atI (xs ++ [d]) (-1) = some d := by
  unfold atI
  have e : ixN (xs ++ [d]).length (-1) = some xs.length := by
    unfold ixN
    simp
    omega
  rw [e]
  simp
theorem pieces {x : Str} {k : Nat} (hk : k < 256) : ∃ (ls : List Str) (r : Str), Txt.split x (sg k) = ls ++ [r] ∧ (∀ p ∈ ls ++ [r], k ∉ TL.tl p) ∧ Str.join (sg k) (ls ++ [r]) = x := by
  obtain ⟨ps, e, hn, hf, hj⟩ := split_facts (x := x) hk
  rcases List.eq_nil_or_concat ps with z | ⟨ls, r, z⟩
  · exact absurd z hn
  · rw [List.concat_eq_append] at z
    subst z
    exact ⟨ls, r, e, hf, hj⟩
theorem eqX_int' {h : Hd} {a b : Int} : eqX h (.int a) (.int b) = some (.bl (decide (a = b))) := rfl
theorem as_lit {s : String} (h : (Str.ofString s).cps.toList.all (fun c => decide (c < 128)) = true) : As (Str.ofString s) := fun c hc => of_decide_eq_true (List.all_eq_true.mp h c hc)
theorem linesof_wp {h : Hd} {x : Str} {ls : List Str} {r : Str} {Q : D → Sd → Hd → Prop} {E : Ex} (hl : x.length ≤ 50000) (e : Txt.split x (sg 10) = ls ++ [r]) (kk : Q (.tup [.lst (ls.map .str), .str r]) [] h) : Wq Q E () (m_lines_of [.str x] h) := by
  have s0 : (0 < (Str.ofString "\n").length ∧ x.length ≤ 100000) := ⟨by decide, by omega⟩
  have ex : (Txt.split x (Str.ofString "\n")).map D.str = ls.map D.str ++ [.str r] := by rw [nl_ofs, e, List.map_append]; rfl
  have s1 : ∀ H, slD H (.lst (ls.map D.str ++ [.str r])) none (some (-1)) = some (.lst (ls.map .str)) := fun _ => sl_last
  have s2 : atI (ls.map D.str ++ [.str r]) (-1) = some (.str r) := at_lastT
  simp! [st_lines_of_0, st_lines_of_1, b_lines_of, m_lines_of, ↓y_split, onS_str, s0, ex, s1, s2, show (2 : Nat) ≤ 100000 by decide]
  exact kk
theorem isn_n {h : Hd} : isND h .non .non = some (.bl true) := rfl
theorem signs_strs (w : Str) : signsD w = ((TL.tl w).map sg).map D.str := by
  rw [List.map_map]
  rfl
theorem filt_strs (p : D → Bool) : ∀ xs : List Str, (xs.map D.str).filter p = (xs.filter fun x => p (.str x)).map D.str
  | [] => rfl
  | x :: xs => by
    rw [List.map_cons, List.filter_cons, List.filter_cons, filt_strs p xs]
    split <;> simp_all
theorem figures_wp {h : Hd} {w : Str} {Q : D → Sd → Hd → Prop} {E : Ex} (hl : w.length ≤ 50000) (ha : As w) (kk : Q (.bl (isN w)) [] h) : Wq Q E () (m_law_figures [.str w] h) := by
  have nn := isN_eq w
  by_cases h0 : w = ""
  · have e : isN w = false := by rw [nn, h0]; rfl
    rw [e] at kk
    simp! [st_law_figures_0, st_law_figures_1, b_law_figures, m_law_figures, eqX_str, decide_eq_true h0]
    exact kk
  · simp! [st_law_figures_0, st_law_figures_1, b_law_figures, m_law_figures, eqX_str, decide_eq_false h0, ↓y_iterT, onS_str]
    refine Wq.cfm (fun d => !digD d) id (by rw [signs_len]; omega) ?_ ?_
    · intro i x ex
      obtain ⟨c, _, rfl⟩ := signs_get ex
      have e : digD (.str ⟨#[c]⟩) = decide (48 ≤ c ∧ c ≤ 57) := rfl
      simp! [ct_law_figures_0, ninT_dig, e]
      cases decide (48 ≤ c ∧ c ≤ 57) <;> simp! [ce_law_figures_0]
      rfl
    · have em : ((signsD w).filter fun d => !digD d).map id = (((TL.tl w).map sg).filter fun x => !digD (.str x)).map D.str := by
        rw [List.map_id, signs_strs, filt_strs]
      have fa : ∀ x ∈ ((TL.tl w).map sg).filter fun x => !digD (.str x), As x := fun x hx => by
        obtain ⟨c, hc, rfl⟩ := List.mem_map.mp (List.mem_filter.mp hx).1
        exact as_sg (ha c hc)
      have ne : ∀ H, neD H (.lst ((((TL.tl w).map sg).filter fun x => !digD (.str x)).map D.str)) (.lst []) = some (.bl (!decide (((TL.tl w).map sg).filter (fun x => !digD (.str x)) = []))) := fun H => neD_strs (h := H) (b := []) fa (fun z hz => nomatch hz)
      have iff : (((TL.tl w).map sg).filter (fun x => !digD (.str x)) = []) ↔ ((TL.tl w).all fun c => decide (48 ≤ c ∧ c ≤ 57)) = true := by
        rw [List.filter_eq_nil_iff, List.all_eq_true]
        refine ⟨fun h c hc => ?_, fun h x hx => ?_⟩
        · have := h (sg c) (List.mem_map_of_mem hc)
          have e : digD (.str (sg c)) = decide (48 ≤ c ∧ c ≤ 57) := rfl
          rw [e] at this
          simpa using this
        · obtain ⟨c, hc, rfl⟩ := List.mem_map.mp hx
          have e : digD (.str (sg c)) = decide (48 ≤ c ∧ c ≤ 57) := rfl
          rw [e, h c hc]
          decide
      rw [em]
      simp! [ne]
      by_cases hd : ((TL.tl w).all fun c => decide (48 ≤ c ∧ c ≤ 57)) = true
      · simp! [decide_eq_true (iff.mpr hd)]
        by_cases h2 : w = "0"
        · have e : isN w = true := by rw [nn, hd, decide_eq_false h0, decide_eq_true h2]; rfl
          rw [e] at kk
          simp! [eqX_str, decide_eq_true h2]
          exact kk
        · cases q : (TL.tl w).head? with
          | none => exact (h0 (tl_eq_nil.mp (List.head?_eq_none_iff.mp q))).elim
          | some c =>
            by_cases h3 : c = 48
            · have e : isN w = false := by rw [nn, q, h3]; simp [h2]
              rw [e] at kk
              simp! [eqX_str, decide_eq_false h2, ix0 (by omega) q, decide_eq_true (show sg c = Str.ofString "0" from (sg_inj.mpr h3).trans sg_ofs.symm)]
              exact kk
            · have e : isN w = true := by rw [nn, hd, q]; simp [h0, h3]
              rw [e] at kk
              simp! [eqX_str, decide_eq_false h2, ix0 (by omega) q, decide_eq_false (show ¬ sg c = Str.ofString "0" from fun z => h3 (sg_inj.mp (z.trans sg_ofs)))]
              exact kk
      · have e : isN w = false := by
          rw [nn]
          simp only [Bool.not_eq_true] at hd
          rw [hd]
          simp
        rw [e] at kk
        simp! [decide_eq_false (fun z => hd (iff.mp z))]
        exact kk
theorem tl_cut {w : Str} {k : Nat} : TL.tl (cutS w none (some (k : Int))) = (TL.tl w).take k := by
  show (w.cps.toList.drop (HT.sIx w.length 0 none)).take (HT.sIx w.length w.length (some (k : Int)) - HT.sIx w.length 0 none) = _
  rw [HT.sIx_none, HT.sIx_nat, List.drop_zero, Nat.sub_zero]
  have e : w.length = w.cps.toList.length := TL.len_tl w
  by_cases hk : k ≤ w.length
  · rw [Nat.min_eq_left hk]
  · have e2 : (TL.tl w).length = w.length := (TL.len_tl w).symm
    rw [Nat.min_eq_right (by omega), List.take_of_length_le (by omega), List.take_of_length_le (by omega)]
def cat : List Str → Str
  | [] => ""
  | x :: xs => x ++ cat xs
theorem str_nil_app (x : Str) : (Str.ofString "") ++ x = x := TL.ext_tl (by
  rw [TL.tl_append]
  have : TL.tl (Str.ofString "") = [] := by decide +kernel
  rw [this]
  rfl)
theorem str_app_nil (x : Str) : x ++ (Str.ofString "") = x := TL.ext_tl (by
  rw [TL.tl_append]
  have : TL.tl (Str.ofString "") = [] := by decide +kernel
  rw [this, List.append_nil])
theorem str_assoc (x y z : Str) : x ++ y ++ z = x ++ (y ++ z) := TL.ext_tl (by simp [TL.tl_append])
theorem join_nil_cat : ∀ ls : List Str, Str.join (Str.ofString "") ls = cat ls
  | [] => by show Str.empty = Str.ofString ""; decide +kernel
  | [x] => (str_app_nil x).symm
  | x :: y :: r => by
    show x ++ (Str.ofString "") ++ Str.join (Str.ofString "") (y :: r) = x ++ cat (y :: r)
    rw [join_nil_cat (y :: r), str_app_nil]
theorem cat_app : ∀ xs ys : List Str, cat (xs ++ ys) = cat xs ++ cat ys
  | [], ys => (str_nil_app _).symm
  | x :: xs, ys => by
    show x ++ cat (xs ++ ys) = x ++ cat xs ++ cat ys
    rw [cat_app xs ys, str_assoc]
theorem cat_join : ∀ ls : List Str, cat (ls.map fun l => l ++ sg 10) = Str.join (sg 10) (ls ++ [Str.ofString ""])
  | [] => rfl
  | [l] => by
    show (l ++ sg 10) ++ Str.ofString "" = l ++ sg 10 ++ Str.ofString ""
    rfl
  | l :: m :: r => by
    show (l ++ sg 10) ++ cat ((m :: r).map fun l => l ++ sg 10) = l ++ sg 10 ++ Str.join (sg 10) ((m :: r) ++ [Str.ofString ""])
    rw [cat_join (m :: r)]
theorem lawcat_len : ∀ (ls : List Str) (b : Nat), (∀ l ∈ ls, l.length ≤ b) → (cat ls).length ≤ ls.length * b
  | [], b, _ => by
    have : (cat []).length = 0 := by decide +kernel
    omega
  | l :: ls, b, h => by
    show (l ++ cat ls).length ≤ _
    rw [len_app, List.length_cons, Nat.succ_mul]
    have h1 := h l List.mem_cons_self
    have h2 := lawcat_len ls b fun m hm => h m (List.mem_cons_of_mem _ hm)
    omega
def Tx' (b : Nat) (x : Str) : Prop := As x ∧ x.length ≤ b
theorem join_tx {k b : Nat} {ps : List Str} (hk : k < 128) (ha : ∀ p ∈ ps, As p) (hl : (ps.map (·.length)).sum + ps.length ≤ b + 1) : Tx' b (Str.join (sg k) ps) := by
  refine ⟨As.join (as_sg hk) ha, ?_⟩
  by_cases h : ps = []
  · rw [h]
    show Str.empty.length ≤ b
    exact Nat.zero_le _
  · have e := join_len (sep := sg k) h
    have e1 : (sg k).length = 1 := rfl
    rw [e1] at e
    omega
theorem joinD_tx {h : Hd} {k : Nat} {ps : List Str} (hl : (ps.map (·.length)).sum + ps.length ≤ 100000) : joinD (sg k) h (.lst (ps.map .str)) = some (.str (Str.join (sg k) ps)) := by
  rw [join_lst (by have e1 : (sg k).length = 1 := rfl; rw [e1]; omega), TL.join_eq]
theorem sum_app (xs ys : List Str) : ((xs ++ ys).map (·.length)).sum = (xs.map (·.length)).sum + (ys.map (·.length)).sum := by rw [List.map_append, List.sum_append]
theorem sum_take (xs : List Str) (i : Nat) : ((xs.take i).map (·.length)).sum + ((xs.drop i).map (·.length)).sum = (xs.map (·.length)).sum := by
  rw [← sum_app, List.take_append_drop]
theorem len_take (xs : List Str) (i : Nat) : (xs.take i).length + (xs.drop i).length = xs.length := by
  rw [← List.length_append, List.take_append_drop]
theorem sum_drop (xs : List Str) (i j : Nat) (h : i ≤ j) : ((xs.drop j).map (·.length)).sum + (xs.drop j).length ≤ ((xs.drop i).map (·.length)).sum + (xs.drop i).length := by
  have e : xs.drop j = (xs.drop i).drop (j - i) := by rw [List.drop_drop]; congr 1; omega
  have t := sum_take (xs.drop i) (j - i)
  have u := len_take (xs.drop i) (j - i)
  rw [e]
  omega
theorem sl_to' {h : Hd} {xs : List Str} {i : Nat} (hi : i ≤ xs.length) : slD h (.lst (xs.map .str)) none (some (i : Int)) = some (.lst ((xs.take i).map .str)) := by
  show some (D.lst (cut (xs.map .str) none (some (i : Int)))) = _
  rw [cut_to (by rw [List.length_map]; exact hi), List.map_take]
theorem sl_from' {h : Hd} {xs : List Str} {i : Nat} (hi : i ≤ xs.length) : slD h (.lst (xs.map .str)) (some (i : Int)) none = some (.lst ((xs.drop i).map .str)) := by
  show some (D.lst (cut (xs.map .str) (some (i : Int)) none)) = _
  rw [cut_from (by rw [List.length_map]; exact hi), List.map_drop]
theorem add_lst {h : Hd} {xs ys : List D} (hl : xs.length + ys.length ≤ 100000) : addD h (.lst xs) (.lst ys) = some (.lst (xs ++ ys)) := by
  show (if xs.length + ys.length ≤ 100000 then some (D.lst (xs ++ ys)) else none) = _
  rw [if_pos hl]
theorem nat_of {d : Int} (h : 0 ≤ d) : ∃ n : Nat, d = (n : Int) := ⟨d.toNat, by omega⟩
theorem as_all {l : List Str} (h : l.all (fun s => s.cps.toList.all fun c => decide (c < 128)) = true) : ∀ x ∈ l, As x := fun x hx c hc => of_decide_eq_true (List.all_eq_true.mp (List.all_eq_true.mp h x hx) c hc)
theorem mul9 {h : Hd} {n : Nat} (h1 : 2 ≤ n) (h2 : n ≤ 5000) (s : Str) (hs : s.length = 1) : mulT h (.str s) (.int (n : Int)) = some (.str (repS s n)) := by
  show (if 2 ≤ (n : Int) ∧ s.length * ((n : Int)).toNat ≤ 100000 ∧ 0 < s.length then some (D.str (repS s ((n : Int)).toNat)) else none) = _
  rw [hs, if_pos ⟨by omega, by omega, by decide⟩]
  rfl
theorem sum_set : ∀ (l : List Str) (t : Nat) (z : Str) (_ : l[t]? = some z) (y : Str), ((l.set t y).map (·.length)).sum + z.length = (l.map (·.length)).sum + y.length
  | x :: l, 0, z, e, y => by
    cases e
    show y.length + (l.map (·.length)).sum + x.length = x.length + (l.map (·.length)).sum + y.length
    omega
  | x :: l, t + 1, z, e, y => by
    have ih := sum_set l t z e y
    show x.length + ((l.set t y).map (·.length)).sum + z.length = x.length + (l.map (·.length)).sum + y.length
    omega
theorem spl_ne (S : List Nat) (hS : S ≠ []) : ∀ (m : Nat) (l acc : List Nat), l.length ≤ m → TL.spl S 0 acc l ≠ []
  | m, [], acc, _ => by rw [TL.spl_nil]; simp
  | 0, c :: r, acc, h => by simp at h
  | m + 1, c :: r, acc, h => by
    cases hp : TL.pre S (c :: r) with
    | true => rw [TL.spl_hit hp]; simp
    | false => rw [TL.spl_miss hp]; exact spl_ne S hS m r _ (by simpa using h)
theorem spl_joins (S : List Nat) (hS : S ≠ []) : ∀ (m : Nat) (l acc : List Nat), l.length ≤ m → TL.joinL S (TL.spl S 0 acc l) = acc ++ l
  | m, [], acc, _ => by
    rw [TL.spl_nil]
    simp [TL.joinL]
  | 0, c :: r, acc, h => by simp at h
  | m + 1, c :: r, acc, h => by
    cases hp : TL.pre S (c :: r) with
    | true =>
      have hl : (r.drop (S.length - 1)).length ≤ m := by
        rw [List.length_drop]
        simp at h
        omega
      have ih := spl_joins S hS m (r.drop (S.length - 1)) [] hl
      have ne := spl_ne S hS m (r.drop (S.length - 1)) [] hl
      rw [TL.spl_hit hp, TL.spl_pass]
      have e : (c :: r).take S.length = S := by
        have : ((c :: r).take S.length == S) = true := hp
        exact eq_of_beq this
      have hs : S.length = (S.length - 1) + 1 := by
        have := List.length_pos_iff.mpr hS
        omega
      have e2 : (c :: r).drop S.length = r.drop (S.length - 1) := by
        rw [hs]
        rfl
      cases q : TL.spl S 0 [] (r.drop (S.length - 1)) with
      | nil => exact (ne q).elim
      | cons p ps =>
        rw [q] at ih
        show acc ++ (S ++ TL.joinL S (p :: ps)) = _
        rw [ih, List.nil_append, ← e2]
        conv => lhs; rw [show S ++ (c :: r).drop S.length = (c :: r).take S.length ++ (c :: r).drop S.length by rw [e], List.take_append_drop]
    | false =>
      rw [TL.spl_miss hp, spl_joins S hS m r _ (by simpa using h)]
      simp
theorem split_back {x y : Str} (hy : TL.tl y ≠ []) (hk : y.cps.all (· < 256) = true) : Str.join y (Txt.split x y) = x := by
  refine TL.ext_tl ?_
  rw [TL.tl_join, TL.split_spl x y hy (TL.kind_ok hk), spl_joins _ hy _ _ _ (Nat.le_refl _), List.nil_append]
theorem pre_second {a b : Nat} {S l : List Nat} (h : l[1]? ≠ some b) : TL.pre (a :: b :: S) l = false := by
  cases hp : TL.pre (a :: b :: S) l with
  | false => rfl
  | true =>
    have e : l.take (a :: b :: S).length = a :: b :: S := eq_of_beq hp
    exfalso
    apply h
    have e1 : (l.take (a :: b :: S).length)[1]? = some b := by rw [e]; rfl
    rw [List.getElem?_take] at e1
    simpa using e1
theorem free2 {a b : Nat} {S p q : List Nat} (hab : a ≠ b) (h : b ∉ p) (hq : q = [] ∨ ∃ r, q = a :: r) : ∀ i, i < p.length → TL.pre (a :: b :: S) ((p ++ q).drop i) = false := fun i hi => by
  refine pre_second ?_
  rw [List.getElem?_drop]
  intro e
  by_cases h2 : i + 1 < p.length
  · rw [List.getElem?_append_left h2] at e
    exact h (List.mem_of_getElem? e)
  · rw [List.getElem?_append_right (by omega)] at e
    have hz : i + 1 - p.length = 0 := by omega
    rw [hz] at e
    rcases hq with rfl | ⟨r, rfl⟩
    · cases e
    · exact hab (Option.some.inj e)
theorem split_two {y u v : Str} {a b : Nat} {S : List Nat} (ey : TL.tl y = a :: b :: S) (hk : y.cps.all (· < 256) = true) (hab : a ≠ b) (hu : b ∉ TL.tl u) (hv : b ∉ TL.tl v) : Txt.split (u ++ y ++ v) y = [u, v] := by
  refine TL.map_tl_inj ?_
  rw [TL.split_spl _ y (by rw [ey]; simp) (TL.kind_ok hk), TL.tl_append, TL.tl_append, List.append_assoc, ey]
  rw [TL.spl_part (by simp) (free2 hab hu (.inr ⟨_, rfl⟩)), TL.spl_last (fun i hi => by
    have := free2 (S := S) hab hv (.inl rfl) i hi
    rwa [List.append_nil] at this)]
  simp
theorem split_none {y u : Str} {a b : Nat} {S : List Nat} (ey : TL.tl y = a :: b :: S) (hk : y.cps.all (· < 256) = true) (hab : a ≠ b) (hu : b ∉ TL.tl u) : Txt.split u y = [u] := by
  refine TL.map_tl_inj ?_
  rw [TL.split_spl _ y (by rw [ey]; simp) (TL.kind_ok hk), ey, TL.spl_last (fun i hi => by
    have := free2 (S := S) hab hu (.inl rfl) i hi
    rwa [List.append_nil] at this)]
  simp
theorem join_app {sep : Str} : ∀ (as bs : List Str), as ≠ [] → bs ≠ [] → Str.join sep (as ++ bs) = Str.join sep as ++ sep ++ Str.join sep bs
  | [], bs, h, _ => absurd rfl h
  | [a], b :: bs, _, _ => rfl
  | [a], [], _, h => absurd rfl h
  | a :: b :: as, bs, _, h => by
    show a ++ sep ++ Str.join sep ((b :: as) ++ bs) = a ++ sep ++ Str.join sep (b :: as) ++ sep ++ Str.join sep bs
    rw [join_app (b :: as) bs (by simp) h]
    refine TL.ext_tl ?_
    simp [TL.tl_append]
def nmS : Nat → Str
  | 0 => "first"
  | 1 => "rest"
  | _ => "second"
def endWs : Option Nat → List Str
  | none => ["ground"]
  | some t => [nmS (t % 3), nS (t / 3)]
def endW (x : Option Nat) : Str := Str.join (sg 32) (endWs x)
def sgnS (far : Int) : Str := if 0 ≤ far then "+" else "-"
def facWs (f : Fc) : List Str := endWs f.1 ++ ([Str.ofString "<="] ++ (endWs f.2.1 ++ [sgnS f.2.2, nS f.2.2.natAbs]))
def facS (f : Fc) : Str := Str.join (sg 32) (facWs f)
theorem tl_ground : TL.tl (Str.ofString "ground") = [103, 114, 111, 117, 110, 100] := by decide +kernel
theorem tl_first : TL.tl (Str.ofString "first") = [102, 105, 114, 115, 116] := by decide +kernel
theorem tl_rest : TL.tl (Str.ofString "rest") = [114, 101, 115, 116] := by decide +kernel
theorem tl_second : TL.tl (Str.ofString "second") = [115, 101, 99, 111, 110, 100] := by decide +kernel
theorem tl_le : TL.tl (Str.ofString "<=") = [60, 61] := by decide +kernel
theorem tl_sp_le : TL.tl (Str.ofString " <= ") = [32, 60, 61, 32] := by decide +kernel
theorem tl_plus : TL.tl (Str.ofString "+") = [43] := by decide +kernel
theorem tl_minus : TL.tl (Str.ofString "-") = [45] := by decide +kernel
theorem tl_sp_plus : TL.tl (Str.ofString " + ") = [32, 43, 32] := by decide +kernel
theorem tl_sp_minus : TL.tl (Str.ofString " - ") = [32, 45, 32] := by decide +kernel
theorem nm_cases (k : Nat) : nmS k = Str.ofString "first" ∨ nmS k = Str.ofString "rest" ∨ nmS k = Str.ofString "second" := by
  match k with
  | 0 => exact .inl rfl
  | 1 => exact .inr (.inl rfl)
  | k + 2 => exact .inr (.inr rfl)
theorem nm_free {k c : Nat} (h : c < 97) : c ∉ TL.tl (nmS k) := by
  rcases nm_cases k with e | e | e <;> rw [e]
  · rw [tl_first]; intro hm; simp at hm; omega
  · rw [tl_rest]; intro hm; simp at hm; omega
  · rw [tl_second]; intro hm; simp at hm; omega
theorem nm_as (k : Nat) : As (nmS k) := by
  rcases nm_cases k with e | e | e <;> rw [e] <;> exact as_lit (by decide +kernel)
theorem endWs_ne (x : Option Nat) : endWs x ≠ [] := by cases x <;> simp [endWs]
theorem endWs_free {x : Option Nat} {c : Nat} (h1 : c < 48 ∨ 57 < c) (h2 : c < 97) : ∀ p ∈ endWs x, c ∉ TL.tl p := fun p hp => by
  cases x with
  | none =>
    simp only [endWs, List.mem_cons, List.not_mem_nil, or_false] at hp
    rw [hp, tl_ground]
    intro hm
    simp at hm
    omega
  | some t =>
    simp only [endWs, List.mem_cons, List.not_mem_nil, or_false] at hp
    rcases hp with rfl | rfl
    · exact nm_free h2
    · exact nS_free h1
theorem endWs_as {x : Option Nat} : ∀ p ∈ endWs x, As p := fun p hp => by
  cases x with
  | none =>
    simp only [endWs, List.mem_cons, List.not_mem_nil, or_false] at hp
    rw [hp]
    exact as_lit (by decide +kernel)
  | some t =>
    simp only [endWs, List.mem_cons, List.not_mem_nil, or_false] at hp
    rcases hp with rfl | rfl
    · exact nm_as _
    · exact as_nS _
theorem sgn_cases (far : Int) : (0 ≤ far ∧ sgnS far = Str.ofString "+") ∨ (far < 0 ∧ sgnS far = Str.ofString "-") := by
  by_cases h : 0 ≤ far
  · exact .inl ⟨h, if_pos h⟩
  · exact .inr ⟨by omega, if_neg h⟩
theorem facWs_free (f : Fc) : ∀ p ∈ facWs f, 32 ∉ TL.tl p := fun p hp => by
  unfold facWs at hp
  simp only [List.mem_append, List.mem_cons, List.not_mem_nil, or_false] at hp
  rcases hp with hp | rfl | hp | rfl | rfl
  · exact endWs_free (.inl (by decide)) (by decide) p hp
  · rw [tl_le]; decide
  · exact endWs_free (.inl (by decide)) (by decide) p hp
  · rcases sgn_cases f.2.2 with ⟨_, e⟩ | ⟨_, e⟩ <;> rw [e]
    · rw [tl_plus]; decide
    · rw [tl_minus]; decide
  · exact nS_free (.inl (by decide))
theorem facWs_as (f : Fc) : ∀ p ∈ facWs f, As p := fun p hp => by
  unfold facWs at hp
  simp only [List.mem_append, List.mem_cons, List.not_mem_nil, or_false] at hp
  rcases hp with hp | rfl | hp | rfl | rfl
  · exact endWs_as p hp
  · exact as_lit (by decide +kernel)
  · exact endWs_as p hp
  · rcases sgn_cases f.2.2 with ⟨_, e⟩ | ⟨_, e⟩ <;> rw [e] <;> exact as_lit (by decide +kernel)
  · exact as_nS _
theorem facS_split (f : Fc) : Txt.split (facS f) (sg 32) = facWs f := split_of (by decide) (by simp [facWs]) (facWs_free f)
theorem facS_as (f : Fc) : As (facS f) := As.join (as_sg (by decide)) (facWs_as f)
theorem facS_eq (f : Fc) : facS f = endW f.1 ++ Str.ofString " <= " ++ (endW f.2.1 ++ (if 0 ≤ f.2.2 then Str.ofString " + " else Str.ofString " - ") ++ nS f.2.2.natAbs) := by
  unfold facS facWs
  rw [join_app _ _ (endWs_ne _) (by simp), join_app [Str.ofString "<="] _ (by simp) (by simp), join_app _ [sgnS f.2.2, nS f.2.2.natAbs] (endWs_ne _) (by simp)]
  refine TL.ext_tl ?_
  have e1 : TL.tl (Str.join (sg 32) [Str.ofString "<="]) = [60, 61] := tl_le
  have e2 : Str.join (sg 32) [sgnS f.2.2, nS f.2.2.natAbs] = sgnS f.2.2 ++ sg 32 ++ nS f.2.2.natAbs := rfl
  rw [e2]
  unfold endW
  simp only [TL.tl_append, tl_sg, e1, tl_sp_le]
  rcases sgn_cases f.2.2 with ⟨h, e⟩ | ⟨h, e⟩
  · rw [e, if_pos h, tl_plus, tl_sp_plus]; simp
  · rw [e, if_neg (by omega), tl_minus, tl_sp_minus]; simp
def nmI (w : Str) : Option Nat := if w = "first" then some 0 else if w = "rest" then some 1 else if w = "second" then some 2 else none
def rdE : List Str → Option (Option Nat)
  | [w] => if w = "ground" then some none else none
  | [a, b] => match nmI a, numN 61 b with
    | some p, some j => some (some (3 * j + p))
    | _, _ => none
  | _ => none
theorem nmI_some {w : Str} {p : Nat} (h : nmI w = some p) : p < 3 ∧ nmS p = w := by
  unfold nmI at h
  split at h
  · cases h; exact ⟨by decide, by rename_i e; exact e.symm⟩
  · split at h
    · cases h; exact ⟨by decide, by rename_i e; exact e.symm⟩
    · split at h
      · cases h; exact ⟨by decide, by rename_i e; exact e.symm⟩
      · cases h
theorem nmI_nm {p : Nat} (h : p < 3) : nmI (nmS p) = some p := by
  have : p = 0 ∨ p = 1 ∨ p = 2 := by omega
  rcases this with rfl | rfl | rfl <;> decide +kernel
theorem rdE_some {l : List Str} {x : Option Nat} (h : rdE l = some x) : l = endWs x := by
  unfold rdE at h
  split at h
  · split at h
    · rename_i e
      cases h
      rw [e]
      rfl
    · cases h
  · split at h
    · rename_i p j h1 h2
      cases h
      obtain ⟨p3, e1⟩ := nmI_some h1
      have e2 := (numN_some h2).1
      have d1 : (3 * j + p) % 3 = p := by omega
      have d2 : (3 * j + p) / 3 = j := by omega
      show _ = [nmS ((3 * j + p) % 3), nS ((3 * j + p) / 3)]
      rw [d1, d2, e1, e2]
    · cases h
  · cases h
theorem rdE_end {x : Option Nat} (h : ∀ t, x = some t → (nS (t / 3)).length ≤ 61) : rdE (endWs x) = some x := by
  cases x with
  | none =>
    show (if Str.ofString "ground" = "ground" then some none else none) = some none
    exact if_pos rfl
  | some t =>
    show (match nmI (nmS (t % 3)), numN 61 (nS (t / 3)) with | some p, some j => some (some (3 * j + p)) | _, _ => none) = _
    rw [nmI_nm (by omega), numN_nS (h t rfl)]
    show some (some (3 * (t / 3) + t % 3)) = _
    congr 2
    omega
def okFb (n : Nat) (f : Fc) : Bool := factB (n : Int) (fcD f)
theorem okFb_iff {n : Nat} {f : Fc} : okFb n f = true ↔ okF n f := by
  obtain ⟨x, y, c⟩ := f
  have e1 : ∀ x : Option Nat, endB (n : Int) (en x) = true ↔ okE n x := fun x => by
    cases x with
    | none => simp [endB, en, okE]
    | some t =>
      show whB 0 (3 * (n : Int) - 1) (.int (t : Int)) = true ↔ t < 3 * n
      rw [whB]
      simp
      omega
  have e2 : sameE (en x) (en y) = true ↔ x = y := by
    cases x <;> cases y <;> simp [sameE, en] <;> omega
  unfold okFb factB fcD
  simp only [Bool.and_eq_true, e1, Bool.not_eq_true']
  have e3 : sameE (en x) (en y) = false ↔ x ≠ y := by
    rw [← Bool.not_eq_true, e2]
  rw [e3, whB]
  simp only [Bool.and_eq_true, decide_eq_true_eq]
  unfold okF
  show _ ↔ okE n x ∧ okE n y ∧ x ≠ y ∧ -(10 ^ 12) ≤ c ∧ c ≤ 10 ^ 12
  constructor
  · rintro ⟨a, b, u, d, e⟩
    exact ⟨a, b, u, by omega, by omega⟩
  · rintro ⟨a, b, u, d, e⟩
    exact ⟨a, b, u, by omega, by omega⟩
def sgI (s : Str) (k : Nat) : Int := if s = "+" then (k : Int) else -(k : Int)
def rdF3 (n : Nat) (x y : Option (Option Nat)) (s : Str) (k : Option Nat) : Option Fc := match x, y, k with
  | some x, some y, some k => if s = "-" ∧ k = 0 then none else if okFb n (x, y, sgI s k) then some (x, y, sgI s k) else none
  | _, _, _ => none
def rdF (n : Nat) (ws : List Str) : Option Fc := match (ws.drop (ws.length - 2)) with
  | [s, z] => if Str.ofString "<=" ∈ ws ∧ 3 ≤ ws.length ∧ (s = "+" ∨ s = "-") then
      rdF3 n (rdE (ws.take (ws.idxOf (Str.ofString "<=")))) (rdE ((ws.take (ws.length - 2)).drop (ws.idxOf (Str.ofString "<=") + 1))) s (numN 61 z)
    else none
  | _ => none
theorem idx_split {z : Str} : ∀ {l : List Str}, z ∈ l → l = l.take (l.idxOf z) ++ z :: l.drop (l.idxOf z + 1)
  | y :: l, h => by
    rw [List.idxOf_cons]
    by_cases hy : y = z
    · subst hy; simp
    · have hb : (y == z) = false := by simpa using hy
      rw [hb, cond_false]
      have i := idx_split ((List.mem_cons.mp h).resolve_left fun e => hy e.symm)
      rw [List.take_succ_cons, List.drop_succ_cons, List.cons_append, ← i]
theorem drop_mid {α : Type} {ws : List α} {i j : Nat} (h : i ≤ j) (hj : j ≤ ws.length) : ws.drop i = (ws.take j).drop i ++ ws.drop j := by
  have e : ws = ws.take j ++ ws.drop j := (List.take_append_drop j ws).symm
  have : (ws.take j ++ ws.drop j).drop i = (ws.take j).drop i ++ ws.drop j := by
    rw [List.drop_append, List.length_take, show i - min j ws.length = 0 by omega, List.drop_zero]
  rwa [← e] at this
theorem rdF_some {n : Nat} {ws : List Str} {f : Fc} (h : rdF n ws = some f) : ws = facWs f ∧ okF n f := by
  unfold rdF at h
  split at h
  · rename_i s z ed
    split at h
    · rename_i hc
      obtain ⟨c1, c2, c3⟩ := hc
      unfold rdF3 at h
      split at h
      · rename_i x y k e1 e2 e3
        split at h
        · cases h
        · rename_i hk
          split at h
          · rename_i hf
            obtain rfl := Option.some.inj h
            have ex := rdE_some e1
            have ey := rdE_some e2
            have ez := (numN_some e3).1
            refine ⟨?_, okFb_iff.mp hf⟩
            have hlt : ws.idxOf (Str.ofString "<=") + 1 ≤ ws.length - 2 := by
              refine Classical.byContradiction fun hn => ?_
              have : (ws.take (ws.length - 2)).drop (ws.idxOf (Str.ofString "<=") + 1) = [] := List.drop_eq_nil_of_le (by rw [List.length_take]; omega)
              rw [this] at ey
              exact endWs_ne y ey.symm
            have s1 := idx_split c1
            have s2 := drop_mid (ws := ws) (i := ws.idxOf (Str.ofString "<=") + 1) (j := ws.length - 2) hlt (by omega)
            rw [s2, ey, ed] at s1
            rw [ex] at s1
            have sg : [s, z] = [sgnS (sgI s k), nS (sgI s k).natAbs] := by
              unfold sgI
              rcases c3 with hs | hs
              · subst hs
                rw [if_pos rfl, ez]
                rcases sgn_cases (k : Int) with ⟨_, e⟩ | ⟨h2, _⟩
                · rw [e, Int.natAbs_natCast]
                · omega
              · subst hs
                have np : ¬ (Str.ofString "-" = Str.ofString "+") := by decide +kernel
                have hk0 : k ≠ 0 := fun e => hk ⟨rfl, e⟩
                rw [if_neg np, ez]
                rcases sgn_cases (-(k : Int)) with ⟨h2, _⟩ | ⟨_, e⟩
                · omega
                · rw [e, Int.natAbs_neg, Int.natAbs_natCast]
            rw [sg] at s1
            exact s1
          · cases h
      · cases h
    · cases h
  · cases h
theorem okF_len {n : Nat} {f : Fc} (hn : n ≤ 8) (h : okF n f) : (∀ t, f.1 = some t → (nS (t / 3)).length ≤ 1) ∧ (∀ t, f.2.1 = some t → (nS (t / 3)).length ≤ 1) ∧ (nS f.2.2.natAbs).length ≤ 13 := by
  obtain ⟨x, y, c⟩ := f
  obtain ⟨h1, h2, h3, h4, h5⟩ := h
  refine ⟨fun t e => ?_, fun t e => ?_, nS_len (by decide) (by show c.natAbs < _; simp only at h4 h5; omega)⟩
  · subst e
    have : t < 3 * n := h1
    exact nS_len (by decide) (by omega)
  · subst e
    have : t < 3 * n := h2
    exact nS_len (by decide) (by omega)
theorem le_not {x : Option Nat} : Str.ofString "<=" ∉ endWs x := fun h => endWs_free (x := x) (c := 60) (.inr (by decide)) (by decide) _ h (by rw [tl_le]; decide)
theorem rdF_fac {n : Nat} {f : Fc} (hn : n ≤ 8) (h : okF n f) : rdF n (facWs f) = some f := by
  obtain ⟨l1, l2, l3⟩ := okF_len hn h
  have hw : facWs f = endWs f.1 ++ Str.ofString "<=" :: (endWs f.2.1 ++ [sgnS f.2.2, nS f.2.2.natAbs]) := rfl
  have le : (facWs f).length = (endWs f.1).length + (endWs f.2.1).length + 3 := by
    rw [hw]
    simp
    omega
  have hm : Str.ofString "<=" ∈ facWs f := by rw [hw]; simp
  have hi : (facWs f).idxOf (Str.ofString "<=") = (endWs f.1).length := by
    rw [hw, List.idxOf_append, if_neg le_not]
    simp
  have ed : (facWs f).drop ((facWs f).length - 2) = [sgnS f.2.2, nS f.2.2.natAbs] := by
    have : (facWs f).length - 2 = (endWs f.1 ++ Str.ofString "<=" :: endWs f.2.1).length := by rw [le]; simp; omega
    rw [this, hw]
    have : endWs f.1 ++ Str.ofString "<=" :: (endWs f.2.1 ++ [sgnS f.2.2, nS f.2.2.natAbs]) = (endWs f.1 ++ Str.ofString "<=" :: endWs f.2.1) ++ [sgnS f.2.2, nS f.2.2.natAbs] := by simp
    rw [this, List.drop_left]
  have et : (facWs f).take ((facWs f).length - 2) = endWs f.1 ++ Str.ofString "<=" :: endWs f.2.1 := by
    have : (facWs f).length - 2 = (endWs f.1 ++ Str.ofString "<=" :: endWs f.2.1).length := by rw [le]; simp; omega
    rw [this, hw]
    have : endWs f.1 ++ Str.ofString "<=" :: (endWs f.2.1 ++ [sgnS f.2.2, nS f.2.2.natAbs]) = (endWs f.1 ++ Str.ofString "<=" :: endWs f.2.1) ++ [sgnS f.2.2, nS f.2.2.natAbs] := by simp
    rw [this, List.take_left]
  have e1 : (facWs f).take ((facWs f).idxOf (Str.ofString "<=")) = endWs f.1 := by
    rw [hi, hw, List.take_left]
  have e2 : ((facWs f).take ((facWs f).length - 2)).drop ((facWs f).idxOf (Str.ofString "<=") + 1) = endWs f.2.1 := by
    rw [et, hi]
    have : endWs f.1 ++ Str.ofString "<=" :: endWs f.2.1 = (endWs f.1 ++ [Str.ofString "<="]) ++ endWs f.2.1 := by simp
    rw [this]
    have l : (endWs f.1).length + 1 = (endWs f.1 ++ [Str.ofString "<="]).length := by simp
    rw [l, List.drop_left]
  have p3 : 1 ≤ (endWs f.2.1).length := List.length_pos_iff.mpr (endWs_ne _)
  have sg : sgnS f.2.2 = Str.ofString "+" ∨ sgnS f.2.2 = Str.ofString "-" := by
    rcases sgn_cases f.2.2 with ⟨_, e⟩ | ⟨_, e⟩
    · exact .inl e
    · exact .inr e
  unfold rdF
  rw [ed]
  show (if Str.ofString "<=" ∈ facWs f ∧ 3 ≤ (facWs f).length ∧ (sgnS f.2.2 = "+" ∨ sgnS f.2.2 = "-") then rdF3 n (rdE ((facWs f).take ((facWs f).idxOf (Str.ofString "<=")))) (rdE (((facWs f).take ((facWs f).length - 2)).drop ((facWs f).idxOf (Str.ofString "<=") + 1))) (sgnS f.2.2) (numN 61 (nS f.2.2.natAbs)) else none) = some f
  rw [if_pos ⟨hm, by omega, sg⟩, e1, e2, rdE_end (fun t e => Nat.le_trans (l1 t e) (by decide)), rdE_end (fun t e => Nat.le_trans (l2 t e) (by decide)), numN_nS (by omega)]
  have np : ¬ (Str.ofString "-" = Str.ofString "+") := by decide +kernel
  have fe : ∀ c : Int, c = f.2.2 → ((f.1, f.2.1, c) : Fc) = f := fun c e => by rw [e]
  show (if sgnS f.2.2 = "-" ∧ f.2.2.natAbs = 0 then none else if okFb n (f.1, f.2.1, sgI (sgnS f.2.2) f.2.2.natAbs) then some (f.1, f.2.1, sgI (sgnS f.2.2) f.2.2.natAbs) else none) = some f
  unfold sgI
  rcases sgn_cases f.2.2 with ⟨h0, e⟩ | ⟨h0, e⟩
  · rw [e, if_neg (by rintro ⟨z, _⟩; exact np z.symm), if_pos rfl, fe _ (by omega), if_pos (okFb_iff.mpr h)]
  · rw [e, if_neg (by rintro ⟨_, z⟩; omega), if_neg np, fe _ (by omega), if_pos (okFb_iff.mpr h)]
def nmW (p : Nat) : Str := nmS p ++ sg 32
def mpE (p : Nat) (w : Str) : Option Nat := if cutS w none (some (((nmW p).length : Nat) : Int)) = nmW p ∧ isN (cutS w (some (((nmW p).length : Nat) : Int)) none) = true ∧ w.length < 12 then some (NumText.digitsVal (TL.tl (cutS w (some (((nmW p).length : Nat) : Int)) none))) else none
theorem tl_cutf {w : Str} {k : Nat} : TL.tl (cutS w (some (k : Int)) none) = (TL.tl w).drop k := by
  show (w.cps.toList.drop (HT.sIx w.length 0 (some (k : Int)))).take (HT.sIx w.length w.length none - HT.sIx w.length 0 (some (k : Int))) = _
  rw [HT.sIx_none, HT.sIx_nat]
  have e : w.length = w.cps.toList.length := TL.len_tl w
  by_cases hk : k ≤ w.length
  · rw [Nat.min_eq_left hk]
    refine List.take_of_length_le ?_
    rw [List.length_drop]
    omega
  · have e2 : (TL.tl w).length = w.length := (TL.len_tl w).symm
    rw [Nat.min_eq_right (by omega), Nat.sub_self, List.take_zero]
    exact (List.drop_eq_nil_of_le (by omega)).symm
theorem cut_both {w y : Str} (h : cutS w none (some ((y.length : Nat) : Int)) = y) : w = y ++ cutS w (some ((y.length : Nat) : Int)) none := by
  refine TL.ext_tl ?_
  rw [TL.tl_append, tl_cutf]
  have e1 : (TL.tl w).take y.length = TL.tl y := by rw [← tl_cut, h]
  conv => lhs; rw [← List.take_append_drop y.length (TL.tl w), e1]
theorem cut_pre (y z : Str) : cutS (y ++ z) none (some ((y.length : Nat) : Int)) = y ∧ cutS (y ++ z) (some ((y.length : Nat) : Int)) none = z := by
  have e : y.length = (TL.tl y).length := TL.len_tl y
  refine ⟨TL.ext_tl ?_, TL.ext_tl ?_⟩
  · rw [tl_cut, TL.tl_append, e, List.take_left]
  · rw [tl_cutf, TL.tl_append, e, List.drop_left]
theorem mpE_some {p j : Nat} {w : Str} (h : mpE p w = some j) : w = nmW p ++ nS j ∧ w.length < 12 := by
  unfold mpE at h
  split at h
  · rename_i hc
    obtain ⟨c1, c2, c3⟩ := hc
    obtain ⟨m, em⟩ := isN_nS c2
    have e2 : j = m := by
      rw [em, tl_nS, TL.numL_val] at h
      exact (Option.some.inj h).symm
    have := cut_both c1
    rw [em] at this
    rw [e2]
    exact ⟨this, c3⟩
  · cases h
theorem mpE_of {p j : Nat} (h : (nmW p ++ nS j).length < 12) : mpE p (nmW p ++ nS j) = some j := by
  unfold mpE
  rw [(cut_pre _ _).1, (cut_pre _ _).2, if_pos ⟨rfl, nS_isN j, h⟩, tl_nS, TL.numL_val]
theorem mpE_ne {p q j : Nat} (hp : p < 3) (hq : q < 3) (h : p ≠ q) : mpE p (nmW q ++ nS j) = none := by
  cases e : mpE p (nmW q ++ nS j) with
  | none => rfl
  | some i =>
    exfalso
    have e1 := congrArg TL.tl (mpE_some e).1
    unfold nmW at e1
    rw [TL.tl_append, TL.tl_append, TL.tl_append, TL.tl_append] at e1
    have e2 := congrArg List.head? e1
    have c3 : ∀ k, k < 3 → k = 0 ∨ k = 1 ∨ k = 2 := fun k hk => by omega
    have f0 : TL.tl (nmS 0) = [102, 105, 114, 115, 116] := tl_first
    have f1 : TL.tl (nmS 1) = [114, 101, 115, 116] := tl_rest
    have f2 : TL.tl (nmS 2) = [115, 101, 99, 111, 110, 100] := tl_second
    rcases c3 p hp with rfl | rfl | rfl <;> rcases c3 q hq with rfl | rfl | rfl <;> first | exact h rfl | (simp [f0, f1, f2] at e2)
theorem mpE_ground {p : Nat} (hp : p < 3) : mpE p (Str.ofString "ground") = none := by
  cases e : mpE p (Str.ofString "ground") with
  | none => rfl
  | some i =>
    exfalso
    have e1 := congrArg TL.tl (mpE_some e).1
    unfold nmW at e1
    rw [TL.tl_append, TL.tl_append, tl_ground] at e1
    have e2 := congrArg List.head? e1
    have c3 : p = 0 ∨ p = 1 ∨ p = 2 := by omega
    have f0 : TL.tl (nmS 0) = [102, 105, 114, 115, 116] := tl_first
    have f1 : TL.tl (nmS 1) = [114, 101, 115, 116] := tl_rest
    have f2 : TL.tl (nmS 2) = [115, 101, 99, 111, 110, 100] := tl_second
    rcases c3 with rfl | rfl | rfl <;> simp [f0, f1, f2] at e2
def lpE (n : Nat) (w : Str) : Nat → List Nat → Option (Option Nat)
  | _, [] => none
  | z, p :: ps => match mpE p w with
    | some j => if j < n then some (some (3 * j + p)) else none
    | none => lpE n w z ps
def lrE (n : Nat) (w : Str) : Option (Option Nat) := if w = "ground" then some none else lpE n w 0 [0, 1, 2]
theorem endW_some (t : Nat) : endW (some t) = nmW (t % 3) ++ nS (t / 3) := rfl
theorem endW_none : endW none = Str.ofString "ground" := rfl
theorem lpE_some {n : Nat} {w : Str} {x : Option Nat} : ∀ {ps : List Nat}, (∀ p ∈ ps, p < 3) → lpE n w 0 ps = some x → ∃ t, x = some t ∧ w = endW (some t) ∧ t < 3 * n
  | [], _, h => by cases h
  | p :: ps, hp, h => by
    have p3 := hp p List.mem_cons_self
    unfold lpE at h
    cases e : mpE p w with
    | none =>
      rw [e] at h
      exact lpE_some (fun q hq => hp q (List.mem_cons_of_mem _ hq)) h
    | some j =>
      rw [e] at h
      simp only at h
      split at h
      · obtain rfl := Option.some.inj h
        refine ⟨_, rfl, ?_, by omega⟩
        rw [endW_some, show (3 * j + p) % 3 = p by omega, show (3 * j + p) / 3 = j by omega]
        exact (mpE_some e).1
      · cases h
theorem lrE_some {n : Nat} {w : Str} {x : Option Nat} (h : lrE n w = some x) : w = endW x ∧ okE n x := by
  unfold lrE at h
  split at h
  · rename_i e
    cases h
    exact ⟨e, trivial⟩
  · obtain ⟨t, rfl, e, b⟩ := lpE_some (by decide) h
    exact ⟨e, b⟩
theorem nmW_len (p : Nat) : (nmW p).length ≤ 7 := by
  unfold nmW
  rw [len_app]
  have e1 : (sg 32).length = 1 := rfl
  have l0 : (Str.ofString "first").length = 5 := by decide +kernel
  have l1 : (Str.ofString "rest").length = 4 := by decide +kernel
  have l2 : (Str.ofString "second").length = 6 := by decide +kernel
  rcases nm_cases p with e | e | e <;> rw [e] <;> omega
theorem lrE_end {n : Nat} {x : Option Nat} (hn : n ≤ 8) (h : okE n x) : lrE n (endW x) = some x := by
  cases x with
  | none => exact if_pos rfl
  | some t =>
    have ht : t < 3 * n := h
    have hl : (nmW (t % 3) ++ nS (t / 3)).length < 12 := by
      have h1 := nmW_len (t % 3)
      have h2 := nS_len (n := t / 3) (k := 1) (by decide) (by omega)
      rw [len_app]
      omega
    have hg : ¬ endW (some t) = "ground" := fun e => by
      have h1 := mpE_of hl
      have e2 : nmW (t % 3) ++ nS (t / 3) = Str.ofString "ground" := e
      rw [e2, mpE_ground (by omega)] at h1
      cases h1
    unfold lrE
    rw [if_neg hg, endW_some]
    have hit : ∀ p, p = t % 3 → mpE p (nmW (t % 3) ++ nS (t / 3)) = some (t / 3) := fun p hp => by rw [hp]; exact mpE_of hl
    have mis : ∀ p, p < 3 → p ≠ t % 3 → mpE p (nmW (t % 3) ++ nS (t / 3)) = none := fun p hp hn => mpE_ne hp (by omega) hn
    have jn : t / 3 < n := by omega
    have c3 : t % 3 = 0 ∨ t % 3 = 1 ∨ t % 3 = 2 := by omega
    unfold lpE
    by_cases h0 : t % 3 = 0
    · rw [hit 0 h0.symm]
      show (if t / 3 < n then some (some (3 * (t / 3) + 0)) else none) = _
      rw [if_pos jn]
      congr 2
      omega
    · rw [mis 0 (by decide) (fun e => h0 e.symm)]
      show lpE n _ 0 [1, 2] = _
      unfold lpE
      by_cases h1 : t % 3 = 1
      · rw [hit 1 h1.symm]
        show (if t / 3 < n then some (some (3 * (t / 3) + 1)) else none) = _
        rw [if_pos jn]
        congr 2
        omega
      · rw [mis 1 (by decide) (fun e => h1 e.symm)]
        show lpE n _ 0 [2] = _
        unfold lpE
        rw [hit 2 (by omega)]
        show (if t / 3 < n then some (some (3 * (t / 3) + 2)) else none) = _
        rw [if_pos jn]
        congr 2
        omega
def lrG (x y : Option (Option Nat)) (g : Str) (pos : Bool) : Option Fc := match x, y with
  | some x, some y => if x ≠ y ∧ isN g = true ∧ g.length < 14 ∧ NumText.digitsVal (TL.tl g) ≤ 10 ^ 12 ∧ (0 < NumText.digitsVal (TL.tl g) ∨ pos = true) then some (x, y, (NumText.digitsVal (TL.tl g) : Int) * (if pos then 1 else -1)) else none
  | _, _ => none
def sgW (pos : Bool) : Str := if pos then " + " else " - "
def lrS (n : Nat) (w : Str) (pos : Bool) : Option Fc := match Txt.split w (Str.ofString " <= ") with
  | [a, b] => match Txt.split b (sgW pos) with
    | [l, g] => lrG (lrE n a) (lrE n l) g pos
    | _ => none
  | _ => none
def lrF (n : Nat) (w : Str) : Option Fc := match lrS n w true with
  | some f => some f
  | none => lrS n w false
theorem lrS_some {n : Nat} {w : Str} {pos : Bool} {f : Fc} (h : lrS n w pos = some f) : w = facS f ∧ okF n f := by
  unfold lrS at h
  split at h
  · rename_i a b e1
    split at h
    · rename_i l g e2
      unfold lrG at h
      split at h
      · rename_i x y ex ey
        split at h
        · rename_i hc
          obtain ⟨c1, c2, c3, c4, c5⟩ := hc
          obtain ⟨m, rfl⟩ := isN_nS c2
          rw [tl_nS, TL.numL_val] at h c4 c5
          obtain ⟨rfl, ox⟩ := lrE_some ex
          obtain ⟨rfl, oy⟩ := lrE_some ey
          have b1 := split_back (x := w) (y := Str.ofString " <= ") (by rw [tl_sp_le]; simp) (by decide +kernel)
          have b2 := split_back (x := b) (y := sgW pos) (by cases pos; exact (by rw [show sgW false = Str.ofString " - " from rfl, tl_sp_minus]; simp); exact (by rw [show sgW true = Str.ofString " + " from rfl, tl_sp_plus]; simp)) (by cases pos <;> decide +kernel)
          rw [e1] at b1
          rw [e2] at b2
          have b1' : endW x ++ Str.ofString " <= " ++ b = w := b1
          have b2' : endW y ++ sgW pos ++ nS m = b := b2
          obtain rfl := Option.some.inj h
          refine ⟨?_, ⟨ox, oy, c1, ?_, ?_⟩⟩
          · rw [facS_eq, ← b1', ← b2']
            cases pos with
            | true =>
              show _ = endW x ++ Str.ofString " <= " ++ (endW y ++ (if 0 ≤ (m : Int) * 1 then Str.ofString " + " else Str.ofString " - ") ++ nS ((m : Int) * 1).natAbs)
              rw [if_pos (by omega), show ((m : Int) * 1).natAbs = m by omega]
              rfl
            | false =>
              have m0 : 0 < m := by
                rcases c5 with z | z
                · exact z
                · cases z
              show _ = endW x ++ Str.ofString " <= " ++ (endW y ++ (if 0 ≤ (m : Int) * -1 then Str.ofString " + " else Str.ofString " - ") ++ nS ((m : Int) * -1).natAbs)
              rw [if_neg (by omega), show ((m : Int) * -1).natAbs = m by omega]
              rfl
          · cases pos <;> simp <;> omega
          · cases pos <;> simp <;> omega
        · cases h
      · cases h
    · cases h
  · cases h
theorem lrF_some {n : Nat} {w : Str} {f : Fc} (h : lrF n w = some f) : w = facS f ∧ okF n f := by
  unfold lrF at h
  cases e : lrS n w true with
  | some g =>
    rw [e] at h
    cases h
    exact lrS_some e
  | none =>
    rw [e] at h
    exact lrS_some h
theorem endW_free {x : Option Nat} {c : Nat} (h1 : c < 48 ∨ 57 < c) (h2 : c < 97) (h3 : c ≠ 32) : c ∉ TL.tl (endW x) := fun hm => by
  unfold endW at hm
  rw [TL.tl_join] at hm
  rcases mem_joinL hm with ⟨p, hp, hc⟩ | hc
  · obtain ⟨z, hz, rfl⟩ := List.mem_map.mp hp
    exact endWs_free h1 h2 z hz hc
  · rw [tl_sg] at hc
    exact h3 (List.mem_singleton.mp hc)
theorem lrF_fac {n : Nat} {f : Fc} (hn : n ≤ 8) (h : okF n f) : lrF n (facS f) = some f := by
  obtain ⟨x, y, c⟩ := f
  obtain ⟨o1, o2, o3, o4, o5⟩ := id h
  have o4 : -(10 ^ 12) ≤ c := o4
  have o5 : c ≤ 10 ^ 12 := o5
  have hl := (okF_len hn h).2.2
  rw [facS_eq]
  show lrF n (endW x ++ Str.ofString " <= " ++ (endW y ++ (if 0 ≤ c then Str.ofString " + " else Str.ofString " - ") ++ nS c.natAbs)) = _
  have fx : 60 ∉ TL.tl (endW x) := endW_free (.inr (by decide)) (by decide) (by decide)
  have fy : 60 ∉ TL.tl (endW y) := endW_free (.inr (by decide)) (by decide) (by decide)
  have f43 : 43 ∉ TL.tl (endW y) := endW_free (.inl (by decide)) (by decide) (by decide)
  have f45 : 45 ∉ TL.tl (endW y) := endW_free (.inl (by decide)) (by decide) (by decide)
  have g60 : 60 ∉ TL.tl (nS c.natAbs) := nS_free (.inr (by decide))
  have g43 : 43 ∉ TL.tl (nS c.natAbs) := nS_free (.inl (by decide))
  have g45 : 45 ∉ TL.tl (nS c.natAbs) := nS_free (.inl (by decide))
  have k1 : ((Str.ofString " <= ").cps.all (· < 256)) = true := by decide +kernel
  have k2 : ((Str.ofString " + ").cps.all (· < 256)) = true := by decide +kernel
  have k3 : ((Str.ofString " - ").cps.all (· < 256)) = true := by decide +kernel
  have len : (nS c.natAbs).length < 14 := by have : (nS c.natAbs).length ≤ 13 := hl; omega
  unfold lrF
  by_cases h0 : 0 ≤ c
  · rw [if_pos h0]
    have s1 : Txt.split (endW x ++ Str.ofString " <= " ++ (endW y ++ Str.ofString " + " ++ nS c.natAbs)) (Str.ofString " <= ") = [endW x, endW y ++ Str.ofString " + " ++ nS c.natAbs] := split_two tl_sp_le k1 (by decide) fx (by
      rw [TL.tl_append, TL.tl_append, tl_sp_plus]
      simp [fy, g60])
    have s2 : Txt.split (endW y ++ Str.ofString " + " ++ nS c.natAbs) (sgW true) = [endW y, nS c.natAbs] := split_two tl_sp_plus k2 (by decide) f43 g43
    have : lrS n (endW x ++ Str.ofString " <= " ++ (endW y ++ Str.ofString " + " ++ nS c.natAbs)) true = some (x, y, c) := by
      unfold lrS
      rw [s1]
      show (match Txt.split (endW y ++ Str.ofString " + " ++ nS c.natAbs) (sgW true) with | [l, g] => lrG (lrE n (endW x)) (lrE n l) g true | _ => none) = _
      rw [s2]
      show lrG (lrE n (endW x)) (lrE n (endW y)) (nS c.natAbs) true = _
      rw [lrE_end hn o1, lrE_end hn o2]
      unfold lrG
      show (if _ then _ else _) = _
      rw [tl_nS, TL.numL_val, if_pos ⟨o3, nS_isN _, len, by omega, .inr rfl⟩]
      have : ((c.natAbs : Nat) : Int) * (if true = true then 1 else -1) = c := by simp; omega
      rw [this]
    rw [this]
  · rw [if_neg h0]
    have s1 : Txt.split (endW x ++ Str.ofString " <= " ++ (endW y ++ Str.ofString " - " ++ nS c.natAbs)) (Str.ofString " <= ") = [endW x, endW y ++ Str.ofString " - " ++ nS c.natAbs] := split_two tl_sp_le k1 (by decide) fx (by
      rw [TL.tl_append, TL.tl_append, tl_sp_minus]
      simp [fy, g60])
    have s2 : Txt.split (endW y ++ Str.ofString " - " ++ nS c.natAbs) (sgW false) = [endW y, nS c.natAbs] := split_two tl_sp_minus k3 (by decide) f45 g45
    have s3 : Txt.split (endW y ++ Str.ofString " - " ++ nS c.natAbs) (sgW true) = [endW y ++ Str.ofString " - " ++ nS c.natAbs] := split_none tl_sp_plus k2 (by decide) (by
      rw [TL.tl_append, TL.tl_append, tl_sp_minus]
      simp [f43, g43])
    have e1 : lrS n (endW x ++ Str.ofString " <= " ++ (endW y ++ Str.ofString " - " ++ nS c.natAbs)) true = none := by
      unfold lrS
      rw [s1]
      show (match Txt.split (endW y ++ Str.ofString " - " ++ nS c.natAbs) (sgW true) with | [l, g] => lrG (lrE n (endW x)) (lrE n l) g true | _ => none) = _
      rw [s3]
    have e2 : lrS n (endW x ++ Str.ofString " <= " ++ (endW y ++ Str.ofString " - " ++ nS c.natAbs)) false = some (x, y, c) := by
      unfold lrS
      rw [s1]
      show (match Txt.split (endW y ++ Str.ofString " - " ++ nS c.natAbs) (sgW false) with | [l, g] => lrG (lrE n (endW x)) (lrE n l) g false | _ => none) = _
      rw [s2]
      show lrG (lrE n (endW x)) (lrE n (endW y)) (nS c.natAbs) false = _
      rw [lrE_end hn o1, lrE_end hn o2]
      unfold lrG
      show (if _ then _ else _) = _
      rw [tl_nS, TL.numL_val, if_pos ⟨o3, nS_isN _, len, by omega, .inl (by omega)⟩]
      have : ((c.natAbs : Nat) : Int) * (if false = true then 1 else -1) = c := by simp; omega
      rw [this]
    rw [e1]
    exact e2
theorem reads_agree {n : Nat} {w : Str} (hn : n ≤ 8) : rdF n (Txt.split w (sg 32)) = lrF n w := by
  cases e : rdF n (Txt.split w (sg 32)) with
  | some f =>
    obtain ⟨e1, o⟩ := rdF_some e
    obtain ⟨ps, e2, _, _, hj⟩ := split_facts (x := w) (k := 32) (by decide)
    rw [e1] at e2
    have : w = facS f := by rw [← hj, ← e2]; rfl
    rw [this]
    exact (lrF_fac hn o).symm
  | none =>
    cases e2 : lrF n w with
    | none => rfl
    | some f =>
      obtain ⟨rfl, o⟩ := lrF_some e2
      rw [facS_split, rdF_fac hn o] at e
      cases e
def rdED : Option (Option Nat) → D
  | none => .non
  | some x => .tup [en x]
abbrev namL : List Str := ["first", "rest", "second"]
theorem neD_int' {h : Hd} {a b : Int} : neD h (.int a) (.int b) = some (.bl (!decide (a = b))) := rfl
theorem any_strs {x : Str} {ys : List Str} (hx : As x) (hy : ∀ y ∈ ys, As y) : anyQ (.str x) (ys.map .str) = some (decide (x ∈ ys)) := by
  have e := inX_strs (h := []) hx hy
  have e2 : (anyQ (.str x) (ys.map .str)).map D.bl = some (.bl (decide (x ∈ ys))) := e
  cases q : anyQ (.str x) (ys.map .str) with
  | none => rw [q] at e2; cases e2
  | some k =>
    rw [q] at e2
    injection e2 with e3
    injection e3 with e4
    rw [e4]
theorem ninL_strs {h : Hd} {x : Str} {ys : List Str} (hx : As x) (hy : ∀ y ∈ ys, As y) : ninX h (.str x) (.lst (ys.map .str)) = some (.bl (!decide (x ∈ ys))) := by
  show (anyQ (.str x) (ys.map .str)).map (fun k => D.bl !k) = _
  rw [any_strs hx hy]
  rfl
theorem ninT_strs {h : Hd} {x : Str} {ys : List Str} (hx : As x) (hy : ∀ y ∈ ys, As y) : ninX h (.str x) (.tup (ys.map .str)) = some (.bl (!decide (x ∈ ys))) := by
  show (anyQ (.str x) (ys.map .str)).map (fun k => D.bl !k) = _
  rw [any_strs hx hy]
  rfl
theorem nam_as : ∀ y ∈ namL, As y := as_all (by decide +kernel)
theorem nmI_mem {a : Str} : a ∈ namL ↔ ∃ p, nmI a = some p := by
  constructor
  · intro h
    simp only [namL, List.mem_cons, List.not_mem_nil, or_false] at h
    rcases h with rfl | rfl | rfl
    · exact ⟨0, rfl⟩
    · exact ⟨1, by decide +kernel⟩
    · exact ⟨2, by decide +kernel⟩
  · rintro ⟨p, e⟩
    obtain ⟨p3, rfl⟩ := nmI_some e
    rcases nm_cases p with e | e | e <;> rw [e] <;> decide +kernel
theorem six_nam {p : Nat} (p3 : p < 3) : sixD (namL.map .str) (.str (nmS p)) = some (.int (p : Int)) := by
  rw [sixD_mem (nmI_mem.mpr ⟨p, nmI_nm p3⟩)]
  have : p = 0 ∨ p = 1 ∨ p = 2 := by omega
  rcases this with rfl | rfl | rfl
  · have e : namL.idxOf (nmS 0) = 0 := by decide +kernel
    rw [e]
  · have e : namL.idxOf (nmS 1) = 1 := by decide +kernel
    rw [e]
  · have e : namL.idxOf (nmS 2) = 2 := by decide +kernel
    rw [e]
theorem readend_wp {h : Hd} {ws : List Str} {Q : D → Sd → Hd → Prop} {E : Ex} (ha : ∀ w ∈ ws, As w) (hl : ∀ w ∈ ws, w.length ≤ 50000) (kk : Q (rdED (rdE ws)) [] h) : Wq Q E () (m_read_end [.lst (ws.map .str)] h) := by
  have ga : ∀ y ∈ [Str.ofString "ground"], As y := as_all (by decide +kernel)
  have e1 : ∀ H, eqX H (.lst (ws.map .str)) (.lst [.str "ground"]) = some (.bl (decide (ws = [Str.ofString "ground"]))) := fun H => eqX_strs (h := H) (b := [Str.ofString "ground"]) ha ga
  have ln : ∀ H, lenD H [.lst (ws.map .str)] = some (.int ((ws.length : Nat) : Int)) := fun _ => by
    show some (D.int ((ws.map D.str).length : Nat)) = _
    rw [List.length_map]
  by_cases c1 : ws = [Str.ofString "ground"]
  · have er : rdE ws = some none := by rw [c1]; rfl
    rw [er] at kk
    simp! [st_read_end_0, st_read_end_1, st_read_end_2, st_read_end_3, b_read_end, m_read_end, e1, decide_eq_true c1]
    exact kk
  · by_cases c2 : ws.length = 2
    · obtain ⟨a, b, rfl⟩ : ∃ a b, ws = [a, b] := by
        match ws, c2 with
        | [a, b], _ => exact ⟨a, b, rfl⟩
      have e1 : ∀ H, eqX H (.lst [.str a, .str b]) (.lst [.str "ground"]) = some (.bl false) := fun H => by rw [← decide_eq_false c1]; exact e1 H
      have ln : ∀ H, lenD H [.lst [.str a, .str b]] = some (.int 2) := fun _ => rfl
      have aa : As a := ha a (by simp)
      have nn : ∀ H, ninX H (.str a) (.tup [.str "first", .str "rest", .str "second"]) = some (.bl (!decide (a ∈ namL))) := fun H => ninT_strs aa nam_as
      by_cases c3 : a ∈ namL
      · obtain ⟨p, ep⟩ := nmI_mem.mp c3
        obtain ⟨p3, rfl⟩ := nmI_some ep
        have sx : sixD [.str "first", .str "rest", .str "second"] (.str (nmS p)) = some (.int (p : Int)) := six_nam p3
        have nn2 : ∀ H, ninX H (.str (nmS p)) (.tup [.str "first", .str "rest", .str "second"]) = some (.bl false) := fun H => by rw [nn H, decide_eq_true c3]; rfl
        simp! [st_read_end_0, st_read_end_1, st_read_end_2, st_read_end_3, b_read_end, m_read_end, List.map, e1, ln, neD_int', at_0, nn2, at_1]
        refine readint_wp (by have := hl b (by simp); omega) ?_
        cases q : numN 61 b with
        | none =>
          have er : rdE [nmS p, b] = none := by
            show (match nmI (nmS p), numN 61 b with | some p, some j => some (some (3 * j + p)) | _, _ => none) = none
            rw [q, ep]
          rw [er] at kk
          simp! [isn_n]
          exact kk
        | some j =>
          have er : rdE [nmS p, b] = some (some (3 * j + p)) := by
            show (match nmI (nmS p), numN 61 b with | some p, some j => some (some (3 * j + p)) | _, _ => none) = _
            rw [q, ep]
          rw [er] at kk
          have m3 : ∀ H, mulD H (.int 3) (.int (j : Int)) = some (.int (3 * (j : Int))) := fun H => mul_l (by decide)
          have ii : ∀ H, isND H (.int (j : Int)) .non = some (.bl false) := fun _ => rfl
          simp! [optN, ii, m3, ↓y_tixT, at_0, sx]
          have e3 : (3 * (j : Int) + (p : Int)) = ((3 * j + p : Nat) : Int) := by omega
          rw [e3]
          exact kk
      · have er : rdE [a, b] = none := by
          show (match nmI a, numN 61 b with | some p, some j => some (some (3 * j + p)) | _, _ => none) = none
          cases q : nmI a with
          | none => rfl
          | some p => exact absurd (nmI_mem.mpr ⟨p, q⟩) c3
        rw [er] at kk
        simp! [st_read_end_0, st_read_end_1, st_read_end_2, st_read_end_3, b_read_end, m_read_end, List.map, e1, ln, neD_int', at_0, nn, decide_eq_false c3]
        exact kk
    · have er : rdE ws = none := by
        match ws, c1, c2 with
        | [], _, _ => rfl
        | [w], c1, _ => exact if_neg fun e => c1 (by rw [e])
        | [a, b], _, c2 => exact absurd rfl c2
        | _ :: _ :: _ :: _, _, _ => rfl
      rw [er] at kk
      simp! [st_read_end_0, st_read_end_1, st_read_end_2, st_read_end_3, b_read_end, m_read_end, e1, decide_eq_false c1, ln, neD_int', decide_eq_false (show ¬ ((ws.length : Nat) : Int) = 2 by omega)]
      exact kk
def fcO : Option Fc → D
  | none => .non
  | some f => fcD f
theorem cut_mid {xs : List D} {i : Nat} (hi : i ≤ xs.length) : cut xs (some (i : Int)) (some (-2)) = (xs.take (xs.length - 2)).drop i := by
  have e : HT.sIx xs.length xs.length (some (-2)) = xs.length - 2 := by
    show (if (-2 : Int) < 0 then ((-2 : Int) + (xs.length : Int)).toNat else min (-2 : Int).toNat xs.length) = _
    rw [if_pos (by decide)]
    omega
  unfold cut
  rw [e, HT.sIx_nat, Nat.min_eq_left hi, List.drop_take]
theorem two_last {ws : List Str} (h : 2 ≤ ws.length) : ∃ s z, ws.drop (ws.length - 2) = [s, z] ∧ atI (ws.map D.str) (-2) = some (.str s) ∧ atI (ws.map D.str) (-1) = some (.str z) := by
  have l2 : (ws.drop (ws.length - 2)).length = 2 := by rw [List.length_drop]; omega
  obtain ⟨s, z, e⟩ : ∃ s z, ws.drop (ws.length - 2) = [s, z] := by
    generalize ws.drop (ws.length - 2) = l at l2
    match l, l2 with
    | [s, z], _ => exact ⟨s, z, rfl⟩
  have g : ∀ i, (ws.drop (ws.length - 2))[i]? = ws[ws.length - 2 + i]? := fun i => List.getElem?_drop
  have g0 := g 0
  have g1 := g 1
  rw [e] at g0 g1
  refine ⟨s, z, e, ?_, ?_⟩
  · unfold atI
    have e : ixN (ws.map D.str).length (-2) = some (ws.length - 2) := by
      unfold ixN
      simp
      omega
    rw [e, Option.bind_some, List.getElem?_map, ← Nat.add_zero (ws.length - 2), ← g0]
    rfl
  · unfold atI
    have e : ixN (ws.map D.str).length (-1) = some (ws.length - 2 + 1) := by
      unfold ixN
      simp
      omega
    rw [e, Option.bind_some, List.getElem?_map, ← g1]
    rfl
theorem fac_fd {x y : Option Nat} {k : Int} (hx : ∀ t, x = some t → t < 10 ^ 62) (hy : ∀ t, y = some t → t < 10 ^ 62) (h1 : -(10 ^ 62) ≤ k) (h2 : k ≤ 10 ^ 62) : Fd (10 ^ 62) 6 1 (fcD (x, y, k)) := by
  have e : ∀ x : Option Nat, (∀ t, x = some t → t < 10 ^ 62) → Fd (10 ^ 62) 0 0 (en x) := fun x h => by
    cases x with
    | none => trivial
    | some t =>
      have := h t rfl
      exact ⟨by omega, by omega⟩
  exact ⟨0, rfl, 0, 5, by omega, e x hx, 0, 4, by omega, e y hy, 0, 3, by omega, ⟨by omega, by omega⟩, trivial⟩
theorem numN_lt {m n : Nat} {w : Str} (h : numN m w = some n) : n < 10 ^ m := len_nS (numN_some h).2
theorem rdE_lt {l : List Str} {x : Option Nat} (h : rdE l = some x) : ∀ t, x = some t → t < 10 ^ 62 := fun t e => by
  subst e
  unfold rdE at h
  split at h
  · split at h
    · cases h
    · cases h
  · split at h
    · rename_i p j h1 h2
      have e := Option.some.inj (Option.some.inj h)
      have := (nmI_some h1).1
      have := numN_lt h2
      omega
    · cases h
  · cases h
theorem readfact_wp {h : Hd} {n : Nat} {w : Str} {Q : D → Sd → Hd → Prop} {E : Ex} (hl : w.length ≤ 50000) (ha : As w) (kk : Q (fcO (rdF n (Txt.split w (sg 32)))) [] h) : Wq Q E () (m_read_fact [.int (n : Int), .str w] h) := by
  obtain ⟨ws, e, hp, hf, hj⟩ := split_facts (x := w) (k := 32) (by decide)
  have pl := piece_le hp hj
  have pa := ha.piece hj
  rw [e] at kk
  have s0 : (0 < (Str.ofString " ").length ∧ w.length ≤ 100000) := ⟨by decide, by omega⟩
  have ex : Txt.split w (Str.ofString " ") = ws := by rw [sp_ofs, e]
  have lea : As (Str.ofString "<=") := as_lit (by decide +kernel)
  have nl : ∀ H, ninX H (.str "<=") (.lst (ws.map .str)) = some (.bl (!decide (Str.ofString "<=" ∈ ws))) := fun H => ninL_strs lea pa
  have ln : ∀ H, lenD H [.lst (ws.map .str)] = some (.int ((ws.length : Nat) : Int)) := fun _ => by
    show some (D.int ((ws.map D.str).length : Nat)) = _
    rw [List.length_map]
  by_cases c1 : Str.ofString "<=" ∈ ws
  · by_cases c2 : 3 ≤ ws.length
    · obtain ⟨s, z, ed, as2, az⟩ := two_last (ws := ws) (by omega)
      have hs : s ∈ ws := List.mem_of_mem_drop (by rw [ed]; simp)
      have hz : z ∈ ws := List.mem_of_mem_drop (by rw [ed]; simp)
      have sg2 : ∀ H, ninX H (.str s) (.tup [.str "+", .str "-"]) = some (.bl (!decide (s ∈ [Str.ofString "+", Str.ofString "-"]))) := fun H => ninT_strs (ys := [Str.ofString "+", Str.ofString "-"]) (pa s hs) (as_all (by decide +kernel))
      by_cases c3 : s ∈ [Str.ofString "+", Str.ofString "-"]
      · have hlt : ws.idxOf (Str.ofString "<=") < ws.length := List.idxOf_lt_length_iff.mpr c1
        have ix : sixD (ws.map .str) (.str "<=") = some (.int (ws.idxOf (Str.ofString "<=") : Nat)) := sixD_mem c1
        have er : rdF n ws = rdF3 n (rdE (ws.take (ws.idxOf (Str.ofString "<=")))) (rdE ((ws.take (ws.length - 2)).drop (ws.idxOf (Str.ofString "<=") + 1))) s (numN 61 z) := by
          unfold rdF
          rw [ed]
          exact if_pos ⟨c1, c2, by simpa using c3⟩
        rw [er] at kk
        generalize ws.idxOf (Str.ofString "<=") = i at *
        have c1' : ∀ H, slD H (.lst (ws.map .str)) none (some (i : Int)) = some (.lst ((ws.take i).map .str)) := fun H => sl_to' (by omega)
        have c2' : ∀ H, slD H (.lst (ws.map .str)) (some ((i : Int) + 1)) (some (-2)) = some (.lst (((ws.take (ws.length - 2)).drop (i + 1)).map .str)) := fun H => by
          have e1 : (i : Int) + 1 = ((i + 1 : Nat) : Int) := by omega
          rw [e1]
          show some (D.lst (cut (ws.map .str) (some ((i + 1 : Nat) : Int)) (some (-2)))) = _
          rw [cut_mid (by rw [List.length_map]; omega), List.length_map, List.map_drop, List.map_take]
        have n2 : ∀ H, negD H (.int 2) = some (.int (-2)) := fun _ => rfl
        have n1 : ∀ H, negD H (.int 1) = some (.int (-1)) := fun _ => rfl
        simp! [st_read_fact_0, st_read_fact_1, st_read_fact_2, st_read_fact_3, st_read_fact_4, st_read_fact_5, st_read_fact_6, b_read_fact, m_read_fact, ↓y_split, onS_str, s0, ex, nl, decide_eq_true c1, ln, decide_eq_false (show ¬ ((ws.length : Nat) : Int) < 3 by omega), as2, sg2, decide_eq_true c3, ↓y_tixL, ix, c1']
        refine readend_wp (fun p hp => pa p (List.mem_of_mem_take hp)) (fun p hp => Nat.le_trans (pl.2 p (List.mem_of_mem_take hp)) hl) ?_
        simp! [ex, c2']
        refine readend_wp (fun p hp => pa p (List.mem_of_mem_take (List.mem_of_mem_drop hp))) (fun p hp => Nat.le_trans (pl.2 p (List.mem_of_mem_take (List.mem_of_mem_drop hp))) hl) ?_
        simp! [ex, az]
        refine readint_wp (by have := pl.2 z hz; omega) ?_
        generalize q1 : rdE (ws.take i) = x at *
        generalize q2 : rdE ((ws.take (ws.length - 2)).drop (i + 1)) = y at *
        generalize q3 : numN 61 z = k at *
        have it : ∀ H (a : D), isND H (.tup [a]) .non = some (.bl false) := fun _ _ => rfl
        have ii : ∀ H (a : Int), isND H (.int a) .non = some (.bl false) := fun _ _ => rfl
        cases x with
        | none => simp! [ex, rdED, isn_n]; exact kk
        | some x =>
          cases y with
          | none => simp! [ex, rdED, isn_n, it]; exact kk
          | some y =>
            cases k with
            | none => simp! [ex, rdED, isn_n, it, optN]; exact kk
            | some k =>
              have hk := numN_lt q3
              have hx := rdE_lt q1
              have hy := rdE_lt q2
              have hm : negD h (.int (k : Int)) = some (.int (-(k : Int))) := rfl
              have main : ∀ v : Int, v = sgI s k → ∀ Q' : D → Sd → Hd → Prop, ∀ E', Q' (.bl (okFb n (x, y, v))) [] h → Wq Q' E' () (m_is_fact [.int (n : Int), .tup [en x, en y, .int v]] h) := fun v hv Q' E' q => by
                refine is_fact_wp (fac_fd hx hy ?_ ?_) q
                · rw [hv]; unfold sgI; split <;> omega
                · rw [hv]; unfold sgI; split <;> omega
              by_cases d1 : s = Str.ofString "-"
              · by_cases d2 : k = 0
                · have : rdF3 n (some x) (some y) s (some k) = none := if_pos ⟨d1, d2⟩
                  rw [this] at kk
                  simp! [ex, rdED, it, optN, ii, as2, eqX_str, decide_eq_true d1, eqX_int', decide_eq_true (show (k : Int) = 0 by omega)]
                  exact kk
                · have np : ¬ s = Str.ofString "+" := by rw [d1]; decide +kernel
                  have hv : (-(k : Int)) = sgI s k := (if_neg np).symm
                  have e3 : rdF3 n (some x) (some y) s (some k) = if okFb n (x, y, sgI s k) then some (x, y, sgI s k) else none := if_neg fun z => d2 z.2
                  rw [e3, ← hv] at kk
                  simp! [ex, rdED, it, optN, ii, as2, eqX_str, decide_eq_true d1, eqX_int', decide_eq_false (show ¬ (k : Int) = 0 by omega), at_0, decide_eq_false np, hm]
                  refine main _ hv _ _ ?_
                  cases q4 : okFb n (x, y, -(k : Int)) with
                  | true => rw [q4, if_pos rfl] at kk; simp!; exact kk
                  | false => rw [q4, if_neg (by decide)] at kk; simp!; exact kk
              · have pp : s = Str.ofString "+" := by
                  simp only [List.mem_cons, List.not_mem_nil, or_false] at c3
                  exact c3.resolve_right d1
                have hv : (k : Int) = sgI s k := (if_pos pp).symm
                have e3 : rdF3 n (some x) (some y) s (some k) = if okFb n (x, y, sgI s k) then some (x, y, sgI s k) else none := if_neg fun z => d1 z.1
                rw [e3, ← hv] at kk
                simp! [ex, rdED, it, optN, ii, as2, eqX_str, decide_eq_false d1, at_0, decide_eq_true pp]
                refine main _ hv _ _ ?_
                cases q4 : okFb n (x, y, (k : Int)) with
                | true => rw [q4, if_pos rfl] at kk; simp!; exact kk
                | false => rw [q4, if_neg (by decide)] at kk; simp!; exact kk
      · have er : rdF n ws = none := by
          unfold rdF
          rw [ed]
          exact if_neg fun q => c3 (by simpa using q.2.2)
        rw [er] at kk
        simp! [st_read_fact_0, st_read_fact_1, st_read_fact_2, st_read_fact_3, st_read_fact_4, st_read_fact_5, st_read_fact_6, b_read_fact, m_read_fact, ↓y_split, onS_str, s0, ex, nl, decide_eq_true c1, ln, decide_eq_false (show ¬ ((ws.length : Nat) : Int) < 3 by omega), as2, sg2, decide_eq_false c3]
        exact kk
    · have er : rdF n ws = none := by
        unfold rdF
        split
        · exact if_neg fun q => c2 q.2.1
        · rfl
      rw [er] at kk
      simp! [st_read_fact_0, st_read_fact_1, st_read_fact_2, st_read_fact_3, st_read_fact_4, st_read_fact_5, st_read_fact_6, b_read_fact, m_read_fact, ↓y_split, onS_str, s0, ex, nl, decide_eq_true c1, ln, decide_eq_true (show ((ws.length : Nat) : Int) < 3 by omega)]
      exact kk
  · have er : rdF n ws = none := by
      unfold rdF
      split
      · exact if_neg fun q => c1 q.1
      · rfl
    rw [er] at kk
    simp! [st_read_fact_0, st_read_fact_1, st_read_fact_2, st_read_fact_3, st_read_fact_4, st_read_fact_5, st_read_fact_6, b_read_fact, m_read_fact, ↓y_split, onS_str, s0, ex, nl, decide_eq_false c1]
    exact kk
def rdJ : List Str → Option Nat
  | [a, b] => if a = "jobs" then (match numN 61 b with | some k => if 1 ≤ k ∧ k ≤ 8 then some k else none | none => none) else none
  | _ => none
theorem readjobs_wp {h : Hd} {w : Str} {Q : D → Sd → Hd → Prop} {E : Ex} (hl : w.length ≤ 50000) (kk : Q (optN (rdJ (Txt.split w (sg 32)))) [] h) : Wq Q E () (m_read_jobs [.str w] h) := by
  obtain ⟨ws, e, hp, hf, hj⟩ := split_facts (x := w) (k := 32) (by decide)
  have pl := piece_le hp hj
  rw [e] at kk
  have s0 : (0 < (Str.ofString " ").length ∧ w.length ≤ 100000) := ⟨by decide, by omega⟩
  have ex : Txt.split w (Str.ofString " ") = ws := by rw [sp_ofs, e]
  have nn : ∀ H, notND H .non .non = some (.bl false) := fun _ => rfl
  by_cases c2 : ws.length = 2
  · obtain ⟨a, b, rfl⟩ : ∃ a b, ws = [a, b] := by
      match ws, c2 with
      | [a, b], _ => exact ⟨a, b, rfl⟩
    have ln : ∀ H, lenD H [.lst [.str a, .str b]] = some (.int 2) := fun _ => rfl
    by_cases c3 : a = "jobs"
    · have er : rdJ [a, b] = match numN 61 b with | some k => if 1 ≤ k ∧ k ≤ 8 then some k else none | none => none := if_pos c3
      rw [er] at kk
      simp! [st_read_jobs_0, st_read_jobs_1, st_read_jobs_2, b_read_jobs, m_read_jobs, ↓y_split, onS_str, s0, ex, List.map, ln, eqX_int', at_0, eqX_str, decide_eq_true c3, at_1]
      refine readint_wp (by have := pl.2 b (by simp); omega) ?_
      cases q : numN 61 b with
      | none => rw [q] at kk; simp! [nn, optN]; exact kk
      | some k =>
        rw [q] at kk
        have ni : ∀ H, notND H (.int (k : Int)) .non = some (.bl true) := fun _ => rfl
        by_cases h1 : 1 ≤ k
        · by_cases h8 : k ≤ 8
          · have kk : Q (optN (some k)) [] h := by
              have k2 : Q (optN (if 1 ≤ k ∧ k ≤ 8 then some k else none)) [] h := kk
              rwa [if_pos ⟨h1, h8⟩] at k2
            simp! [ni, optN, decide_eq_true (show (1 : Int) ≤ (k : Int) by omega), decide_eq_true (show (k : Int) ≤ 8 by omega)]
            exact kk
          · have kk : Q (optN none) [] h := by
              have k2 : Q (optN (if 1 ≤ k ∧ k ≤ 8 then some k else none)) [] h := kk
              rwa [if_neg fun z => h8 z.2] at k2
            simp! [ni, optN, decide_eq_true (show (1 : Int) ≤ (k : Int) by omega), decide_eq_false (show ¬ (k : Int) ≤ 8 by omega)]
            exact kk
        · have kk : Q (optN none) [] h := by
            have k2 : Q (optN (if 1 ≤ k ∧ k ≤ 8 then some k else none)) [] h := kk
            rwa [if_neg fun z => h1 z.1] at k2
          simp! [ni, optN, decide_eq_false (show ¬ (1 : Int) ≤ (k : Int) by omega)]
          exact kk
    · have er : rdJ [a, b] = none := if_neg c3
      rw [er] at kk
      simp! [st_read_jobs_0, st_read_jobs_1, st_read_jobs_2, b_read_jobs, m_read_jobs, ↓y_split, onS_str, s0, ex, List.map, ln, eqX_int', at_0, eqX_str, decide_eq_false c3, nn]
      exact kk
  · have er : rdJ ws = none := by
      match ws, c2 with
      | [], _ => rfl
      | [_], _ => rfl
      | [a, b], c2 => exact absurd rfl c2
      | _ :: _ :: _ :: _, _ => rfl
    have ln : ∀ H, lenD H [.lst (ws.map .str)] = some (.int ((ws.length : Nat) : Int)) := fun _ => by
      show some (D.int ((ws.map D.str).length : Nat)) = _
      rw [List.length_map]
    rw [er] at kk
    simp! [st_read_jobs_0, st_read_jobs_1, st_read_jobs_2, b_read_jobs, m_read_jobs, ↓y_split, onS_str, s0, ex, ln, eqX_int', decide_eq_false (show ¬ ((ws.length : Nat) : Int) = 2 by omega), nn]
    exact kk
def goF (n : Nat) : Nat → List Fc → List Str → Nat ⊕ List Fc
  | _, fs, [] => .inr fs
  | i, fs, w :: ls => match lrF n w with
    | none => .inl i
    | some f => if 40 < i then .inl i else goF n (i + 1) (fs ++ [f]) ls
theorem goF_nil {n i : Nat} {fs : List Fc} : goF n i fs [] = .inr fs := rfl
theorem goF_cons {n i : Nat} {fs : List Fc} {w : Str} {ls : List Str} : goF n i fs (w :: ls) = match lrF n w with
    | none => .inl i
    | some f => if 40 < i then .inl i else goF n (i + 1) (fs ++ [f]) ls := rfl
def hdJ : List Str → Option Nat
  | [] => none
  | w :: _ => rdJ (Txt.split w (sg 32))
def endU (n l : Nat) (r : Str) : Nat ⊕ List Fc → Nat ⊕ (Nat × List Fc)
  | .inl i => .inl i
  | .inr fs => if r = "" then .inr (n, fs) else .inl l
def endT (ls : List Str) (r : Str) : Nat ⊕ (Nat × List Fc) := match hdJ ls with
  | none => .inl 0
  | some n => endU n ls.length r (goF n 1 [] (ls.drop 1))
theorem endT_n {ls : List Str} {r : Str} (e : hdJ ls = none) : endT ls r = .inl 0 := by
  unfold endT
  rw [e]
theorem endT_s {ls : List Str} {r : Str} {n : Nat} (e : hdJ ls = some n) : endT ls r = endU n ls.length r (goF n 1 [] (ls.drop 1)) := by
  unfold endT
  rw [e]
theorem rdJ_some {ws : List Str} {k : Nat} (h : rdJ ws = some k) : 1 ≤ k ∧ k ≤ 8 ∧ ws = [Str.ofString "jobs", nS k] := by
  unfold rdJ at h
  split at h
  · split at h
    · rename_i a b c1
      cases q : numN 61 b with
      | none => rw [q] at h; cases h
      | some j =>
        rw [q] at h
        have h2 : (if 1 ≤ j ∧ j ≤ 8 then some j else none) = some k := h
        by_cases hj : 1 ≤ j ∧ j ≤ 8
        · rw [if_pos hj] at h2
          cases h2
          exact ⟨hj.1, hj.2, by rw [c1, (numN_some q).1]⟩
        · rw [if_neg hj] at h2
          cases h2
    · cases h
  · cases h
theorem hdJ_le {ls : List Str} {n : Nat} (h : hdJ ls = some n) : 1 ≤ n ∧ n ≤ 8 := by
  cases ls with
  | nil => cases h
  | cons w ls => exact ⟨(rdJ_some h).1, (rdJ_some h).2.1⟩
def resQ (Q : D → Sd → Hd → Prop) (E : Ex) (h : Hd) : Nat ⊕ (Nat × List Fc) → Prop
  | .inl k => E "ParseError" [("line", .int (k : Int))] [] h
  | .inr (n, fs) => Q (.tup [.int (n : Int), .tup (fs.map fcD)]) [] h
theorem fcD_non {h : Hd} (f : Fc) : isND h (fcD f) .non = some (.bl false) := rfl
theorem parse_wp {h : Hd} {x : Str} {ls : List Str} {r : Str} {Q : D → Sd → Hd → Prop} {E : Ex} (hl : x.length ≤ 50000) (ha : As x) (e : Txt.split x (sg 10) = ls ++ [r])
    (kk : resQ Q E h (endT ls r)) : Wq Q E () (m_parse_book [.str x] h) := by
  obtain ⟨ps, e2, hp, hf, hj⟩ := split_facts (x := x) (k := 10) (by decide)
  rw [e] at e2
  subst e2
  have pl := piece_le hp hj
  have pa := ha.piece hj
  have hll : ls.length ≤ 50000 := by have := pl.1; rw [List.length_append, List.length_singleton] at this; omega
  simp! [st_parse_book_0, st_parse_book_1, st_parse_book_2, st_parse_book_3, st_parse_book_4, b_parse_book, m_parse_book]
  refine linesof_wp hl e ?_
  simp!
  refine Wq.loop (fun i s h' => (∃ jb fs s5 s6 s7, s = [.val (.str x), .val (.lst (ls.map .str)), .val (.str r), .val jb, .own (fs.map fcD), s5, s6, s7] ∧ fs.length ≤ i ∧ ((i = 0 ∧ jb = .non ∧ fs = []) ∨ (0 < i ∧ ∃ n : Nat, jb = .int (n : Int) ∧ hdJ ls = some n ∧ goF n 1 [] (ls.drop 1) = goF n i fs (ls.drop i)))) ∧ h' = h) ⟨⟨_, [], _, _, _, rfl, Nat.le_refl _, .inl ⟨rfl, rfl, rfl⟩⟩, rfl⟩ ?_ ?_
  · rintro i y s h' ey ⟨⟨jb, fs, s5, s6, s7, rfl, hfs, inv⟩, rfl⟩
    obtain ⟨d, ed, rfl⟩ := enumD_get 0 _ i y ey
    rw [Nat.zero_add]
    have hi : i < ls.length := by
      have := (List.getElem?_eq_some_iff.mp ed).1
      rwa [List.length_map] at this
    have ed2 : d = .str ls[i] := by
      rw [List.getElem?_map, List.getElem?_eq_getElem hi] at ed
      exact (Option.some.inj ed).symm
    subst ed2
    have hm : ls[i] ∈ ls ++ [r] := List.mem_append_left _ (List.getElem_mem hi)
    have wl : ls[i].length ≤ 50000 := by have := pl.2 _ hm; omega
    have wa := pa _ hm
    rcases inv with ⟨i0, rfl, rfl⟩ | ⟨ip, n, rfl, ej, eg⟩
    · subst i0
      have eh : hdJ ls = rdJ (Txt.split ls[0] (sg 32)) := by
        cases ls with
        | nil => simp at hi
        | cons w ls => rfl
      simp! [lb_parse_book_0, eqX_int']
      refine readjobs_wp wl ?_
      rw [← eh]
      cases q : hdJ ls with
      | none =>
        rw [endT_n q] at kk
        simp! [isn_n, optN]
        exact kk
      | some n =>
        have ii : ∀ H, isND H (.int (n : Int)) .non = some (.bl false) := fun _ => rfl
        simp! [ii, optN, eqX_int']
        exact ⟨_, [], _, _, _, rfl, by simp, .inr ⟨by omega, n, rfl, rfl, rfl⟩⟩
    · rw [List.drop_eq_getElem_cons hi, goF_cons, ← reads_agree (hdJ_le ej).2] at eg
      have i0 : decide ((i : Int) = 0) = false := decide_eq_false (by omega)
      simp! [lb_parse_book_0, eqX_int', i0]
      refine readfact_wp wl wa ?_
      cases q : rdF n (Txt.split ls[i] (sg 32)) with
      | none =>
        rw [q] at eg
        rw [endT_s ej, eg] at kk
        simp! [isn_n, fcO]
        exact kk
      | some f =>
        rw [q] at eg
        have eg2 : goF n 1 [] (ls.drop 1) = if 40 < i then .inl i else goF n (i + 1) (fs ++ [f]) (ls.drop (i + 1)) := eg
        by_cases h40 : 40 < i
        · rw [if_pos h40] at eg2
          rw [endT_s ej, eg2] at kk
          simp! [fcD_non, fcO, decide_eq_true (show (40 : Int) < (i : Int) by omega)]
          exact kk
        · rw [if_neg h40] at eg2
          simp! [fcD_non, fcO, decide_eq_false (show ¬ (40 : Int) < (i : Int) by omega), eqX_int', i0]
          have em : fs.map fcD ++ [fcD f] = (fs ++ [f]).map fcD := by rw [List.map_append]; rfl
          rw [em]
          exact ⟨by simp; omega, _, fs ++ [f], _, _, _, rfl, by simp; omega, .inr ⟨by omega, n, rfl, ej, eg2⟩⟩
  · rintro s h' ⟨⟨jb, fs, s5, s6, s7, rfl, hfs, inv⟩, rfl⟩
    rw [enumD_len, List.length_map] at inv
    have e1 : ∀ H, eqX H (.lst (ls.map .str)) (.lst []) = some (.bl (decide (ls = []))) := fun H => eqX_strs (h := H) (b := []) (fun z hz => pa z (List.mem_append_left _ hz)) (fun z hz => nomatch hz)
    have lp : ∀ H, lenD H [.lst (ls.map .str)] = some (.int ((ls.length : Nat) : Int)) := fun _ => by
      show some (D.int ((ls.map D.str).length : Nat)) = _
      rw [List.length_map]
    rcases inv with ⟨i0, rfl, rfl⟩ | ⟨ip, n, rfl, ej, eg⟩
    · have h0 : ls = [] := List.length_eq_zero_iff.mp i0
      subst h0
      have kk2 : E "ParseError" [("line", .int (0 : Int))] [] h' := kk
      simp! [e1, lp]
      exact kk2
    · have h0 : ¬ ls = [] := fun z => by rw [z] at ip; simp at ip
      rw [List.drop_length, goF_nil] at eg
      rw [endT_s ej, eg] at kk
      have kk : resQ Q E h' (if r = "" then .inr (n, fs) else .inl ls.length) := kk
      by_cases hr : r = ""
      · rw [if_pos hr] at kk
        simp! [e1, decide_eq_false h0, decide_eq_true hr, show (2 : Nat) ≤ 100000 by decide]
        exact kk
      · rw [if_neg hr] at kk
        simp! [e1, decide_eq_false h0, decide_eq_false hr, lp]
        exact kk
def toldB : Nat ⊕ (Nat × List Fc) → D
  | .inl k => .tup [.str "line", .int (k : Int)]
  | .inr (n, fs) => .tup [.str "told", .tup [.int (n : Int), .tup (fs.map fcD)]]
theorem told_wp {h : Hd} {x : Str} {ls : List Str} {r : Str} {Q : D → Sd → Hd → Prop} {E : Ex} (hl : x.length ≤ 50000) (ha : As x) (e : Txt.split x (sg 10) = ls ++ [r])
    (kk : Q (toldB (endT ls r)) [] h) : Wq Q E () (m_law_told [.str x] h) := by
  simp! [su_law_told_0, st_law_told_0, st_law_told_1, b_law_told, m_law_told]
  refine parse_wp hl ha e ?_
  cases ee : endT ls r with
  | inl k =>
    rw [ee] at kk
    unfold resQ
    simp! [su_law_told_0, List.lookup_cons_self]
    exact kk
  | inr z =>
    obtain ⟨n, fs⟩ := z
    rw [ee] at kk
    unfold resQ
    simp!
    exact kk
def enO : Option (Option Nat) → List D
  | none => []
  | some x => [en x]
theorem intT_nS {n k : Nat} (hk : k ≤ 640) (h : (nS n).length ≤ k) (H : Hd) : intT H [.str (nS n)] = some (.int (n : Int)) := by
  show (if (nS n).length ≤ 640 then (intText? (nS n)).map D.int else none) = _
  rw [if_pos (by omega), nS_int (by omega)]
  rfl
theorem lawend_wp {h : Hd} {n : Nat} {w : Str} {Q : D → Sd → Hd → Prop} {E : Ex} (hl : w.length ≤ 50000) (ha : As w) (kk : Q (.lst (enO (lrE n w))) [] h) : Wq Q E () (m_law_read_end [.int (n : Int), .str w] h) := by
  by_cases c1 : w = "ground"
  · have er : lrE n w = some none := if_pos c1
    rw [er] at kk
    simp! [st_law_read_end_0, st_law_read_end_1, st_law_read_end_2, b_law_read_end, m_law_read_end, eqX_str, decide_eq_true c1]
    exact kk
  · have er : lrE n w = lpE n w 0 [0, 1, 2] := if_neg c1
    rw [er] at kk
    simp! [st_law_read_end_0, st_law_read_end_1, st_law_read_end_2, b_law_read_end, m_law_read_end, eqX_str, decide_eq_false c1]
    refine Wq.loop (fun i s h' => (∃ s2 s3 s4, s = [.val (.int (n : Int)), .val (.str w), s2, s3, s4] ∧ lpE n w 0 [0, 1, 2] = lpE n w 0 (([0, 1, 2] : List Nat).drop i)) ∧ h' = h) ⟨⟨_, _, _, rfl, rfl⟩, rfl⟩ ?_ ?_
    · rintro i y s h' ey ⟨⟨s2, s3, s4, rfl, eg⟩, rfl⟩
      obtain ⟨d, ed, rfl⟩ := enumD_get 0 _ i y ey
      rw [Nat.zero_add]
      have hi : i < 3 := by
        have := (List.getElem?_eq_some_iff.mp ed).1
        simpa using this
      have ed2 : d = .str (nmW i) := by
        have : i = 0 ∨ i = 1 ∨ i = 2 := by omega
        have f0 : nmW 0 = Str.ofString "first " := by decide +kernel
        have f1 : nmW 1 = Str.ofString "rest " := by decide +kernel
        have f2 : nmW 2 = Str.ofString "second " := by decide +kernel
        rcases this with rfl | rfl | rfl
        · rw [f0]; exact (Option.some.inj ed).symm
        · rw [f1]; exact (Option.some.inj ed).symm
        · rw [f2]; exact (Option.some.inj ed).symm
      subst ed2
      have dr : ([0, 1, 2] : List Nat).drop i = i :: ([0, 1, 2] : List Nat).drop (i + 1) := by
        have : i = 0 ∨ i = 1 ∨ i = 2 := by omega
        rcases this with rfl | rfl | rfl <;> rfl
      rw [dr] at eg
      have nl := nmW_len i
      have lh : ∀ H, lenD H [.str (nmW i)] = some (.int (((nmW i).length : Nat) : Int)) := fun H => len_str (by omega)
      have lw : ∀ H, lenD H [.str w] = some (.int ((w.length : Nat) : Int)) := fun H => len_str (by omega)
      have cs : ∀ H, slT H (.str w) none (some (((nmW i).length : Nat) : Int)) = some (.str (cutS w none (some (((nmW i).length : Nat) : Int)))) := fun _ => slT_str (by omega)
      have cf : ∀ H, slT H (.str w) (some (((nmW i).length : Nat) : Int)) none = some (.str (cutS w (some (((nmW i).length : Nat) : Int)) none)) := fun _ => slT_str (by omega)
      have miss : mpE i w = none → lpE n w 0 [0, 1, 2] = lpE n w 0 (([0, 1, 2] : List Nat).drop (i + 1)) := fun e => by
        rw [eg]
        show (match mpE i w with | some j => if j < n then some (some (3 * j + i)) else none | none => lpE n w 0 (([0, 1, 2] : List Nat).drop (i + 1))) = _
        rw [e]
      by_cases d1 : cutS w none (some (((nmW i).length : Nat) : Int)) = nmW i
      · have wc := cut_both d1
        have zl : (cutS w (some (((nmW i).length : Nat) : Int)) none).length ≤ w.length := by
          conv => rhs; rw [wc, len_app]
          omega
        have za : As (cutS w (some (((nmW i).length : Nat) : Int)) none) := fun c hc => ha c (by
          rw [wc, TL.tl_append]
          exact List.mem_append_right _ hc)
        generalize hz : cutS w (some (((nmW i).length : Nat) : Int)) none = z at *
        simp! [lb_law_read_end_0, lh, ↓y_slT, onS_str, cs, eqX_str, decide_eq_true d1, cf]
        refine figures_wp (by omega) za ?_
        cases d2 : isN z with
        | false =>
          have em : mpE i w = none := if_neg fun q => by
            have := q.2.1
            rw [hz, d2] at this
            cases this
          simp!
          exact ⟨_, _, _, rfl, miss em⟩
        | true =>
          by_cases d3 : w.length < 12
          · obtain ⟨j, rfl⟩ := isN_nS d2
            have em : mpE i w = some j := by
              unfold mpE
              rw [hz, if_pos ⟨d1, d2, d3⟩, tl_nS, TL.numL_val]
            have eg2 : lpE n w 0 [0, 1, 2] = if j < n then some (some (3 * j + i)) else none := by
              rw [eg]
              show (match mpE i w with | some j => if j < n then some (some (3 * j + i)) else none | none => lpE n w 0 (([0, 1, 2] : List Nat).drop (i + 1))) = _
              rw [em]
            rw [eg2] at kk
            have it := intT_nS (n := j) (k := 12) (by decide) (by omega)
            have m3 : ∀ H, mulD H (.int 3) (.int (j : Int)) = some (.int (3 * (j : Int))) := fun H => mul_l (by decide)
            by_cases d4 : j < n
            · rw [if_pos d4] at kk
              simp! [lw, decide_eq_true (show (w.length : Int) < 12 by omega), lh, ↓y_slT, onS_str, cf, it, decide_eq_true (show (j : Int) < (n : Int) by omega), m3]
              have e3 : (3 * (j : Int) + (i : Int)) = ((3 * j + i : Nat) : Int) := by omega
              rw [e3]
              exact kk
            · rw [if_neg d4] at kk
              simp! [lw, decide_eq_true (show (w.length : Int) < 12 by omega), lh, ↓y_slT, onS_str, cf, it, decide_eq_false (show ¬ (j : Int) < (n : Int) by omega)]
              exact kk
          · have em : mpE i w = none := if_neg fun q => d3 q.2.2
            simp! [lw, decide_eq_false (show ¬ (w.length : Int) < 12 by omega)]
            exact ⟨_, _, _, rfl, miss em⟩
      · have em : mpE i w = none := if_neg fun q => d1 q.1
        simp! [lb_law_read_end_0, lh, ↓y_slT, onS_str, cs, eqX_str, decide_eq_false d1]
        exact ⟨_, _, _, rfl, miss em⟩
    · rintro s h' ⟨⟨s2, s3, s4, rfl, eg⟩, rfl⟩
      rw [eg] at kk
      simp!
      exact kk
def fcL : Option Fc → List D
  | none => []
  | some f => [fcD f]
theorem en_one {h : Hd} {x : Option Nat} : neX h (.lst [en x]) (.lst []) = some (.bl true) := by cases x <;> rfl
theorem en_two {h : Hd} {x y : Option Nat} : neX h (.lst [en x]) (.lst [en y]) = some (.bl (!decide (x = y))) := by
  cases x with
  | none => cases y <;> rfl
  | some a =>
    cases y with
    | none => rfl
    | some b =>
      have e : eqB (.lst [en (some a)]) (.lst [en (some b)]) = some (decide (some a = some b)) := by
        show eqB (.lst [.int (a : Int)]) (.lst [.int (b : Int)]) = _
        unfold eqB
        simp [D.py, D.pyL, SeqAt.shaped, PyData.canLay0, PyData.canLayAll0, PyData.depth, PyData.depthAll, PyData.eqv, PyData.eqvAll]
        by_cases hab : a = b
        · simp [hab]
        · simp [hab, show ¬ (a : Int) = (b : Int) by omega]
      show neD h _ _ = _
      unfold neD
      rw [e]
      rfl
theorem split_ok {x y : Str} (hy : TL.tl y ≠ []) (hk : y.cps.all (· < 256) = true) (hx : As x) : ∀ p ∈ Txt.split x y, As p ∧ p.length ≤ x.length := by
  have hn : Txt.split x y ≠ [] := fun e => by
    have := spl_ne (TL.tl y) hy _ (TL.tl x) [] (Nat.le_refl _)
    rw [← TL.split_spl x y hy (TL.kind_ok hk), e] at this
    exact this rfl
  have hj := split_back (x := x) hy hk
  intro p hp
  refine ⟨fun c hc => hx c ?_, ?_⟩
  · rw [← hj, TL.tl_join]
    exact joinL_mem (List.mem_map_of_mem hp) hc
  · have e := join_len (sep := y) hn
    rw [hj] at e
    have s := sum_mem (f := fun x : Str => x.length) hp
    have l1 : 1 ≤ (Txt.split x y).length := List.length_pos_iff.mpr hn
    have l2 : 1 * y.length ≤ (Txt.split x y).length * y.length := Nat.mul_le_mul_right _ l1
    omega
theorem lawsign_wp {h : Hd} {n : Nat} {w : Str} {pos : Bool} {s4 s5 s6 s7 s8 s9 : Sl} {QF : Fl → Sd → Hd → Prop} {E : Ex} (hl : w.length ≤ 50000) (ha : As w)
    (k0 : lrS n w pos = none → ∀ s4 s5 s6 s7 s8 s9, QF .nx [.val (.int (n : Int)), .val (.str w), .val (.str (sgW pos)), .val (.int (if pos then 1 else -1)), s4, s5, s6, s7, s8, s9] h)
    (k1 : ∀ f s, lrS n w pos = some f → QF (.rt (.lst [fcD f])) s h) :
    Wq QF E () (lb_law_read_fact_0 [.val (.int (n : Int)), .val (.str w), .val (.str (sgW pos)), .val (.int (if pos then 1 else -1)), s4, s5, s6, s7, s8, s9] h) := by
  have sk : ((Str.ofString " <= ").cps.all (· < 256)) = true := by decide +kernel
  have ok1 := split_ok (x := w) (y := Str.ofString " <= ") (by rw [tl_sp_le]; simp) sk ha
  have s0 : (0 < (Str.ofString " <= ").length ∧ w.length ≤ 100000) := ⟨by decide +kernel, by omega⟩
  unfold lrS at k0 k1
  generalize ep : Txt.split w (Str.ofString " <= ") = ps at *
  have ln : ∀ H, lenD H [.lst (ps.map .str)] = some (.int ((ps.length : Nat) : Int)) := fun _ => by
    show some (D.int ((ps.map D.str).length : Nat)) = _
    rw [List.length_map]
  by_cases c1 : ps.length = 2
  · obtain ⟨a, b, rfl⟩ : ∃ a b, ps = [a, b] := by
      match ps, c1 with
      | [a, b], _ => exact ⟨a, b, rfl⟩
    have oa := ok1 a (by simp)
    have ob := ok1 b (by simp)
    have sw : TL.tl (sgW pos) ≠ [] := by
      cases pos
      · exact (by rw [show sgW false = Str.ofString " - " from rfl, tl_sp_minus]; simp)
      · exact (by rw [show sgW true = Str.ofString " + " from rfl, tl_sp_plus]; simp)
    have swk : ((sgW pos).cps.all (· < 256)) = true := by cases pos <;> decide +kernel
    have swl : (0 < (sgW pos).length ∧ b.length ≤ 100000) := ⟨by cases pos <;> decide +kernel, by omega⟩
    have ok2 := split_ok (x := b) (y := sgW pos) sw swk ob.1
    have l2 : ∀ H, lenD H [.lst [.str a, .str b]] = some (.int 2) := fun _ => rfl
    have k0 : (match Txt.split b (sgW pos) with | [l, g] => lrG (lrE n a) (lrE n l) g pos | _ => none) = none → _ := k0
    have k1 : ∀ f s, (match Txt.split b (sgW pos) with | [l, g] => lrG (lrE n a) (lrE n l) g pos | _ => none) = some f → _ := k1
    generalize eq : Txt.split b (sgW pos) = qs at *
    have lq : ∀ H, lenD H [.lst (qs.map .str)] = some (.int ((qs.length : Nat) : Int)) := fun _ => by
      show some (D.int ((qs.map D.str).length : Nat)) = _
      rw [List.length_map]
    by_cases c2 : qs.length = 2
    · obtain ⟨l, g, rfl⟩ : ∃ l g, qs = [l, g] := by
        match qs, c2 with
        | [l, g], _ => exact ⟨l, g, rfl⟩
      have ol := ok2 l (by simp)
      have og := ok2 g (by simp)
      have l3 : ∀ H, lenD H [.lst [.str l, .str g]] = some (.int 2) := fun _ => rfl
      have k0 : lrG (lrE n a) (lrE n l) g pos = none → _ := k0
      have k1 : ∀ f s, lrG (lrE n a) (lrE n l) g pos = some f → _ := k1
      simp! [lb_law_read_fact_0, ↓y_split, onS_str, s0, ep, List.map, l2, eqX_int', at_1, swl, eq, l3, ↓y_gTl, at_0]
      refine lawend_wp (by omega) oa.1 ?_
      simp! [ep, eq]
      refine lawend_wp (by omega) ol.1 ?_
      generalize lrE n a = x at *
      generalize lrE n l = y at *
      cases x with
      | none =>
        have ne : ∀ H, neX H (.lst []) (.lst []) = some (.bl false) := fun _ => rfl
        simp! [ep, eq, enO, ne]
        exact k0 rfl _ _ _ _ _ _
      | some x =>
        cases y with
        | none =>
          have ne : ∀ H, neX H (.lst []) (.lst []) = some (.bl false) := fun _ => rfl
          simp! [ep, eq, enO, en_one, ne]
          exact k0 rfl _ _ _ _ _ _
        | some y =>
          have lg : ∀ H, lenD H [.str g] = some (.int ((g.length : Nat) : Int)) := fun H => len_str (by omega)
          by_cases d1 : x = y
          · simp! [ep, eq, enO, en_one, en_two, decide_eq_true d1]
            exact k0 (if_neg fun q => q.1 d1) _ _ _ _ _ _
          · simp! [ep, eq, enO, en_one, en_two, decide_eq_false d1]
            refine figures_wp (by omega) og.1 ?_
            cases d2 : isN g with
            | false =>
              simp! [ep, eq]
              exact k0 (if_neg fun q => by rw [d2] at q; cases q.2.1) _ _ _ _ _ _
            | true =>
              by_cases d3 : g.length < 14
              · obtain ⟨m, rfl⟩ := isN_nS d2
                have it := intT_nS (n := m) (k := 14) (by decide) (by omega)
                have pw : ∀ H, powD H (.int 10) (.int 12) = some (.int ((10 ^ 12 : Nat) : Int)) := fun H => by
                  rw [pow_p (by decide) (by decide) (by decide)]
                  rfl
                have mu : ∀ H, mulD H (.int (m : Int)) (.int (if pos then 1 else -1)) = some (.int ((m : Int) * (if pos then 1 else -1))) := fun H => mul_r (by cases pos <;> decide)
                have ev : NumText.digitsVal (TL.tl (nS m)) = m := by rw [tl_nS, TL.numL_val]
                by_cases d4 : m ≤ 10 ^ 12
                · by_cases d5 : 0 < m
                  · simp! [ep, eq, lg, decide_eq_true (show ((nS m).length : Int) < 14 by omega), it, pw, decide_eq_true (show (m : Int) ≤ ((10 ^ 12 : Nat) : Int) by omega), decide_eq_true (show (0 : Int) < (m : Int) by omega), at_0, mu]
                    exact k1 (x, y, (m : Int) * (if pos then 1 else -1)) _ (by
                      show (if _ then _ else _) = _
                      rw [ev]
                      exact if_pos ⟨d1, d2, d3, d4, .inl d5⟩)
                  · by_cases hp : pos = true
                    · simp! [ep, eq, lg, decide_eq_true (show ((nS m).length : Int) < 14 by omega), it, pw, decide_eq_true (show (m : Int) ≤ ((10 ^ 12 : Nat) : Int) by omega), decide_eq_false (show ¬ (0 : Int) < (m : Int) by omega), decide_eq_true (show (0 : Int) < (if pos = true then 1 else -1) by rw [if_pos hp]; decide), at_0, mu]
                      exact k1 (x, y, (m : Int) * (if pos then 1 else -1)) _ (by
                        show (if _ then _ else _) = _
                        rw [ev]
                        exact if_pos ⟨d1, d2, d3, d4, .inr hp⟩)
                    · simp! [ep, eq, lg, decide_eq_true (show ((nS m).length : Int) < 14 by omega), it, pw, decide_eq_true (show (m : Int) ≤ ((10 ^ 12 : Nat) : Int) by omega), decide_eq_false (show ¬ (0 : Int) < (m : Int) by omega), decide_eq_false (show ¬ (0 : Int) < (if pos = true then 1 else -1) by rw [if_neg hp]; decide)]
                      exact k0 (if_neg fun q => by
                        rw [ev] at q
                        rcases q.2.2.2.2 with z | z
                        · exact d5 z
                        · exact hp z) _ _ _ _ _ _
                · simp! [ep, eq, lg, decide_eq_true (show ((nS m).length : Int) < 14 by omega), it, pw, decide_eq_false (show ¬ (m : Int) ≤ ((10 ^ 12 : Nat) : Int) by omega)]
                  exact k0 (if_neg fun q => by rw [ev] at q; exact d4 q.2.2.2.1) _ _ _ _ _ _
              · simp! [ep, eq, lg, decide_eq_false (show ¬ (g.length : Int) < 14 by omega)]
                exact k0 (if_neg fun q => d3 q.2.2.1) _ _ _ _ _ _
    · have er : (match qs with | [l, g] => lrG (lrE n a) (lrE n l) g pos | _ => none) = none := by
        match qs, c2 with
        | [], _ => rfl
        | [_], _ => rfl
        | [l, g], c2 => exact absurd rfl c2
        | _ :: _ :: _ :: _, _ => rfl
      simp! [lb_law_read_fact_0, ↓y_split, onS_str, s0, ep, List.map, l2, eqX_int', at_1, swl, eq, lq, decide_eq_false (show ¬ ((qs.length : Nat) : Int) = 2 by omega)]
      exact k0 er _ _ _ _ _ _
  · have er : (match ps with | [a, b] => (match Txt.split b (sgW pos) with | [l, g] => lrG (lrE n a) (lrE n l) g pos | _ => none) | _ => none) = none := by
      match ps, c1 with
      | [], _ => rfl
      | [_], _ => rfl
      | [l, g], c1 => exact absurd rfl c1
      | _ :: _ :: _ :: _, _ => rfl
    simp! [lb_law_read_fact_0, ↓y_split, onS_str, s0, ep, ln, eqX_int', decide_eq_false (show ¬ ((ps.length : Nat) : Int) = 2 by omega)]
    exact k0 er _ _ _ _ _ _
theorem lawfact_wp {h : Hd} {n : Nat} {w : Str} {Q : D → Sd → Hd → Prop} {E : Ex} (hl : w.length ≤ 50000) (ha : As w) (kk : Q (.lst (fcL (lrF n w))) [] h) : Wq Q E () (m_law_read_fact [.int (n : Int), .str w] h) := by
  have n1 : ∀ H, negD H (.int 1) = some (.int (-1)) := fun _ => rfl
  simp! [st_law_read_fact_0, st_law_read_fact_1, b_law_read_fact, m_law_read_fact]
  refine Wq.loop (fun i s h' => (∃ s2 s3 s4 s5 s6 s7 s8 s9, s = [.val (.int (n : Int)), .val (.str w), s2, s3, s4, s5, s6, s7, s8, s9] ∧ (0 < i → lrS n w true = none) ∧ (1 < i → lrS n w false = none)) ∧ h' = h) ⟨⟨_, _, _, _, _, _, _, _, rfl, by simp, by simp⟩, rfl⟩ ?_ ?_
  · rintro i y s h' ey ⟨⟨s2, s3, s4, s5, s6, s7, s8, s9, rfl, g1, g2⟩, rfl⟩
    have hi : i < 2 := (List.getElem?_eq_some_iff.mp ey).1
    have c2 : i = 0 ∨ i = 1 := by omega
    rcases c2 with rfl | rfl
    · obtain rfl := (Option.some.inj ey).symm
      simp!
      refine lawsign_wp (pos := true) hl ha (fun e s4 s5 s6 s7 s8 s9 => ?_) (fun f s e => ?_)
      · exact ⟨⟨_, _, _, _, _, _, _, _, rfl, fun _ => e, by simp⟩, rfl⟩
      · have er : lrF n w = some f := by unfold lrF; rw [e]
        rw [er] at kk
        exact kk
    · obtain rfl := (Option.some.inj ey).symm
      have e1 := g1 (by decide)
      simp!
      refine lawsign_wp (pos := false) hl ha (fun e s4 s5 s6 s7 s8 s9 => ?_) (fun f s e => ?_)
      · exact ⟨⟨_, _, _, _, _, _, _, _, rfl, fun _ => e1, fun _ => e⟩, rfl⟩
      · have er : lrF n w = some f := by unfold lrF; rw [e1]; exact e
        rw [er] at kk
        exact kk
  · rintro s h' ⟨⟨s2, s3, s4, s5, s6, s7, s8, s9, rfl, g1, g2⟩, rfl⟩
    have er : lrF n w = none := by unfold lrF; rw [g1 (by simp)]; exact g2 (by simp)
    rw [er] at kk
    simp!
    exact kk
theorem y_rg2 {E : Ex} {s : Sd} {h : Hd} {ms : M (List D)} {QL : List D → Sd → Hd → Prop} : Wq QL E () (mRg2 ms s h) = Wq (fun xs s h => i2Q (fun i j => (small i && small j) = true ∧ QL (rg i (j - i).toNat) s h) () xs) E () (ms s h) := sk fun xs _ _ => by
  rcases xs with _ | ⟨a, _ | ⟨b, _ | ⟨c, r⟩⟩⟩
  · rfl
  · cases a <;> rfl
  · cases a <;> cases b <;> first | exact y_ite | rfl
  · cases a <;> cases b <;> rfl
def headL : List Str := [1, 2, 3, 4, 5, 6, 7, 8].map fun n : Nat => Str.ofString "jobs " ++ nS n
def headF : D → D
  | .int i => .str (Str.ofString "jobs " ++ nS i.toNat)
  | _ => .non
theorem jobs_split (n : Nat) : Txt.split (Str.ofString "jobs " ++ nS n) (sg 32) = [Str.ofString "jobs", nS n] := by
  have e : Str.ofString "jobs " ++ nS n = Str.join (sg 32) [Str.ofString "jobs", nS n] := by
    have e1 : Str.ofString "jobs " = Str.ofString "jobs" ++ sg 32 := by decide +kernel
    rw [e1]
    rfl
  rw [e]
  refine split_of (by decide) (by simp) fun p hp => ?_
  simp only [List.mem_cons, List.not_mem_nil, or_false] at hp
  rcases hp with rfl | rfl
  · have : TL.tl (Str.ofString "jobs") = [106, 111, 98, 115] := by decide +kernel
    rw [this]; decide
  · exact nS_free (.inl (by decide))
theorem rdJ_of {n : Nat} (h1 : 1 ≤ n) (h8 : n ≤ 8) : rdJ (Txt.split (Str.ofString "jobs " ++ nS n) (sg 32)) = some n := by
  rw [jobs_split]
  show (if Str.ofString "jobs" = "jobs" then (match numN 61 (nS n) with | some k => if 1 ≤ k ∧ k ≤ 8 then some k else none | none => none) else none) = _
  rw [if_pos rfl, numN_nS (Nat.le_trans (nS_len (k := 1) (by decide) (by omega)) (by decide))]
  exact if_pos ⟨h1, h8⟩
theorem rdJ_eq {w : Str} {n : Nat} (h : rdJ (Txt.split w (sg 32)) = some n) : w = Str.ofString "jobs " ++ nS n := by
  obtain ⟨_, _, e⟩ := rdJ_some h
  obtain ⟨ps, e2, _, _, hj⟩ := split_facts (x := w) (k := 32) (by decide)
  rw [e] at e2
  rw [← hj, ← e2]
  have e1 : Str.ofString "jobs " = Str.ofString "jobs" ++ sg 32 := by decide +kernel
  rw [e1]
  rfl
theorem head_mem {w : Str} : w ∈ headL ↔ ∃ n, rdJ (Txt.split w (sg 32)) = some n := by
  constructor
  · intro h
    obtain ⟨n, hn, rfl⟩ := List.mem_map.mp h
    have : 1 ≤ n ∧ n ≤ 8 := by
      simp only [List.mem_cons, List.not_mem_nil, or_false] at hn
      omega
    exact ⟨n, rdJ_of this.1 this.2⟩
  · rintro ⟨n, h⟩
    obtain ⟨h1, h8, _⟩ := rdJ_some h
    rw [rdJ_eq h]
    refine List.mem_map.mpr ⟨n, ?_, rfl⟩
    simp only [List.mem_cons, List.not_mem_nil, or_false]
    omega
theorem head_as : ∀ z ∈ headL, As z := fun z hz => by
  obtain ⟨n, _, rfl⟩ := List.mem_map.mp hz
  exact (as_lit (by decide +kernel)).app (as_nS n)
theorem head_ix {n : Nat} (h1 : 1 ≤ n) (h8 : n ≤ 8) : sixD (headL.map .str) (.str (Str.ofString "jobs " ++ nS n)) = some (.int ((n - 1 : Nat) : Int)) := by
  rw [sixD_mem (head_mem.mpr ⟨n, rdJ_of h1 h8⟩)]
  have key : ∀ m ∈ [1, 2, 3, 4, 5, 6, 7, 8], headL.idxOf (Str.ofString "jobs " ++ nS m) = m - 1 := by decide +kernel
  rw [key n (by simp only [List.mem_cons, List.not_mem_nil, or_false]; omega)]
theorem fcL_one {h : Hd} {f : Fc} : eqX h (.lst [fcD f]) (.lst []) = some (.bl false) := by
  obtain ⟨x, y, c⟩ := f
  cases x <;> cases y <;> simp [eqX, eqB2, eqB, fcD, en, D.py, D.pyL, SeqAt.shaped, PyData.canLay0, PyData.canLayAll0, PyData.depth, PyData.depthAll, PyData.eqv, PyData.eqvAll]
theorem lawread_wp {h : Hd} {x : Str} {ls : List Str} {r : Str} {Q : D → Sd → Hd → Prop} {E : Ex} (hl : x.length ≤ 50000) (ha : As x) (e : Txt.split x (sg 10) = ls ++ [r])
    (kk : Q (toldB (endT ls r)) [] h) : Wq Q E () (m_law_read_book [.str x] h) := by
  obtain ⟨ps, e2, hp, hf, hj⟩ := split_facts (x := x) (k := 10) (by decide)
  rw [e] at e2
  subst e2
  have pl := piece_le hp hj
  have pa := ha.piece hj
  have hll : ls.length ≤ 50000 := by have := pl.1; rw [List.length_append, List.length_singleton] at this; omega
  have s0 : (0 < (Str.ofString "\n").length ∧ x.length ≤ 100000) := ⟨by decide, by omega⟩
  have ex : (Txt.split x (Str.ofString "\n")).map D.str = ls.map D.str ++ [.str r] := by rw [nl_ofs, e, List.map_append]; rfl
  have s1 : ∀ H, slD H (.lst (ls.map D.str ++ [.str r])) none (some (-1)) = some (.lst (ls.map .str)) := fun _ => sl_last
  have s2 : atI (ls.map D.str ++ [.str r]) (-1) = some (.str r) := at_lastT
  have lp : ∀ H, lenD H [.lst (ls.map D.str ++ [.str r])] = some (.int ((ls.length + 1 : Nat) : Int)) := fun _ => by
    show some (D.int ((ls.map D.str ++ [D.str r]).length : Nat)) = _
    rw [List.length_append, List.length_map, List.length_singleton]
  have rgl : (rg 1 8).length < 100000 := by rw [rg_len]; decide
  have rg8 : ∀ (i : Nat) x, (rg 1 8)[i]? = some x → i < 8 ∧ x = .int ((i + 1 : Nat) : Int) := fun i x ex => by
    have hi : i < 8 := by
      have := (List.getElem?_eq_some_iff.mp ex).1
      rwa [rg_len] at this
    unfold rg at ex
    rw [List.getElem?_map, List.getElem?_range hi] at ex
    refine ⟨hi, ?_⟩
    have e1 : (1 : Int) + (i : Int) = ((i + 1 : Nat) : Int) := by omega
    rw [← e1]
    exact (Option.some.inj ex).symm
  have em : ((rg 1 8).filter fun _ => true).map headF = headL.map D.str := rfl
  have r0 : (rg 1 ((9 : Int) - 1).toNat) = rg 1 8 := rfl
  simp! [st_law_read_book_0, st_law_read_book_1, st_law_read_book_2, st_law_read_book_3, st_law_read_book_4, b_law_read_book, m_law_read_book, ↓y_split, onS_str, s0, ex, ↓y_rg2, show (small 1 && small 9) = true by decide]
  rw [r0]
  generalize rg 1 8 = rgs at *
  refine Wq.cfm (fun _ => true) headF rgl ?_ ?_
  · intro i x ex
    obtain ⟨hn, rfl⟩ := rg8 i x ex
    have sn : ∀ H, strD H [.int ((i + 1 : Nat) : Int)] = some (.str (nS (i + 1))) := fun H => str_nat (by omega)
    have nl := nS_len (n := i + 1) (k := 1) (by decide) (by omega)
    have l1 : (Str.ofString "jobs ").length = 5 := by decide +kernel
    have a1 : ∀ H, addD H (.str "jobs ") (.str (nS (i + 1))) = some (.str (Str.ofString "jobs " ++ nS (i + 1))) := fun H => add_str (by omega)
    simp! [ce_law_read_book_0, sn, a1]
    rfl
  · rw [em]
    simp! [s1]
    refine Wq.loop (fun i s h' => (∃ fs s4 s5 s6, s = [.val (.str x), .val (.lst (ls.map D.str ++ [.str r])), .own (fs.map fcD), .val (.lst (headL.map .str)), s4, s5, s6, .no] ∧ fs.length ≤ i ∧ ((i = 0 ∧ fs = []) ∨ (0 < i ∧ ∃ n : Nat, hdJ ls = some n ∧ goF n 1 [] (ls.drop 1) = goF n i fs (ls.drop i)))) ∧ h' = h) ⟨⟨[], _, _, _, rfl, Nat.le_refl _, .inl ⟨rfl, rfl⟩⟩, rfl⟩ ?_ ?_
    · rintro i y s h' ey ⟨⟨fs, s4, s5, s6, rfl, hfs, inv⟩, rfl⟩
      obtain ⟨d, ed, rfl⟩ := enumD_get 0 _ i y ey
      rw [Nat.zero_add]
      have hi : i < ls.length := by
        have := (List.getElem?_eq_some_iff.mp ed).1
        rwa [List.length_map] at this
      have ed2 : d = .str ls[i] := by
        rw [List.getElem?_map, List.getElem?_eq_getElem hi] at ed
        exact (Option.some.inj ed).symm
      subst ed2
      have hm : ls[i] ∈ ls ++ [r] := List.mem_append_left _ (List.getElem_mem hi)
      have wl : ls[i].length ≤ 50000 := by have := pl.2 _ hm; omega
      have wa := pa _ hm
      have nin : ∀ H, ninX H (.str ls[i]) (.lst (headL.map .str)) = some (.bl (!decide (ls[i] ∈ headL))) := fun H => ninL_strs wa head_as
      rcases inv with ⟨i0, rfl⟩ | ⟨ip, n, ej, eg⟩
      · subst i0
        have eh : hdJ ls = rdJ (Txt.split ls[0] (sg 32)) := by
          cases ls with
          | nil => simp at hi
          | cons w ls => rfl
        cases q : hdJ ls with
        | none =>
          rw [endT_n q] at kk
          have nm : ¬ ls[0] ∈ headL := fun z => by
            obtain ⟨n, e⟩ := head_mem.mp z
            rw [eh, e] at q
            cases q
          simp! [lb_law_read_book_0, eqX_int', nin, decide_eq_false nm]
          exact kk
        | some n =>
          have nm : ls[0] ∈ headL := head_mem.mpr ⟨n, by rw [← eh, q]⟩
          simp! [lb_law_read_book_0, eqX_int', nin, decide_eq_true nm]
          exact ⟨[], _, _, _, rfl, by simp, .inr ⟨by omega, n, rfl, rfl⟩⟩
      · have hn := hdJ_le ej
        rw [List.drop_eq_getElem_cons hi, goF_cons] at eg
        have i0 : decide ((i : Int) = 0) = false := decide_eq_false (by omega)
        have a0 : atI (ls.map D.str ++ [.str r]) 0 = some (.str (Str.ofString "jobs " ++ nS n)) := by
          cases ls with
          | nil => simp at hi
          | cons w ls => rw [← rdJ_eq (w := w) ej]; exact at_0
        have ix := head_ix hn.1 hn.2
        have e1 : (((n - 1 : Nat) : Int) + 1) = (n : Int) := by omega
        simp! [lb_law_read_book_0, eqX_int', i0, decide_eq_true (show (0 : Int) < (i : Int) by omega), ↓y_tixL, a0, ix]
        rw [e1]
        refine lawfact_wp wl wa ?_
        cases q : lrF n ls[i] with
        | none =>
          rw [q] at eg
          rw [endT_s ej, eg] at kk
          have e0 : ∀ H, eqX H (.lst []) (.lst []) = some (.bl true) := fun _ => rfl
          simp! [fcL, e0]
          exact kk
        | some f =>
          rw [q] at eg
          have eg2 : goF n 1 [] (ls.drop 1) = if 40 < i then .inl i else goF n (i + 1) (fs ++ [f]) (ls.drop (i + 1)) := eg
          by_cases h40 : 40 < i
          · rw [if_pos h40] at eg2
            rw [endT_s ej, eg2] at kk
            simp! [fcL, fcL_one, decide_eq_true (show (40 : Int) < (i : Int) by omega)]
            exact kk
          · rw [if_neg h40] at eg2
            simp! [fcL, fcL_one, decide_eq_false (show ¬ (40 : Int) < (i : Int) by omega)]
            have em : fs.map fcD ++ [fcD f] = (fs ++ [f]).map fcD := by rw [List.map_append]; rfl
            rw [em]
            exact ⟨by simp; omega, fs ++ [f], _, _, _, rfl, by simp; omega, .inr ⟨by omega, n, ej, eg2⟩⟩
    · rintro s h' ⟨⟨fs, s4, s5, s6, rfl, hfs, inv⟩, rfl⟩
      rw [enumD_len, List.length_map] at inv
      rcases inv with ⟨i0, rfl⟩ | ⟨ip, n, ej, eg⟩
      · have h0 : ls = [] := List.length_eq_zero_iff.mp i0
        subst h0
        have kk2 : Q (.tup [.str "line", .int 0]) [] h' := kk
        simp! [lp, eqX_int']
        exact kk2
      · have hn := hdJ_le ej
        rw [List.drop_length, goF_nil] at eg
        rw [endT_s ej, eg] at kk
        have kk : Q (toldB (if r = "" then .inr (n, fs) else .inl ls.length)) [] h' := kk
        by_cases hr : r = ""
        · rw [if_pos hr] at kk
          have a0 : atI (ls.map D.str ++ [.str r]) 0 = some (.str (Str.ofString "jobs " ++ nS n)) := by
            cases ls with
            | nil => simp at ip
            | cons w ls => rw [← rdJ_eq (w := w) ej]; exact at_0
          have ix := head_ix hn.1 hn.2
          have e1 : (((n - 1 : Nat) : Int) + 1) = (n : Int) := by omega
          simp! [lp, eqX_int', decide_eq_false (show ¬ ((ls.length + 1 : Nat) : Int) = 1 by omega), s2, neX_str', decide_eq_true hr, ↓y_tixL, a0, ix, show (2 : Nat) ≤ 100000 by decide]
          rw [e1]
          exact kk
        · rw [if_neg hr] at kk
          simp! [lp, eqX_int', decide_eq_false (show ¬ ((ls.length + 1 : Nat) : Int) = 1 by omega), s2, neX_str', decide_eq_false hr]
          have e2 : ((ls.length + 1 : Nat) : Int) - 1 = (ls.length : Int) := by omega
          rw [e2]
          exact kk
theorem abs_n {h : Hd} {a : Int} : absD h [.int a] = some (.int ((a.natAbs : Nat) : Int)) := by
  simp only [absD]
  congr 2
  split <;> omega
theorem nmS_at (t : Nat) : atI [D.str (Str.ofString "first"), .str (Str.ofString "rest"), .str (Str.ofString "second")] ((t % 3 : Nat) : Int) = some (.str (nmS (t % 3))) := by
  have : t % 3 = 0 ∨ t % 3 = 1 ∨ t % 3 = 2 := by omega
  rcases this with e | e | e <;> rw [e] <;> exact atI_in (by decide) rfl
theorem nmW_at (t : Nat) : atI [D.str (Str.ofString "first "), .str (Str.ofString "rest "), .str (Str.ofString "second ")] ((t % 3 : Nat) : Int) = some (.str (nmW (t % 3))) := by
  have f0 : nmW 0 = Str.ofString "first " := by decide +kernel
  have f1 : nmW 1 = Str.ofString "rest " := by decide +kernel
  have f2 : nmW 2 = Str.ofString "second " := by decide +kernel
  have : t % 3 = 0 ∨ t % 3 = 1 ∨ t % 3 = 2 := by omega
  rcases this with e | e | e <;> rw [e]
  · rw [f0]; exact atI_in (by decide) rfl
  · rw [f1]; exact atI_in (by decide) rfl
  · rw [f2]; exact atI_in (by decide) rfl
theorem fend_wp {h : Hd} {n : Nat} {x : Option Nat} {Q : D → Sd → Hd → Prop} {E : Ex} (hn : n ≤ 8) (hx : okE n x) (kk : Q (.str (endW x)) [] h) : Wq Q E () (m_format_end [en x] h) := by
  cases x with
  | none =>
    simp! [st_format_end_0, b_format_end, m_format_end, en, isn_n]
    exact kk
  | some t =>
    have ht : t < 3 * n := hx
    have ii : ∀ H, isND H (.int (t : Int)) .non = some (.bl false) := fun _ => rfl
    have m3 : ∀ H, modD H (.int (t : Int)) (.int 3) = some (.int ((t % 3 : Nat) : Int)) := fun H => by rw [mod_p (by decide)]; congr 2
    have d3 : ∀ H, fdvD H (.int (t : Int)) (.int 3) = some (.int ((t / 3 : Nat) : Int)) := fun H => by rw [fdv_p (by decide) (bnd_of (by decide) (by decide))]; congr 2
    have sn : ∀ H, strD H [.int ((t / 3 : Nat) : Int)] = some (.str (nS (t / 3))) := fun H => str_nat (by omega)
    have nl := nS_len (n := t / 3) (k := 1) (by decide) (by omega)
    have wl := nmW_len (t % 3)
    have e1 : nmS (t % 3) ++ Str.ofString " " = nmW (t % 3) := by rw [sp_ofs]; rfl
    have sl : (nmS (t % 3)).length + (Str.ofString " ").length ≤ 100000 := by rw [← len_app, e1]; omega
    have a1 : ∀ H, addD H (.str (nmS (t % 3))) (.str " ") = some (.str (nmW (t % 3))) := fun H => by rw [← e1]; exact add_str sl
    have a2 : ∀ H, addD H (.str (nmW (t % 3))) (.str (nS (t / 3))) = some (.str (endW (some t))) := fun H => add_str (by omega)
    simp! [st_format_end_0, b_format_end, m_format_end, en, ii, m3, nmS_at, a1, d3, sn, a2]
    exact kk
theorem lend_wp {h : Hd} {n : Nat} {x : Option Nat} {Q : D → Sd → Hd → Prop} {E : Ex} (hn : n ≤ 8) (hx : okE n x) (kk : Q (.str (endW x)) [] h) : Wq Q E () (m_law_end_text [en x] h) := by
  cases x with
  | none =>
    simp! [st_law_end_text_0, b_law_end_text, m_law_end_text, en, isn_n]
    exact kk
  | some t =>
    have ht : t < 3 * n := hx
    have ii : ∀ H, isND H (.int (t : Int)) .non = some (.bl false) := fun _ => rfl
    have m3 : ∀ H, modD H (.int (t : Int)) (.int 3) = some (.int ((t % 3 : Nat) : Int)) := fun H => by rw [mod_p (by decide)]; congr 2
    have d3 : ∀ H, fdvD H (.int (t : Int)) (.int 3) = some (.int ((t / 3 : Nat) : Int)) := fun H => by rw [fdv_p (by decide) (bnd_of (by decide) (by decide))]; congr 2
    have sn : ∀ H, strD H [.int ((t / 3 : Nat) : Int)] = some (.str (nS (t / 3))) := fun H => str_nat (by omega)
    have nl := nS_len (n := t / 3) (k := 1) (by decide) (by omega)
    have wl := nmW_len (t % 3)
    have a2 : ∀ H, addD H (.str (nmW (t % 3))) (.str (nS (t / 3))) = some (.str (endW (some t))) := fun H => add_str (by omega)
    simp! [st_law_end_text_0, b_law_end_text, m_law_end_text, en, ii, m3, nmW_at, d3, sn, a2]
    exact kk
theorem endW_len {n : Nat} {x : Option Nat} (hn : n ≤ 8) (hx : okE n x) : (endW x).length ≤ 8 := by
  cases x with
  | none =>
    have : (Str.ofString "ground").length = 6 := by decide +kernel
    rw [endW_none, this]
    decide
  | some t =>
    have ht : t < 3 * n := hx
    have nl := nS_len (n := t / 3) (k := 1) (by decide) (by omega)
    have wl := nmW_len (t % 3)
    rw [endW_some, len_app]
    omega
def sgP (c : Int) : Str := if 0 ≤ c then Str.ofString " + " else Str.ofString " - "
theorem sgP_len (c : Int) : (sgP c).length = 3 := by
  have l1 : (Str.ofString " + ").length = 3 := by decide +kernel
  have l2 : (Str.ofString " - ").length = 3 := by decide +kernel
  unfold sgP
  split
  · exact l1
  · exact l2
theorem facS_lens {n : Nat} {f : Fc} (hn : n ≤ 8) (h : okF n f) : (endW f.1).length ≤ 8 ∧ (endW f.2.1).length ≤ 8 ∧ (nS f.2.2.natAbs).length ≤ 13 ∧ (Str.ofString " <= ").length = 4 ∧ (facS f).length ≤ 36 := by
  have l1 := endW_len hn h.1
  have l2 := endW_len hn h.2.1
  have l3 := (okF_len hn h).2.2
  have l4 : (Str.ofString " <= ").length = 4 := by decide +kernel
  have l5 := sgP_len f.2.2
  refine ⟨l1, l2, l3, l4, ?_⟩
  have e : facS f = endW f.1 ++ Str.ofString " <= " ++ (endW f.2.1 ++ sgP f.2.2 ++ nS f.2.2.natAbs) := facS_eq f
  rw [e, len_app, len_app, len_app, len_app]
  omega
theorem ffact_wp {h : Hd} {n : Nat} {f : Fc} {Q : D → Sd → Hd → Prop} {E : Ex} (hn : n ≤ 8) (hf : okF n f) (kk : Q (.str (facS f)) [] h) : Wq Q E () (m_format_fact [fcD f] h) := by
  obtain ⟨l1, l2, l3, l4, l6⟩ := facS_lens hn hf
  have l5 := sgP_len f.2.2
  have e : facS f = endW f.1 ++ Str.ofString " <= " ++ (endW f.2.1 ++ sgP f.2.2 ++ nS f.2.2.natAbs) := facS_eq f
  have e2 : endW f.1 ++ Str.ofString " <= " ++ endW f.2.1 ++ sgP f.2.2 ++ nS f.2.2.natAbs = facS f := by rw [e]; simp only [str_assoc]
  obtain ⟨x, y, c⟩ := f
  obtain ⟨h1, h2, h3, h4, h5⟩ := hf
  have h4 : -(10 ^ 12) ≤ c := h4
  have h5 : c ≤ 10 ^ 12 := h5
  have l1 : (endW x).length ≤ 8 := l1
  have l2 : (endW y).length ≤ 8 := l2
  have l3 : (nS c.natAbs).length ≤ 13 := l3
  have l5 : (sgP c).length = 3 := l5
  have k1 : (endW x ++ Str.ofString " <= ").length ≤ 12 := by rw [len_app]; omega
  have k2 : (endW x ++ Str.ofString " <= " ++ endW y).length ≤ 20 := by rw [len_app]; omega
  have k3 : (endW x ++ Str.ofString " <= " ++ endW y ++ sgP c).length ≤ 23 := by rw [len_app]; omega
  have a1 : ∀ H, addD H (.str (endW x)) (.str " <= ") = some (.str (endW x ++ Str.ofString " <= ")) := fun H => add_str (by omega)
  have a2 : ∀ H, addD H (.str (endW x ++ Str.ofString " <= ")) (.str (endW y)) = some (.str (endW x ++ Str.ofString " <= " ++ endW y)) := fun H => add_str (by omega)
  have a3 : ∀ H, addD H (.str (endW x ++ Str.ofString " <= " ++ endW y)) (.str (sgP c)) = some (.str (endW x ++ Str.ofString " <= " ++ endW y ++ sgP c)) := fun H => add_str (by omega)
  have a4 : ∀ H, addD H (.str (endW x ++ Str.ofString " <= " ++ endW y ++ sgP c)) (.str (nS c.natAbs)) = some (.str (facS (x, y, c))) := fun H => by
    rw [← e2]
    exact add_str (by omega)
  have sn : ∀ H, strD H [.int ((c.natAbs : Nat) : Int)] = some (.str (nS c.natAbs)) := fun H => str_nat (by omega)
  simp! [st_format_fact_0, st_format_fact_1, b_format_fact, m_format_fact, fcD]
  refine fend_wp hn h1 ?_
  simp! [a1]
  refine fend_wp hn h2 ?_
  simp! [a2]
  by_cases h0 : 0 ≤ c
  · have es : Str.ofString " + " = sgP c := (if_pos h0).symm
    simp! [decide_eq_true (show (0 : Int) ≤ c from h0)]
    rw [es]
    simp! [a3, abs_n, sn, a4]
    exact kk
  · have es : Str.ofString " - " = sgP c := (if_neg h0).symm
    simp! [decide_eq_false (show ¬ (0 : Int) ≤ c from h0)]
    rw [es]
    simp! [a3, abs_n, sn, a4]
    exact kk
def bookL (n : Nat) (fs : List Fc) : List Str := (Str.ofString "jobs " ++ nS n) :: fs.map facS
def bookS (n : Nat) (fs : List Fc) : Str := cat ((bookL n fs).map fun l => l ++ sg 10)
def unen : D → Option Nat
  | .int i => some i.toNat
  | _ => none
def facD : D → D
  | .tup [x, y, .int c] => .str (facS (unen x, unen y, c))
  | _ => .non
def lineD : D → D
  | .str x => .str (x ++ sg 10)
  | _ => .non
theorem facD_fc (f : Fc) : facD (fcD f) = .str (facS f) := by
  obtain ⟨x, y, c⟩ := f
  cases x <;> cases y <;> rfl
theorem jobs_len {n : Nat} (hn : n ≤ 8) : (Str.ofString "jobs " ++ nS n).length ≤ 6 := by
  have l1 : (Str.ofString "jobs ").length = 5 := by decide +kernel
  have nl := nS_len (n := n) (k := 1) (by decide) (by omega)
  rw [len_app]
  omega
theorem bookL_len {n : Nat} {fs : List Fc} (hn : n ≤ 8) (ok : ∀ f ∈ fs, okF n f) : ∀ l ∈ bookL n fs, l.length ≤ 36 := fun l hl => by
  rcases List.mem_cons.mp hl with rfl | h
  · have := jobs_len hn
    omega
  · obtain ⟨f, hf, rfl⟩ := List.mem_map.mp h
    exact (facS_lens hn (ok f hf)).2.2.2.2
theorem bookL_as {n : Nat} {fs : List Fc} : ∀ l ∈ bookL n fs, As l := fun l hl => by
  rcases List.mem_cons.mp hl with rfl | h
  · exact (as_lit (by decide +kernel)).app (as_nS n)
  · obtain ⟨f, hf, rfl⟩ := List.mem_map.mp h
    exact facS_as f
theorem facS_free (f : Fc) : 10 ∉ TL.tl (facS f) := fun hm => by
  have e : facS f = endW f.1 ++ Str.ofString " <= " ++ (endW f.2.1 ++ sgP f.2.2 ++ nS f.2.2.natAbs) := facS_eq f
  rw [e] at hm
  simp only [TL.tl_append, List.mem_append] at hm
  rcases hm with (h | h) | ((h | h) | h)
  · exact endW_free (.inl (by decide)) (by decide) (by decide) h
  · rw [tl_sp_le] at h; exact absurd h (by decide)
  · exact endW_free (.inl (by decide)) (by decide) (by decide) h
  · unfold sgP at h
    split at h
    · rw [tl_sp_plus] at h; exact absurd h (by decide)
    · rw [tl_sp_minus] at h; exact absurd h (by decide)
  · exact nS_free (.inl (by decide)) h
theorem bookL_free {n : Nat} {fs : List Fc} : ∀ l ∈ bookL n fs, 10 ∉ TL.tl l := fun l hl => by
  rcases List.mem_cons.mp hl with rfl | h
  · intro hm
    have : TL.tl (Str.ofString "jobs ") = [106, 111, 98, 115, 32] := by decide +kernel
    rw [TL.tl_append, this] at hm
    rcases List.mem_append.mp hm with z | z
    · exact absurd z (by decide)
    · exact nS_free (.inl (by decide)) z
  · obtain ⟨f, hf, rfl⟩ := List.mem_map.mp h
    exact facS_free f
theorem goF_all {n : Nat} (hn : n ≤ 8) : ∀ (gs : List Fc) (i : Nat) (acc : List Fc), (∀ f ∈ gs, okF n f) → i + gs.length ≤ 41 → goF n i acc (gs.map facS) = .inr (acc ++ gs)
  | [], i, acc, _, _ => by rw [List.append_nil]; rfl
  | f :: gs, i, acc, ok, hl => by
    rw [List.length_cons] at hl
    rw [List.map_cons, goF_cons, lrF_fac hn (ok f List.mem_cons_self)]
    show (if 40 < i then Sum.inl i else goF n (i + 1) (acc ++ [f]) (gs.map facS)) = _
    rw [if_neg (by omega), goF_all hn gs (i + 1) _ (fun g hg => ok g (List.mem_cons_of_mem _ hg)) (by omega)]
    simp
theorem book_facts {n : Nat} {fs : List Fc} (h1 : 1 ≤ n) (hn : n ≤ 8) (ok : ∀ f ∈ fs, okF n f) (hl : fs.length ≤ 40) :
    Txt.split (bookS n fs) (sg 10) = bookL n fs ++ [Str.ofString ""] ∧ As (bookS n fs) ∧ (bookS n fs).length ≤ 1600 ∧ endT (bookL n fs) (Str.ofString "") = .inr (n, fs) := by
  refine ⟨?_, ?_, ?_, ?_⟩
  · unfold bookS
    rw [cat_join]
    refine split_of (by decide) (by simp) fun p hp => ?_
    rcases List.mem_append.mp hp with z | z
    · exact bookL_free p z
    · rw [List.mem_singleton.mp z]
      have : TL.tl (Str.ofString "") = [] := by decide +kernel
      rw [this]
      simp
  · unfold bookS
    rw [cat_join]
    refine As.join (as_sg (by decide)) fun p hp => ?_
    rcases List.mem_append.mp hp with z | z
    · exact bookL_as p z
    · rw [List.mem_singleton.mp z]
      exact as_lit (by decide +kernel)
  · have h := lawcat_len ((bookL n fs).map fun l => l ++ sg 10) 37 fun l hm => by
      obtain ⟨m, hm2, rfl⟩ := List.mem_map.mp hm
      have := bookL_len hn ok m hm2
      rw [len_app]
      have e1 : (sg 10).length = 1 := rfl
      omega
    have : (bookL n fs).length = fs.length + 1 := by unfold bookL; simp
    rw [List.length_map, this] at h
    unfold bookS
    omega
  · have ej : hdJ (bookL n fs) = some n := rdJ_of h1 hn
    rw [endT_s ej]
    show endU n _ _ (goF n 1 [] (fs.map facS)) = _
    rw [goF_all hn fs 1 [] ok (by omega), List.nil_append]
    show (if Str.ofString "" = "" then Sum.inr (n, fs) else Sum.inl (bookL n fs).length) = _
    exact if_pos rfl
theorem format_wp {h : Hd} {n : Nat} {fs : List Fc} {Q : D → Sd → Hd → Prop} {E : Ex} (hn : n ≤ 8) (ok : ∀ f ∈ fs, okF n f) (hl : fs.length ≤ 40) (kk : Q (.str (bookS n fs)) [] h) : Wq Q E () (m_format_book [bkD n fs] h) := by
  have sn : ∀ H, strD H [.int (n : Int)] = some (.str (nS n)) := fun H => str_nat (by omega)
  have jl := jobs_len hn
  have a1 : ∀ H, addD H (.str "jobs ") (.str (nS n)) = some (.str (Str.ofString "jobs " ++ nS n)) := fun H => add_str (by rw [← len_app]; omega)
  simp! [st_format_book_0, st_format_book_1, b_format_book, m_format_book, bkD, ↓y_join, onS_str, sn, a1]
  refine Wq.cfm (fun _ => true) facD (by rw [List.length_map]; omega) ?_ ?_
  · intro i x ex
    rw [List.getElem?_map] at ex
    cases q : fs[i]? with
    | none => rw [q] at ex; cases ex
    | some f =>
      rw [q] at ex
      obtain rfl := Option.some.inj ex
      simp! [ce_format_book_0]
      refine ffact_wp hn (ok f (List.mem_of_getElem? q)) ?_
      simp!
      exact (facD_fc f).symm
  · have em : ((fs.map fcD).filter fun _ => true).map facD = (fs.map facS).map D.str := by
      rw [List.filter_eq_self.mpr (fun _ _ => rfl), List.map_map, List.map_map]
      exact List.map_congr_left fun f _ => facD_fc f
    rw [em]
    have e1 : D.str (Str.ofString "jobs " ++ nS n) :: (fs.map facS).map D.str = (bookL n fs).map D.str := rfl
    have bl : (bookL n fs).length = fs.length + 1 := by unfold bookL; simp
    have l1 : (Str.ofString "\n").length = 1 := by decide +kernel
    simp! [show 1 + ((fs.map facS).map D.str).length ≤ 100000 by simp; omega]
    rw [e1]
    refine Wq.cfm (fun _ => true) lineD (by rw [List.length_map]; omega) ?_ ?_
    · intro i x ex
      rw [List.getElem?_map] at ex
      cases q : (bookL n fs)[i]? with
      | none => rw [q] at ex; cases ex
      | some w =>
        rw [q] at ex
        obtain rfl := Option.some.inj ex
        have wl := bookL_len hn ok w (List.mem_of_getElem? q)
        have a1 : ∀ H, addD H (.str w) (.str "\n") = some (.str (w ++ sg 10)) := fun H => by
          rw [nl_ofs] at l1 ⊢
          exact add_str (by omega)
        simp! [ce_format_book_1, a1]
        rfl
    · have em2 : (((bookL n fs).map D.str).filter fun _ => true).map lineD = ((bookL n fs).map fun l => l ++ sg 10).map D.str := by
        rw [List.filter_eq_self.mpr (fun _ _ => rfl), List.map_map, List.map_map]
        exact List.map_congr_left fun f _ => rfl
      have sm : ∀ (l : List Str) (b : Nat), (∀ x ∈ l, x.length ≤ b) → (l.map (·.length)).sum ≤ l.length * b := by
        intro l b
        induction l with
        | nil => intro _; simp
        | cons x l ih =>
          intro h
          have h1 := h x List.mem_cons_self
          have h2 := ih fun y hy => h y (List.mem_cons_of_mem _ hy)
          rw [List.map_cons, List.sum_cons, List.length_cons, Nat.succ_mul]
          omega
      have t := sm ((bookL n fs).map fun l => l ++ sg 10) 37 fun x hx => by
        obtain ⟨l, hm, rfl⟩ := List.mem_map.mp hx
        have := bookL_len hn ok l hm
        rw [len_app]
        have e1 : (sg 10).length = 1 := rfl
        omega
      rw [List.length_map, bl] at t
      have le : (Str.ofString "").length = 0 := by decide +kernel
      have je : ∀ H, joinD (Str.ofString "") H (.lst (((bookL n fs).map fun l => l ++ sg 10).map .str)) = some (.str (bookS n fs)) := fun H => by
        rw [join_lst (by rw [le]; omega), TL.join_eq, join_nil_cat]
        rfl
      rw [em2]
      simp! [je]
      exact kk
theorem lawtext_wp {h : Hd} {n : Nat} {fs : List Fc} {Q : D → Sd → Hd → Prop} {E : Ex} (hn : n ≤ 8) (ok : ∀ f ∈ fs, okF n f) (hl : fs.length ≤ 40) (kk : Q (.str (bookS n fs)) [] h) : Wq Q E () (m_law_book_text [bkD n fs] h) := by
  have sn : ∀ H, strD H [.int (n : Int)] = some (.str (nS n)) := fun H => str_nat (by omega)
  have jl := jobs_len hn
  have a1 : ∀ H, addD H (.str "jobs ") (.str (nS n)) = some (.str (Str.ofString "jobs " ++ nS n)) := fun H => add_str (by rw [← len_app]; omega)
  have l1 : (sg 10).length = 1 := rfl
  have a2 : ∀ H, addD H (.str (Str.ofString "jobs " ++ nS n)) (.str "\n") = some (.str (Str.ofString "jobs " ++ nS n ++ sg 10)) := fun H => by
    rw [nl_ofs]
    exact add_str (by omega)
  have e0 : Str.ofString "jobs " ++ nS n ++ sg 10 = cat (((bookL n fs).take 1).map fun l => l ++ sg 10) := (str_app_nil _).symm
  have bl : (bookL n fs).length = fs.length + 1 := by unfold bookL; simp
  simp! [st_law_book_text_0, st_law_book_text_1, st_law_book_text_2, b_law_book_text, m_law_book_text, bkD, at_0, sn, a1, a2, at_1]
  refine Wq.loop (fun i s h' => (∃ s2 s3 s4 s5 s6, s = [.val (bkD n fs), .val (.str (cat (((bookL n fs).take (i + 1)).map fun l => l ++ sg 10))), s2, s3, s4, s5, s6]) ∧ h' = h) ⟨⟨_, _, _, _, _, by rw [e0]; rfl⟩, rfl⟩ ?_ ?_
  · rintro i y s h' ex ⟨⟨s2, s3, s4, s5, s6, rfl⟩, rfl⟩
    rw [List.getElem?_map] at ex
    cases q : fs[i]? with
    | none => rw [q] at ex; cases ex
    | some f =>
      rw [q] at ex
      obtain rfl := Option.some.inj ex
      have hi : i < fs.length := (List.getElem?_eq_some_iff.mp q).1
      have of := ok f (List.mem_of_getElem? q)
      have tk : cat (((bookL n fs).take (i + 1 + 1)).map fun l => l ++ sg 10) = cat (((bookL n fs).take (i + 1)).map fun l => l ++ sg 10) ++ (facS f ++ sg 10) := by
        have : (bookL n fs)[i + 1]? = some (facS f) := by
          unfold bookL
          rw [List.getElem?_cons_succ, List.getElem?_map, q]
          rfl
        rw [List.take_add_one, this, List.map_append, cat_app]
        show _ ++ (facS f ++ sg 10 ++ Str.ofString "") = _
        rw [str_app_nil]
      have cl : (cat (((bookL n fs).take (i + 1)).map fun l => l ++ sg 10)).length ≤ 1600 := by
        have t := lawcat_len (((bookL n fs).take (i + 1)).map fun l => l ++ sg 10) 37 fun x hx => by
          obtain ⟨l, hm, rfl⟩ := List.mem_map.mp hx
          have := bookL_len hn ok l (List.mem_of_mem_take hm)
          rw [len_app]
          omega
        rw [List.length_map, List.length_take, bl] at t
        have : min (i + 1) (fs.length + 1) * 37 ≤ 41 * 37 := Nat.mul_le_mul_right _ (by omega)
        omega
      generalize cat (((bookL n fs).take (i + 1)).map fun l => l ++ sg 10) = C at *
      obtain ⟨l1', l2, l3, l4, l6⟩ := facS_lens hn of
      have l5 := sgP_len f.2.2
      have e : facS f = endW f.1 ++ Str.ofString " <= " ++ (endW f.2.1 ++ sgP f.2.2 ++ nS f.2.2.natAbs) := facS_eq f
      obtain ⟨x, y, c⟩ := f
      obtain ⟨h1, h2, h3, h4, h5⟩ := of
      have h4 : -(10 ^ 12) ≤ c := h4
      have h5 : c ≤ 10 ^ 12 := h5
      have l1' : (endW x).length ≤ 8 := l1'
      have l2 : (endW y).length ≤ 8 := l2
      have l3 : (nS c.natAbs).length ≤ 13 := l3
      have l5 : (sgP c).length = 3 := l5
      have e2 : C ++ (endW x ++ Str.ofString " <= " ++ endW y) ++ sgP c ++ nS c.natAbs ++ sg 10 = C ++ (facS (x, y, c) ++ sg 10) := by
        rw [e]
        simp only [str_assoc]
      have k1 : (endW x ++ Str.ofString " <= ").length ≤ 12 := by rw [len_app]; omega
      have k2 : (endW x ++ Str.ofString " <= " ++ endW y).length ≤ 20 := by rw [len_app]; omega
      have k3 : (C ++ (endW x ++ Str.ofString " <= " ++ endW y)).length ≤ 1620 := by rw [len_app]; omega
      have k4 : (C ++ (endW x ++ Str.ofString " <= " ++ endW y) ++ sgP c).length ≤ 1623 := by rw [len_app]; omega
      have k5 : (C ++ (endW x ++ Str.ofString " <= " ++ endW y) ++ sgP c ++ nS c.natAbs).length ≤ 1636 := by rw [len_app]; omega
      have b1 : ∀ H, addD H (.str (endW x)) (.str " <= ") = some (.str (endW x ++ Str.ofString " <= ")) := fun H => add_str (by omega)
      have b2 : ∀ H, addD H (.str (endW x ++ Str.ofString " <= ")) (.str (endW y)) = some (.str (endW x ++ Str.ofString " <= " ++ endW y)) := fun H => add_str (by omega)
      have b3 : ∀ H, addD H (.str C) (.str (endW x ++ Str.ofString " <= " ++ endW y)) = some (.str (C ++ (endW x ++ Str.ofString " <= " ++ endW y))) := fun H => add_str (by omega)
      have b4 : ∀ H, addD H (.str (C ++ (endW x ++ Str.ofString " <= " ++ endW y))) (.str (sgP c)) = some (.str (C ++ (endW x ++ Str.ofString " <= " ++ endW y) ++ sgP c)) := fun H => add_str (by omega)
      have b5 : ∀ H, addD H (.str (C ++ (endW x ++ Str.ofString " <= " ++ endW y) ++ sgP c)) (.str (nS c.natAbs)) = some (.str (C ++ (endW x ++ Str.ofString " <= " ++ endW y) ++ sgP c ++ nS c.natAbs)) := fun H => add_str (by omega)
      have b6 : ∀ H, addD H (.str (C ++ (endW x ++ Str.ofString " <= " ++ endW y) ++ sgP c ++ nS c.natAbs)) (.str "\n") = some (.str (C ++ (facS (x, y, c) ++ sg 10))) := fun H => by
        rw [← e2, nl_ofs]
        exact add_str (by omega)
      have sn : ∀ H, strD H [.int ((c.natAbs : Nat) : Int)] = some (.str (nS c.natAbs)) := fun H => str_nat (by omega)
      by_cases h0 : 0 ≤ c
      · have es : Str.ofString " + " = sgP c := (if_pos h0).symm
        simp! [fcD, lb_law_book_text_0, decide_eq_true (show (0 : Int) ≤ c from h0)]
        refine lend_wp hn h1 ?_
        simp! [b1]
        refine lend_wp hn h2 ?_
        rw [es]
        simp! [b2, b3, b4, abs_n, sn, b5, b6]
        rw [tk]
        exact ⟨_, _, _, _, _, rfl⟩
      · have es : Str.ofString " - " = sgP c := (if_neg h0).symm
        simp! [fcD, lb_law_book_text_0, decide_eq_false (show ¬ (0 : Int) ≤ c from h0)]
        refine lend_wp hn h1 ?_
        simp! [b1]
        refine lend_wp hn h2 ?_
        rw [es]
        simp! [b2, b3, b4, abs_n, sn, b5, b6]
        rw [tk]
        exact ⟨_, _, _, _, _, rfl⟩
  · rintro s h' ⟨⟨s2, s3, s4, s5, s6, rfl⟩, rfl⟩
    rw [List.length_map, ← bl, List.take_length]
    simp!
    exact kk
def word64 : List Str := ((["first", "rest", "second", "ground", "jobs", "<=", "+", "-", "0", "00", "1", "2", "8", "9", "", "1_0"] : List Str) ++ (["=<", "First", "-0", "+1", "1000000000000", "1000000000001", "x", "3.0", "Jobs", "Ground", "Rest", "Second", "GROUND", "first\t0", "\t", "0\t<=", "01"] : List Str))
theorem word64_ok : ∀ x ∈ word64, As x ∧ x.length ≤ 62 := by
  have h : word64.all (fun s => (s.cps.toList.all fun c => decide (c < 128)) && decide (s.length ≤ 62)) = true := by decide +kernel
  intro x hx
  have := List.all_eq_true.mp h x hx
  rw [Bool.and_eq_true] at this
  exact ⟨fun c hc => of_decide_eq_true (List.all_eq_true.mp this.1 c hc), of_decide_eq_true this.2⟩
def tail64 : List Str := ["", "", "", "\n", " ", "jobs 1", "first 0 <= ground + 1"]
theorem tail64_ok : ∀ x ∈ tail64, As x ∧ x.length ≤ 21 := by
  have h : tail64.all (fun s => (s.cps.toList.all fun c => decide (c < 128)) && decide (s.length ≤ 21)) = true := by decide +kernel
  intro x hx
  have := List.all_eq_true.mp h x hx
  rw [Bool.and_eq_true] at this
  exact ⟨fun c hc => of_decide_eq_true (List.all_eq_true.mp this.1 c hc), of_decide_eq_true this.2⟩
theorem word_wp {x0 x1 x2 x4 x5 x8 : Sl} {h : Hd} {o : Int} {v : Nat} {qs : List Str} {w : Str} {Q : Fl → Sd → Hd → Prop} {E : Ex} (hv : v ≤ qs.length) (wl : w.length ≤ 62) (wa : As w) (qa : ∀ p ∈ qs, As p) (hb : qs.length ≤ 50000)
    (kk : ∀ ws : List Str, (∀ p ∈ ws, As p) → (ws.map (·.length)).sum + ws.length ≤ (qs.map (·.length)).sum + qs.length + 63 → Q .nx [x0, x1, x2, .val (.int o), x4, x5, .own (ws.map .str), .val (.int (v : Int)), x8, .val (.str w)] h) :
    Wq Q E () (st_law_marred_10 [x0, x1, x2, .val (.int o), x4, x5, .own (qs.map .str), .val (.int (v : Int)), x8, .val (.str w)] h) := by
  have lq : (qs.map D.str).length = qs.length := List.length_map ..
  have sv := sum_take qs v
  have lv := len_take qs v
  have sdv := sum_drop qs v (v + 1) (by omega)
  have sv1 : ∀ H, slD H (.lst (qs.map D.str)) none (some (v : Int)) = some (.lst ((qs.take v).map .str)) := fun H => sl_to' (by omega)
  have sv3 : ∀ H, slD H (.lst (qs.map D.str)) (some (v : Int)) none = some (.lst ((qs.drop v).map .str)) := fun H => sl_from' (by omega)
  have ins : (((qs.take v ++ (w :: qs.drop v)).map (·.length)).sum + (qs.take v ++ (w :: qs.drop v)).length) ≤ (qs.map (·.length)).sum + qs.length + 63 := by
    have e1 := sum_app (qs.take v) (w :: qs.drop v)
    rw [List.map_cons, List.sum_cons] at e1
    rw [List.length_append, List.length_cons]
    omega
  have insa : ∀ p ∈ qs.take v ++ (w :: qs.drop v), As p := fun p hp => by
    rcases List.mem_append.mp hp with z | z
    · exact qa p (List.mem_of_mem_take z)
    · rcases List.mem_cons.mp z with z | z
      · rw [z]; exact wa
      · exact qa p (List.mem_of_mem_drop z)
  have inse : (qs.take v).map D.str ++ [D.str w] ++ (qs.drop v).map D.str = (qs.take v ++ (w :: qs.drop v)).map D.str := by simp
  have l1 : ((qs.take v).map D.str).length + 1 ≤ 100000 := by simp; omega
  have l2 : ((qs.take v).map D.str ++ [D.str w]).length + ((qs.drop v).map D.str).length ≤ 100000 := by simp; omega
  by_cases h2 : o = 2
  · simp! [st_law_marred_10, eqX_int', decide_eq_true h2, sv1, sv3, l1, l2, inse]
    exact kk _ insa ins
  · by_cases h3 : v = qs.length
    · simp! [st_law_marred_10, eqX_int', decide_eq_false h2, lq, decide_eq_true (show (v : Int) = (qs.length : Int) by omega), sv1, sv3, l1, l2, inse]
      exact kk _ insa ins
    · by_cases h4 : o = 3
      · have sv2 : ∀ H, slD H (.lst (qs.map D.str)) (some ((v : Int) + 1)) none = some (.lst ((qs.drop (v + 1)).map .str)) := fun H => by
          have e1 : (v : Int) + 1 = ((v + 1 : Nat) : Int) := by omega
          rw [e1]
          exact sl_from' (by omega)
        have l3 : ((qs.take v).map D.str).length + ((qs.drop (v + 1)).map D.str).length ≤ 100000 := by simp; omega
        have dele : (qs.take v).map D.str ++ (qs.drop (v + 1)).map D.str = (qs.take v ++ qs.drop (v + 1)).map D.str := by simp
        simp! [st_law_marred_10, eqX_int', decide_eq_false h2, lq, decide_eq_false (show ¬ (v : Int) = (qs.length : Int) by omega), decide_eq_true h4, sv1, sv2, l3, dele]
        refine kk _ (fun p hp => ?_) ?_
        · rcases List.mem_append.mp hp with z | z
          · exact qa p (List.mem_of_mem_take z)
          · exact qa p (List.mem_of_mem_drop z)
        · have e1 := sum_app (qs.take v) (qs.drop (v + 1))
          rw [List.length_append]
          omega
      · have hv2 : v < qs.length := by omega
        have ix : ixN qs.length (v : Int) = some v := by
          unfold ixN
          simp [hv2]
        have se : (qs.map D.str).set v (.str w) = (qs.set v w).map D.str := by rw [List.map_set]
        simp! [st_law_marred_10, eqX_int', decide_eq_false h2, lq, decide_eq_false (show ¬ (v : Int) = (qs.length : Int) by omega), decide_eq_false h4, ix, se]
        refine kk _ (fun p hp => ?_) ?_
        · rcases List.mem_or_eq_of_mem_set hp with z | z
          · exact qa p z
          · rw [z]; exact wa
        · have e1 := sum_set qs v qs[v] (List.getElem?_eq_getElem hv2) w
          rw [List.length_set]
          omega
theorem marred_wp {h : Hd} {b : Nat} {x : Str} {Q : D → Sd → Hd → Prop} {E : Ex} (P : Pen h) (hx : Tx' b x) (hb : b ≤ 20000) (kk : ∀ y h', Tx' (2 * b + 100) y → Pen h' → Q (.str y) [] h') : Wq Q E () (m_law_marred [.ref 0, .str x] h) := by
  obtain ⟨ls, e, hp, hf, hj⟩ := split_facts (x := x) (k := 10) (by decide)
  obtain ⟨ax, lx⟩ := hx
  have pl := piece_le hp hj
  have pa := ax.piece hj
  have ps := piece_len hp hj
  have s0 : (0 < (Str.ofString "\n").length ∧ x.length ≤ 100000) := ⟨by decide, by omega⟩
  have ex : Txt.split x (Str.ofString "\n") = ls := by rw [nl_ofs, e]
  have hl0 : 0 < ls.length := List.length_pos_iff.mpr hp
  have ll : (ls.map D.str).length = ls.length := List.length_map ..
  simp! [m_law_marred, b_law_marred, st_law_marred_0, ↓y_split, onS_str, s0]
  rw [ex]
  refine draw_wp P (by decide) (by decide) fun o h1 o0 o1 P1 => ?_
  simp! [st_law_marred_1, ll]
  refine draw_wp P1 (by omega) (by omega) fun t h2 t0 t1 P2 => ?_
  simp! [ll]
  refine draw_wp P2 (by omega) (by omega) fun u h3 u0 u1 P3 => ?_
  obtain ⟨t, rfl⟩ := nat_of t0
  obtain ⟨u, rfl⟩ := nat_of u0
  have ht : t < ls.length := by omega
  have hu : u < ls.length := by omega
  have st := sum_take ls t
  have lt := len_take ls t
  have sd := sum_drop ls t (t + 1) (by omega)
  have sl1 : ∀ H, slD H (.lst (ls.map D.str)) none (some (t : Int)) = some (.lst ((ls.take t).map .str)) := fun H => sl_to' (by omega)
  have sl2 : ∀ H, slD H (.lst (ls.map D.str)) (some ((t : Int) + 1)) none = some (.lst ((ls.drop (t + 1)).map .str)) := fun H => by
    have e1 : (t : Int) + 1 = ((t + 1 : Nat) : Int) := by omega
    rw [e1]
    exact sl_from' (by omega)
  have sl3 : ∀ H, slD H (.lst (ls.map D.str)) (some (t : Int)) none = some (.lst ((ls.drop t).map .str)) := fun H => sl_from' (by omega)
  have iu : atI (ls.map D.str) (u : Int) = some (.str ls[u]) := atI_in (by omega) (by simp [hu])
  have it : atI (ls.map D.str) (t : Int) = some (.str ls[t]) := atI_in (by omega) (by simp [ht])
  by_cases o2 : o = 0
  · have ad : ∀ H, addD H (.lst ((ls.take t).map .str)) (.lst ((ls.drop (t + 1)).map .str)) = some (.lst ((ls.take t ++ ls.drop (t + 1)).map .str)) := fun H => by
      rw [add_lst (by rw [List.length_map, List.length_map, List.length_take, List.length_drop]; omega), List.map_append]
    have hs := sum_app (ls.take t) (ls.drop (t + 1))
    have hs2 : (ls.take t ++ ls.drop (t + 1)).length = (ls.take t).length + (ls.drop (t + 1)).length := List.length_append
    have jn : ∀ H, joinD (Str.ofString "\n") H (.lst ((ls.take t ++ ls.drop (t + 1)).map .str)) = some (.str (Str.join (sg 10) (ls.take t ++ ls.drop (t + 1)))) := fun H => by
      rw [nl_ofs]
      exact joinD_tx (by omega)
    simp! [st_law_marred_2, eqX_int', decide_eq_true o2, ↓y_join, onS_str, sl1, sl2, ad, jn]
    refine kk _ _ (join_tx (by decide) (fun p hp => ?_) (by omega)) P3
    rcases List.mem_append.mp hp with z | z
    · exact pa p (List.mem_of_mem_take z)
    · exact pa p (List.mem_of_mem_drop z)
  · by_cases o3 : o = 1
    · have hs := sum_app (ls.take t) (ls[u] :: ls.drop t)
      have hm := pl.2 ls[u] (List.getElem_mem hu)
      have hs2 : (ls.take t ++ (ls[u] :: ls.drop t)).length = (ls.take t).length + (ls.drop t).length + 1 := by rw [List.length_append, List.length_cons]; omega
      rw [List.map_cons, List.sum_cons] at hs
      have jn : ∀ H, joinD (Str.ofString "\n") H (.lst ((ls.take t).map D.str ++ [D.str ls[u]] ++ (ls.drop t).map D.str)) = some (.str (Str.join (sg 10) (ls.take t ++ (ls[u] :: ls.drop t)))) := fun H => by
        rw [nl_ofs]
        have e1 : (ls.take t).map D.str ++ [D.str ls[u]] ++ (ls.drop t).map D.str = (ls.take t ++ (ls[u] :: ls.drop t)).map D.str := by simp
        rw [e1]
        exact joinD_tx (by omega)
      have l1 : ((ls.take t).map D.str).length + 1 ≤ 100000 := by rw [List.length_map]; omega
      have l2 : ((ls.take t).map D.str ++ [D.str ls[u]]).length + ((ls.drop t).map D.str).length ≤ 100000 := by simp; omega
      have l1 : ((ls.take t).map D.str).length + 1 ≤ 100000 := by simp; omega
      simp! [st_law_marred_2, st_law_marred_3, eqX_int', decide_eq_false o2, decide_eq_true o3, ↓y_join, onS_str, sl1, sl3, iu, l1, l2, jn]
      refine kk _ _ (join_tx (by decide) (fun p hp => ?_) (by omega)) P3
      rcases List.mem_append.mp hp with z | z
      · exact pa p (List.mem_of_mem_take z)
      · rcases List.mem_cons.mp z with z | z
        · rw [z]; exact pa _ (List.getElem_mem hu)
        · exact pa p (List.mem_of_mem_drop z)
    · obtain ⟨qs, e3, hq, hfq, hjq⟩ := split_facts (x := ls[t]) (k := 32) (by decide)
      have at' := pa ls[t] (List.getElem_mem ht)
      have lt' := pl.2 ls[t] (List.getElem_mem ht)
      have ql := piece_le hq hjq
      have qa := at'.piece hjq
      have qs' := piece_len hq hjq
      have q0 : (0 < (Str.ofString " ").length ∧ ls[t].length ≤ 100000) := ⟨by decide, by omega⟩
      have eq : Txt.split ls[t] (Str.ofString " ") = qs := by rw [sp_ofs, e3]
      have hq0 : 0 < qs.length := List.length_pos_iff.mpr hq
      have lq : (qs.map D.str).length = qs.length := List.length_map ..
      simp! [st_law_marred_2, st_law_marred_3, st_law_marred_4, eqX_int', decide_eq_false o2, decide_eq_false o3, it, ↓y_split, onS_str, q0]
      rw [eq]
      simp! [st_law_marred_5, lq]
      refine draw_wp P3 (by omega) (by omega) fun v h4 v0 v1 P4 => ?_
      obtain ⟨v, rfl⟩ := nat_of v0
      have hv : v ≤ qs.length := by omega
      simp! [st_law_marred_6, st_law_marred_7, st_law_marred_8, st_law_marred_9]
      refine one_of_wp P4 (by simp) (by simp) fun d h5 hd P5 => ?_
      have hw : ∃ w : Str, d = .str w ∧ As w ∧ w.length ≤ 62 := by
        have hm : d ∈ word64.map D.str := hd
        obtain ⟨w, hw, rfl⟩ := List.mem_map.mp hm
        exact ⟨w, rfl, word64_ok w hw⟩
      obtain ⟨w, rfl, wa, wl⟩ := hw
      simp!
      refine word_wp hv wl wa qa (by omega) fun ws hwa hwl => ?_
      have jw := join_tx (b := ls[t].length + 63) (k := 32) (by decide) hwa (by omega)
      have jn1 : ∀ H, joinD (Str.ofString " ") H (.lst (ws.map D.str)) = some (.str (Str.join (sg 32) ws)) := fun H => by
        rw [sp_ofs]
        exact joinD_tx (by omega)
      have ix : ixN ls.length (t : Int) = some t := by
        unfold ixN
        simp [ht]
      have se : (ls.map D.str).set t (.str (Str.join (sg 32) ws)) = (ls.set t (Str.join (sg 32) ws)).map D.str := by rw [List.map_set]
      have e1 := sum_set ls t ls[t] (List.getElem?_eq_getElem ht) (Str.join (sg 32) ws)
      have e2 : (ls.set t (Str.join (sg 32) ws)).length = ls.length := List.length_set ..
      have jl := jw.2
      have jn2 : ∀ H, joinD (Str.ofString "\n") H (.lst ((ls.set t (Str.join (sg 32) ws)).map D.str)) = some (.str (Str.join (sg 10) (ls.set t (Str.join (sg 32) ws)))) := fun H => by
        rw [nl_ofs]
        exact joinD_tx (by omega)
      simp! [st_law_marred_11, st_law_marred_12, ↓y_join, onS_str, jn1, ll, ix, se, jn2]
      refine one_of_wp P5 (by simp) (by simp) fun d h6 hd P6 => ?_
      have hz : ∃ z : Str, d = .str z ∧ As z ∧ z.length ≤ 21 := by
        have hm : d ∈ tail64.map D.str := hd
        obtain ⟨z, hz, rfl⟩ := List.mem_map.mp hm
        exact ⟨z, rfl, tail64_ok z hz⟩
      obtain ⟨z, rfl, za, zl⟩ := hz
      have jt := join_tx (b := b + 63) (k := 10) (ps := ls.set t (Str.join (sg 32) ws)) (by decide) (fun p hp => by
        rcases List.mem_or_eq_of_mem_set hp with z | z
        · exact pa p z
        · rw [z]; exact jw.1) (by omega)
      have jl2 := jt.2
      simp! [add_str (x := Str.join (sg 10) (ls.set t (Str.join (sg 32) ws))) (y := z) (h := h6) (by omega)]
      exact kk _ _ ⟨jt.1.app za, by rw [len_app]; omega⟩ P6
theorem goF_bound {n : Nat} : ∀ (ls : List Str) (i : Nat) (acc : List Fc), (∀ f ∈ acc, okF n f) → acc.length + 1 ≤ i → acc.length ≤ 40 → match goF n i acc ls with
    | .inl j => j < i + ls.length
    | .inr fs => fs.length ≤ 40 ∧ ∀ f ∈ fs, okF n f
  | [], i, acc, h, h1, h2 => ⟨h2, h⟩
  | w :: ls, i, acc, h, h1, h2 => by
    rw [goF_cons]
    cases q : lrF n w with
    | none => exact (by simp : i < i + (w :: ls).length)
    | some f =>
      show match (if 40 < i then (.inl i : Nat ⊕ List Fc) else goF n (i + 1) (acc ++ [f]) ls) with
        | .inl j => j < i + (w :: ls).length
        | .inr fs => fs.length ≤ 40 ∧ ∀ f ∈ fs, okF n f
      by_cases h40 : 40 < i
      · rw [if_pos h40]
        exact (by simp : i < i + (w :: ls).length)
      · rw [if_neg h40]
        have ih := goF_bound ls (i + 1) (acc ++ [f]) (fun g hg => by
          rcases List.mem_append.mp hg with z | z
          · exact h g z
          · rw [List.mem_singleton.mp z]
            exact (lrF_some q).2) (by simp; omega) (by simp; omega)
        cases eg : goF n (i + 1) (acc ++ [f]) ls with
        | inl j =>
          rw [eg] at ih
          have ih2 : j < i + 1 + ls.length := ih
          show j < i + (w :: ls).length
          rw [List.length_cons]
          omega
        | inr fs =>
          rw [eg] at ih
          exact ih
theorem fcD_fd {n : Nat} {f : Fc} (hn : n ≤ 8) (h : okF n f) : Fd ((10 ^ 12 : Nat) : Int) 6 1 (fcD f) := by
  obtain ⟨x, y, c⟩ := f
  obtain ⟨h1, h2, h3, h4, h5⟩ := h
  have h4 : -(10 ^ 12) ≤ c := h4
  have h5 : c ≤ 10 ^ 12 := h5
  have e : ∀ x : Option Nat, okE n x → Fd ((10 ^ 12 : Nat) : Int) 0 0 (en x) := fun x h => by
    cases x with
    | none => trivial
    | some t =>
      have ht : t < 3 * n := h
      exact ⟨by omega, by omega⟩
  exact ⟨0, rfl, 0, 5, by omega, e x h1, 0, 4, by omega, e y h2, 0, 3, by omega, ⟨by omega, by omega⟩, trivial⟩
theorem fcs_fd {n : Nat} (hn : n ≤ 8) : ∀ {fs : List Fc}, (∀ f ∈ fs, okF n f) → FdL ((10 ^ 12 : Nat) : Int) (7 * fs.length) 1 (fs.map fcD)
  | [], _ => trivial
  | f :: fs, h => ⟨6, 7 * fs.length, by rw [List.length_cons]; omega, fcD_fd hn (h f List.mem_cons_self), fcs_fd hn fun g hg => h g (List.mem_cons_of_mem _ hg)⟩
theorem told_fd {ls : List Str} {r : Str} (hl : ls.length ≤ 100000) : Fd ((10 ^ 12 : Nat) : Int) 400 4 (toldB (endT ls r)) := by
  have sl : Fd ((10 ^ 12 : Nat) : Int) 10 3 (.str "line") := ⟨by decide +kernel, by decide +kernel⟩
  have st : Fd ((10 ^ 12 : Nat) : Int) 10 3 (.str "told") := ⟨by decide +kernel, by decide +kernel⟩
  have line : ∀ k : Nat, k ≤ 100000 → Fd ((10 ^ 12 : Nat) : Int) 400 4 (.tup [.str "line", .int (k : Int)]) := fun k hk =>
    ⟨3, rfl, 10, 10, by omega, sl, 1, 1, by omega, ⟨by omega, by omega⟩, trivial⟩
  cases ej : hdJ ls with
  | none =>
    rw [endT_n ej]
    exact line 0 (by omega)
  | some n =>
    have hn := hdJ_le ej
    rw [endT_s ej]
    have g := goF_bound (n := n) (ls.drop 1) 1 [] (fun f hf => nomatch hf) (by simp) (by simp)
    cases eg : goF n 1 [] (ls.drop 1) with
    | inl j =>
      rw [eg] at g
      have g2 : j < 1 + (ls.drop 1).length := g
      rw [List.length_drop] at g2
      exact line j (by omega)
    | inr fs =>
      rw [eg] at g
      obtain ⟨g1, g2⟩ := g
      unfold endU
      show Fd _ _ _ (toldB (if r = "" then .inr (n, fs) else .inl ls.length))
      by_cases hr : r = ""
      · rw [if_pos hr]
        have hf := (fcs_fd hn.2 g2).mono (Int.le_refl _) (show 7 * fs.length ≤ 280 by omega) (Nat.le_refl 1)
        exact ⟨3, rfl, 10, 380, by omega, st, 300, 1, by omega, ⟨2, rfl, 1, 290, by omega, ⟨by omega, by omega⟩, 285, 0, by omega, ⟨1, rfl, hf.mono (Int.le_refl _) (by omega) (Nat.le_refl _)⟩, trivial⟩, trivial⟩
      · rw [if_neg hr]
        exact line _ hl
theorem told_repr {ls : List Str} {r : Str} (hl : ls.length ≤ 100000) : ∀ h, reprX h [toldB (endT ls r)] = some (.str (shw (toldB (endT ls r)))) := fun h =>
  Fd.repr ((told_fd hl).mono (Int.le_refl _) (by omega) (by omega)) (by decide)
theorem toldc_wp {h : Hd} {x : Str} {ls : List Str} {r : Str} {k : Nat} {Q : D → Sd → Hd → Prop} {E : Ex} (hl : x.length ≤ 50000) (ha : As x) (e : Txt.split x (sg 10) = ls ++ [r]) (ee : endT ls r = .inl k)
    (kk : Q (.tup [.str "line", .int (k : Int)]) [] h) : Wq Q E () (m_law_told [.str x] h) := told_wp hl ha e (by rw [ee]; exact kk)
theorem toldc_eq {h : Hd} {x : Str} {ls : List Str} {r : Str} {k : Nat} (hl : x.length ≤ 50000) (ha : As x) (e : Txt.split x (sg 10) = ls ++ [r]) (ee : endT ls r = .inl k) : m_law_told [.str x] h = .ok (.tup [.str "line", .int (k : Int)]) [] h := Wq.toEq fun Q q => toldc_wp hl ha e ee q
theorem told_1 {h : Hd} : m_law_told [.str (Str.ofString "")] h = .ok (.tup [.str "line", .int 0]) [] h := toldc_eq (ls := []) (r := Str.ofString "") (k := 0) (by decide +kernel) (as_lit (by decide +kernel)) (by decide +kernel) rfl
theorem told_2 {h : Hd} : m_law_told [.str (Str.ofString "\n")] h = .ok (.tup [.str "line", .int 0]) [] h := toldc_eq (ls := [Str.ofString ""]) (r := Str.ofString "") (k := 0) (by decide +kernel) (as_lit (by decide +kernel)) (by decide +kernel) (by decide +kernel)
theorem told_3 {h : Hd} : m_law_told [.str (Str.ofString "jobs 1")] h = .ok (.tup [.str "line", .int 0]) [] h := toldc_eq (ls := []) (r := Str.ofString "jobs 1") (k := 0) (by decide +kernel) (as_lit (by decide +kernel)) (by decide +kernel) (by decide +kernel)
theorem told_4 {h : Hd} : m_law_told [.str (Str.ofString "jobs 1\n\n")] h = .ok (.tup [.str "line", .int 1]) [] h := toldc_eq (ls := [Str.ofString "jobs 1", Str.ofString ""]) (r := Str.ofString "") (k := 1) (by decide +kernel) (as_lit (by decide +kernel)) (by decide +kernel) (by decide +kernel)
theorem told_6 {h : Hd} : m_law_told [.str (Str.ofString "jobs 1\nground <= rest 0 - 0\n")] h = .ok (.tup [.str "line", .int 1]) [] h := toldc_eq (ls := [Str.ofString "jobs 1", Str.ofString "ground <= rest 0 - 0"]) (r := Str.ofString "") (k := 1) (by decide +kernel) (as_lit (by decide +kernel)) (by decide +kernel) (by decide +kernel)
theorem told_7 {h : Hd} : m_law_told [.str (Str.ofString "jobs 1\nrest 0 <= rest 0 + 1\n")] h = .ok (.tup [.str "line", .int 1]) [] h := toldc_eq (ls := [Str.ofString "jobs 1", Str.ofString "rest 0 <= rest 0 + 1"]) (r := Str.ofString "") (k := 1) (by decide +kernel) (as_lit (by decide +kernel)) (by decide +kernel) (by decide +kernel)
def fullT : Str := Str.ofString "jobs 2\n" ++ repS (Str.ofString "ground <= rest 1 + 0\n") 41
theorem rep_flat (s : Str) : ∀ n : Nat, TL.tl (repS s n) = (List.replicate n (TL.tl s)).flatten
  | 0 => rfl
  | n + 1 => by
    show TL.tl (repS s n ++ s) = _
    rw [TL.tl_append, rep_flat s n, List.replicate_succ', List.flatten_append]
    simp
theorem cat_flat : ∀ ls : List Str, TL.tl (cat ls) = (ls.map TL.tl).flatten
  | [] => by
    show TL.tl (Str.ofString "") = []
    decide +kernel
  | x :: ls => by
    show TL.tl (x ++ cat ls) = _
    rw [TL.tl_append, cat_flat ls]
    rfl
theorem split_lines {ls : List Str} (h : ∀ p ∈ ls, 10 ∉ TL.tl p) : Txt.split (cat (ls.map fun l => l ++ sg 10)) (sg 10) = ls ++ [Str.ofString ""] := by
  rw [cat_join]
  refine split_of (by decide) (by simp) fun p hp => ?_
  rcases List.mem_append.mp hp with z | z
  · exact h p z
  · rw [List.mem_singleton.mp z]
    have : TL.tl (Str.ofString "") = [] := by decide +kernel
    rw [this]
    simp
theorem goF_many {n : Nat} {f : Fc} (hn : n ≤ 8) (h : okF n f) : ∀ (k i : Nat) (acc : List Fc), i ≤ 41 → k + i = 42 → goF n i acc (List.replicate k (facS f)) = .inl 41
  | 0, i, acc, h1, h2 => by omega
  | k + 1, i, acc, h1, h2 => by
    rw [List.replicate_succ, goF_cons, lrF_fac hn h]
    show (if 40 < i then Sum.inl i else goF n (i + 1) (acc ++ [f]) (List.replicate k (facS f))) = _
    by_cases h40 : 40 < i
    · rw [if_pos h40]
      congr 1
      omega
    · rw [if_neg h40]
      exact goF_many hn h k (i + 1) _ (by omega) (by omega)
def gF : Fc := (none, some 4, 0)
theorem gF_ok : okF 2 gF := ⟨trivial, by show 4 < 6; decide, by decide, by decide, by decide⟩
def fullL : List Str := Str.ofString "jobs 2" :: List.replicate 41 (facS gF)
theorem fullL_as : ∀ p ∈ fullL, As p := fun p hp => by
  rcases List.mem_cons.mp hp with rfl | z
  · exact as_lit (by decide +kernel)
  · rw [(List.mem_replicate.mp z).2]
    exact facS_as _
theorem fullT_eq : fullT = cat (fullL.map fun l => l ++ sg 10) := TL.ext_tl (by
  have e1 : Str.ofString "jobs 2\n" = Str.ofString "jobs 2" ++ sg 10 := by decide +kernel
  have e2 : Str.ofString "ground <= rest 1 + 0\n" = facS gF ++ sg 10 := by decide +kernel
  unfold fullT fullL
  rw [List.map_cons, List.map_replicate, TL.tl_append, rep_flat, cat_flat, List.map_cons, List.map_replicate, List.flatten_cons, e1, e2])
theorem fullT_len : fullT.length ≤ 1600 := by
  have h := lawcat_len (fullL.map fun l => l ++ sg 10) 37 fun l hm => by
    obtain ⟨m, hm2, rfl⟩ := List.mem_map.mp hm
    have : m.length ≤ 36 := by
      rcases List.mem_cons.mp hm2 with rfl | z
      · decide +kernel
      · rw [(List.mem_replicate.mp z).2]
        exact (facS_lens (by decide) gF_ok).2.2.2.2
    rw [len_app]
    have e1 : (sg 10).length = 1 := rfl
    omega
  rw [← fullT_eq, List.length_map] at h
  have : fullL.length = 42 := by unfold fullL; rw [List.length_cons, List.length_replicate]
  omega
theorem told_5 {h : Hd} : m_law_told [.str fullT] h = .ok (.tup [.str "line", .int 41]) [] h := by
  refine toldc_eq (ls := fullL) (r := Str.ofString "") (k := 41) (by have := fullT_len; omega) ?_ ?_ ?_
  · rw [fullT_eq, cat_join]
    refine As.join (as_sg (by decide)) fun p hp => ?_
    rcases List.mem_append.mp hp with z | z
    · exact fullL_as p z
    · rw [List.mem_singleton.mp z]
      exact as_lit (by decide +kernel)
  · rw [fullT_eq]
    refine split_lines fun p hp => ?_
    rcases List.mem_cons.mp hp with rfl | z
    · have : TL.tl (Str.ofString "jobs 2") = [106, 111, 98, 115, 32, 50] := by decide +kernel
      rw [this]; decide
    · rw [(List.mem_replicate.mp z).2]
      exact facS_free _
  · have ej : hdJ fullL = some 2 := by
      show rdJ (Txt.split (Str.ofString "jobs 2") (sg 32)) = some 2
      decide +kernel
    rw [endT_s ej]
    show endU 2 _ _ (goF 2 1 [] (List.replicate 41 (facS gF))) = _
    rw [goF_many (by decide) gF_ok 41 1 [] (by decide) (by decide)]
    rfl
theorem rep_tl (c : Nat) : ∀ n : Nat, TL.tl (repS (sg c) n) = List.replicate n c
  | 0 => rfl
  | n + 1 => by
    show TL.tl (repS (sg c) n ++ sg c) = _
    rw [TL.tl_append, rep_tl c n, tl_sg, ← List.replicate_succ']
def oneS : Str := repS (Str.ofString "1") 5000
theorem one_tl : TL.tl oneS = List.replicate 5000 49 := by
  have e3 : (Str.ofString "1") = sg 49 := by decide +kernel
  unfold oneS
  rw [e3, rep_tl]
theorem one_len : oneS.length = 5000 := by rw [TL.len_tl, one_tl, List.length_replicate]
theorem one_free {c : Nat} (h : c ≠ 49) : c ∉ TL.tl oneS := fun hm => by
  rw [one_tl] at hm
  exact h (List.mem_replicate.mp hm).2
theorem one_as : As oneS := fun c hc => by
  rw [one_tl] at hc
  rw [(List.mem_replicate.mp hc).2]
  decide
def lonA : Str := Str.ofString "jobs " ++ oneS ++ Str.ofString "\n"
def lonB : Str := Str.ofString "jobs 1\nrest 0 <= ground + " ++ oneS ++ Str.ofString "\n"
theorem told_8 {h : Hd} : m_law_told [.str lonA] h = .ok (.tup [.str "line", .int 0]) [] h := by
  have l1 : (Str.ofString "jobs ").length = 5 := by decide +kernel
  have l2 : (Str.ofString "\n").length = 1 := by decide +kernel
  have ol := one_len
  have tj : TL.tl (Str.ofString "jobs ") = [106, 111, 98, 115, 32] := by decide +kernel
  have e : lonA = cat ([Str.ofString "jobs " ++ oneS].map fun l => l ++ sg 10) := by
    show _ = Str.ofString "jobs " ++ oneS ++ sg 10 ++ Str.ofString ""
    rw [str_app_nil, ← nl_ofs]
    rfl
  refine toldc_eq (ls := [Str.ofString "jobs " ++ oneS]) (r := Str.ofString "") (k := 0) ?_ ?_ ?_ ?_
  · unfold lonA
    rw [len_app, len_app]
    omega
  · exact ((as_lit (by decide +kernel)).app one_as).app (as_lit (by decide +kernel))
  · rw [e]
    refine split_lines fun p hp => ?_
    rw [List.mem_singleton.mp hp, TL.tl_append, tj]
    intro hm
    rcases List.mem_append.mp hm with z | z
    · exact absurd z (by decide)
    · exact one_free (by decide) z
  · refine endT_n ?_
    show rdJ (Txt.split (Str.ofString "jobs " ++ oneS) (sg 32)) = none
    have es : Txt.split (Str.ofString "jobs " ++ oneS) (sg 32) = [Str.ofString "jobs", oneS] := by
      have e2 : Str.ofString "jobs " ++ oneS = Str.join (sg 32) [Str.ofString "jobs", oneS] := by
        have e1 : Str.ofString "jobs " = Str.ofString "jobs" ++ sg 32 := by decide +kernel
        rw [e1]
        rfl
      rw [e2]
      refine split_of (by decide) (by simp) fun p hp => ?_
      simp only [List.mem_cons, List.not_mem_nil, or_false] at hp
      rcases hp with rfl | rfl
      · have : TL.tl (Str.ofString "jobs") = [106, 111, 98, 115] := by decide +kernel
        rw [this]; decide
      · exact one_free (by decide)
    have en : numN 61 oneS = none := if_neg fun z => by
      have := z.2
      omega
    rw [es]
    show (if Str.ofString "jobs" = "jobs" then (match numN 61 oneS with | some k => if 1 ≤ k ∧ k ≤ 8 then some k else none | none => none) else none) = none
    rw [if_pos rfl, en]
theorem told_9 {h : Hd} : m_law_told [.str lonB] h = .ok (.tup [.str "line", .int 1]) [] h := by
  have l1 : (Str.ofString "jobs 1\nrest 0 <= ground + ").length = 26 := by decide +kernel
  have l2 : (Str.ofString "\n").length = 1 := by decide +kernel
  have ol := one_len
  have tb : TL.tl (Str.ofString "rest 0 <= ground + ") = [114, 101, 115, 116, 32, 48, 32, 60, 61, 32, 103, 114, 111, 117, 110, 100, 32, 43, 32] := by decide +kernel
  have e : lonB = cat ([Str.ofString "jobs 1", Str.ofString "rest 0 <= ground + " ++ oneS].map fun l => l ++ sg 10) := by
    show _ = Str.ofString "jobs 1" ++ sg 10 ++ (Str.ofString "rest 0 <= ground + " ++ oneS ++ sg 10 ++ Str.ofString "")
    have e1 : Str.ofString "jobs 1\nrest 0 <= ground + " = Str.ofString "jobs 1" ++ sg 10 ++ Str.ofString "rest 0 <= ground + " := by decide +kernel
    rw [str_app_nil, ← nl_ofs]
    unfold lonB
    rw [e1, ← nl_ofs]
    simp only [str_assoc]
  refine toldc_eq (ls := [Str.ofString "jobs 1", Str.ofString "rest 0 <= ground + " ++ oneS]) (r := Str.ofString "") (k := 1) ?_ ?_ ?_ ?_
  · unfold lonB
    rw [len_app, len_app]
    omega
  · exact ((as_lit (by decide +kernel)).app one_as).app (as_lit (by decide +kernel))
  · rw [e]
    refine split_lines fun p hp => ?_
    simp only [List.mem_cons, List.not_mem_nil, or_false] at hp
    rcases hp with rfl | rfl
    · have : TL.tl (Str.ofString "jobs 1") = [106, 111, 98, 115, 32, 49] := by decide +kernel
      rw [this]; decide
    · rw [TL.tl_append, tb]
      intro hm
      rcases List.mem_append.mp hm with z | z
      · exact absurd z (by decide)
      · exact one_free (by decide) z
  · have ej : hdJ [Str.ofString "jobs 1", Str.ofString "rest 0 <= ground + " ++ oneS] = some 1 := by
      show rdJ (Txt.split (Str.ofString "jobs 1") (sg 32)) = some 1
      decide +kernel
    rw [endT_s ej]
    show endU 1 _ _ (goF 1 1 [] [Str.ofString "rest 0 <= ground + " ++ oneS]) = _
    have en : lrF 1 (Str.ofString "rest 0 <= ground + " ++ oneS) = none := by
      cases q : lrF 1 (Str.ofString "rest 0 <= ground + " ++ oneS) with
      | none => rfl
      | some f =>
        exfalso
        obtain ⟨e1, o⟩ := lrF_some q
        have a := (facS_lens (by decide) o).2.2.2.2
        rw [← e1, len_app] at a
        omega
    rw [goF_cons, en]
    rfl
noncomputable def lb64A : M Fl := (mSeq (mAsg 4 (mCall m_law_book_text (mCons (mVar 3) mNil))) (mSeq (mIf (mOr (mTest (mBin neX (mCall m_format_book (mCons (mVar 3) mNil)) (mVar 4))) (mTest (mBin neX (mCB reprX (mCons (mCall m_law_told (mCons (mVar 4) mNil)) mNil)) (mCB reprX (mCons (mTup (mCons (mC (.str "told")) (mCons (mVar 3) mNil))) mNil))))) (mRet (mC (.bl false))) mNx) (mFor (mRg1 (mCons (mC (.int 4)) mNil)) (gN 5) lb_law_0)))
theorem lb64A_b : lb_law_1 = (mSeq (mAsg 3 (mCall m_law_any_book (mCons (mVar 1) (mCons (mBin addD (mC (.int 1)) (mCall m_law_draw (mCons (mVar 1) (mCons (mC (.int 8)) mNil)))) (mCons (mC (.int 12)) mNil))))) (mSeq (mIf (mTest (mBin eqX (mCall m_law_draw (mCons (mVar 1) (mCons (mC (.int 8)) mNil))) (mC (.int 0)))) (mAsg 3 (mTup (mCons (mBin ixD (mVar 3) (mC (.int 0))) (mCons (mSl (mBin addD (mBin ixD (mVar 3) (mC (.int 1))) (mBin repT (mTup (mCons (mTup (mCons (mC .non) (mCons (mC (.int 0)) (mCons (mUn negD (mC (.int 7))) mNil)))) mNil)) (mC (.int 41)))) mNoP (mPart (mBin addD (mC (.int 39)) (mCall m_law_draw (mCons (mVar 1) (mCons (mC (.int 2)) mNil)))))) mNil)))) mNx) lb64A)) := rfl
theorem turns_wp {ns : List Int} {n : Nat} (n1 : 1 ≤ n) (n8 : n ≤ 8) (fs : List Fc) (h5 : Hd) (s2 s3 s4 s5 s6 s7 s8 s9 : Sl) (ok : ∀ f ∈ fs, okF n f) (hl : fs.length ≤ 40) (P5 : Pen h5) (es3 : s3 = .val (bkD n fs)) {QF : Fl → Sd → Hd → Prop} {E : Ex}
    (kk : ∀ s h, (∃ s2 s3 s4 s5 s6 s7 s8 s9, s = [.val (.ro (ns.map .int)), .val (.ref 0), s2, s3, s4, s5, s6, s7, s8, s9]) → Pen h → QF .nx s h) : Wq QF E () (lb64A [.val (.ro (ns.map .int)), .val (.ref 0), s2, s3, s4, s5, s6, s7, s8, s9] h5) := by
  have sm4 : small (4 : Int) = true := by decide
  subst es3
  obtain ⟨f1, f2, f3, f4⟩ := book_facts n1 n8 ok hl
  have bl : (bookL n fs).length = fs.length + 1 := by unfold bookL; simp
  have r1 := told_repr (ls := bookL n fs) (r := Str.ofString "") (by omega)
  have r2 : ∀ h, reprX h [.tup [.str "told", bkD n fs]] = some (.str (shw (toldB (endT (bookL n fs) (Str.ofString ""))))) := fun h => by
    have := r1 h
    rw [f4] at this ⊢
    exact this
  simp! [lb64A]
  refine lawtext_wp n8 ok hl ?_
  simp!
  refine format_wp n8 ok hl ?_
  simp! [neX_str', decide_eq_true (rfl : bookS n fs = bookS n fs)]
  refine told_wp (by omega) f2 f1 ?_
  simp! [r1, show (2 : Nat) ≤ 100000 by decide, r2, neX_str', sm4]
  refine Wq.loop (fun i s h => (∃ b x s2 s3 s5 s6 s7 s8 s9, s = [.val (.ro (ns.map .int)), .val (.ref 0), s2, s3, .val (.str x), s5, s6, s7, s8, s9] ∧ Tx' b x ∧ b + 100 ≤ 1700 * 2 ^ i) ∧ Pen h) ⟨⟨1600, bookS n fs, _, _, _, _, _, _, _, rfl, ⟨f2, f3⟩, by decide⟩, P5⟩ ?_ ?_
  · rintro i x s h ex ⟨⟨b, x, s2, s3, s5, s6, s7, s8, s9, rfl, tx, hb⟩, P⟩
    obtain ⟨hi, rfl⟩ := rg_at ex
    have hi4 : i < 4 := by simpa using hi
    have hb2 : b ≤ 20000 := by
      have : 2 ^ i ≤ 2 ^ 3 := Nat.pow_le_pow_right (by decide) (by omega)
      omega
    simp! [lb_law_0]
    refine marred_wp P tx hb2 fun y h6 ty P6 => ?_
    obtain ⟨ls, r, e1, _, _⟩ := pieces (x := y) (k := 10) (by decide)
    obtain ⟨ps, e2, hp, hf, hj⟩ := split_facts (x := y) (k := 10) (by decide)
    rw [e1] at e2
    subst e2
    have pl := (piece_le hp hj).1
    rw [List.length_append, List.length_singleton] at pl
    have yl := ty.2
    have r3 := told_repr (ls := ls) (r := r) (by omega)
    simp!
    refine told_wp (by omega) ty.1 e1 ?_
    simp! [r3]
    refine lawread_wp (by omega) ty.1 e1 ?_
    simp! [r3, neX_str', decide_eq_true (rfl : shw (toldB (endT ls r)) = shw (toldB (endT ls r)))]
    refine ⟨⟨2 * b + 100, y, _, _, _, _, _, _, _, rfl, ty, by rw [Nat.pow_succ]; omega⟩, P6⟩
  · rintro s h ⟨⟨b, x, s2, s3, s5, s6, s7, s8, s9, rfl, tx, hb⟩, P⟩
    exact kk _ _ ⟨_, _, _, _, _, _, _, _, rfl⟩ P
def g7 : Fc := (none, some 0, -7)
theorem g7_ok {n : Nat} (h : 1 ≤ n) : okF n g7 := ⟨trivial, by show 0 < 3 * n; omega, by decide, by decide, by decide⟩
def line (k : Int) : D := .tup [.str "line", .int k]
theorem eq9 : eqB2 (.lst [line 0, line 0, line 0, line 1, line 41, line 1, line 1, line 0, line 1]) (.lst [line 0, line 0, line 0, line 1, line 41, line 1, line 1, line 0, line 1]) = some true := by decide +kernel
theorem law_ok (ns : List Int) (hl : ns.length ≤ 63) : ∃ hd, m_law [.ro (ns.map .int)] [] = .ok (.bl true) [] hd := by
  refine law_of ?_
  have smF : small (5 : Int) = true := by decide
  simp! [m_law, b_law, st_law_0, st_law_1]
  refine pen_wp hl fun h1 P1 => ?_
  simp! [smF]
  refine Wq.loop (fun i s h => (∃ s2 s3 s4 s5 s6 s7 s8 s9, s = [.val (.ro (ns.map .int)), .val (.ref 0), s2, s3, s4, s5, s6, s7, s8, s9]) ∧ Pen h) ⟨⟨_, _, _, _, _, _, _, _, rfl⟩, P1⟩ ?_ ?_
  · rintro i x s h ex ⟨⟨s2, s3, s4, s5, s6, s7, s8, s9, rfl⟩, P⟩
    obtain ⟨hi, rfl⟩ := rg_at ex
    simp! [lb64A_b]
    refine draw_wp P (by decide) (by decide) fun j h2 j0 j1 P2 => ?_
    obtain ⟨j, rfl⟩ := nat_of j0
    have e1 : (1 + (j : Int)) = ((1 + j : Nat) : Int) := by omega
    simp!
    rw [e1]
    refine any_book_wp (m := 12) P2 (by omega) (by omega) (by decide) fun fs h3 lf ok P3 => ?_
    simp!
    refine draw_wp P3 (by decide) (by decide) fun o h4 o0 o1 P4 => ?_
    by_cases ho : o = 0
    · have i0 : atI [D.int ((1 + j : Nat) : Int), .tup (fs.map fcD)] 0 = some (.int ((1 + j : Nat) : Int)) := at_0
      have i1 : atI [D.int ((1 + j : Nat) : Int), .tup (fs.map fcD)] 1 = some (.tup (fs.map fcD)) := at_1
      have n7 : ∀ H, negD H (.int 7) = some (.int (-7)) := fun _ => rfl
      obtain ⟨gs, hgs⟩ : ∃ gs, gs = List.replicate 41 g7 := ⟨_, rfl⟩
      have lg : gs.length = 41 := by rw [hgs, List.length_replicate]
      have rp : ∀ H, repT H (.tup [.tup [.non, .int 0, .int (-7)]]) (.int 41) = some (.tup (gs.map fcD)) := fun _ => by rw [hgs]; rfl
      have ad : ∀ H, addD H (.tup (fs.map fcD)) (.tup (gs.map fcD)) = some (.tup ((fs ++ gs).map fcD)) := fun H => by
        rw [add_tup (by rw [List.length_map]; omega) (by rw [List.length_map, lg]; decide), List.map_append]
      simp! [eqX_int', decide_eq_true ho, bkD, i0, i1, n7, rp, ad]
      refine draw_wp P4 (by decide) (by decide) fun v h5 v0 v1 P5 => ?_
      obtain ⟨v, rfl⟩ := nat_of v0
      have e2 : (39 + (v : Int)) = ((39 + v : Nat) : Int) := by omega
      have hv : 39 + v ≤ (fs ++ gs).length := by rw [List.length_append, lg]; omega
      have sl : ∀ H, slD H (.tup ((fs ++ gs).map fcD)) none (some ((39 + v : Nat) : Int)) = some (.tup (((fs ++ gs).take (39 + v)).map fcD)) := fun H => by
        show some (D.tup (cut _ none (some ((39 + v : Nat) : Int)))) = _
        rw [cut_to (by rw [List.length_map]; exact hv), List.map_take]
      simp!
      rw [e2]
      simp! [sl]
      refine turns_wp (n := 1 + j) (by omega) (by omega) ((fs ++ gs).take (39 + v)) _ _ _ _ _ _ _ _ _ (fun f hf => ?_) (by rw [List.length_take]; omega) P5 rfl fun s h es P => ⟨es, P⟩
      rcases List.mem_append.mp (List.mem_of_mem_take hf) with z | z
      · exact ok f z
      · rw [hgs] at z
        rw [(List.mem_replicate.mp z).2]
        exact g7_ok (by omega)
    · simp! [eqX_int', decide_eq_false ho]
      refine turns_wp (n := 1 + j) (by omega) (by omega) fs _ _ _ _ _ _ _ _ _ ok (by omega) P4 rfl fun s h es P => ⟨es, P⟩
  · rintro s h ⟨⟨s2, s3, s4, s5, s6, s7, s8, s9, rfl⟩, P⟩
    have l1 : (Str.ofString "ground <= rest 1 + 0\n").length = 21 := by decide +kernel
    have m1 : ∀ H, mulT H (.str "ground <= rest 1 + 0\n") (.int 41) = some (.str (repS (Str.ofString "ground <= rest 1 + 0\n") 41)) := fun H => by
      show (if 2 ≤ (41 : Int) ∧ (Str.ofString "ground <= rest 1 + 0\n").length * ((41 : Int)).toNat ≤ 100000 ∧ 0 < (Str.ofString "ground <= rest 1 + 0\n").length then some (D.str (repS (Str.ofString "ground <= rest 1 + 0\n") ((41 : Int)).toNat)) else none) = _
      rw [l1, if_pos ⟨by decide, by decide, by decide⟩]
      rfl
    have fl := fullT_len
    have a1 : ∀ H, addD H (.str "jobs 2\n") (.str (repS (Str.ofString "ground <= rest 1 + 0\n") 41)) = some (.str fullT) := fun H => by
      rw [add_str (by rw [← len_app]; unfold fullT at fl; omega)]
      rfl
    simp! [st_law_2, m1, a1, st_law_3]
    rw [told_1, y_ok]
    simp!
    rw [told_2, y_ok]
    simp!
    rw [told_3, y_ok]
    simp!
    rw [told_4, y_ok]
    simp!
    rw [told_5, y_ok]
    simp! [show (4 : Nat) ≤ 100000 by decide, show (5 : Nat) ≤ 100000 by decide, st_law_4]
    rw [told_6, y_ok]
    simp!
    rw [told_7, y_ok]
    have n1 : (Str.ofString "1").length = 1 := by decide +kernel
    have m3 : ∀ H, mulT H (.str "1") (.int 5000) = some (.str oneS) := fun H => mul9 (n := 5000) (by decide) (by decide) _ n1
    have ol := one_len
    have l5 : (Str.ofString "jobs ").length = 5 := by decide +kernel
    have l6 : (Str.ofString "jobs 1\nrest 0 <= ground + ").length = 26 := by decide +kernel
    have l7 : (Str.ofString "\n").length = 1 := by decide +kernel
    have k1 : (Str.ofString "jobs " ++ oneS).length = 5005 := by rw [len_app]; omega
    have k2 : (Str.ofString "jobs 1\nrest 0 <= ground + " ++ oneS).length = 5026 := by rw [len_app]; omega
    have b1 : ∀ H, addD H (.str "jobs ") (.str oneS) = some (.str (Str.ofString "jobs " ++ oneS)) := fun H => add_str (by omega)
    have b2 : ∀ H, addD H (.str (Str.ofString "jobs " ++ oneS)) (.str "\n") = some (.str lonA) := fun H => add_str (by omega)
    have b3 : ∀ H, addD H (.str "jobs 1\nrest 0 <= ground + ") (.str oneS) = some (.str (Str.ofString "jobs 1\nrest 0 <= ground + " ++ oneS)) := fun H => add_str (by omega)
    have b4 : ∀ H, addD H (.str (Str.ofString "jobs 1\nrest 0 <= ground + " ++ oneS)) (.str "\n") = some (.str lonB) := fun H => add_str (by omega)
    simp! [st_law_5, m3, st_law_6, b1, b2]
    rw [told_8, y_ok]
    simp! [b3, b4]
    rw [told_9, y_ok]
    simp! [st_law_7, st_law_8]
    have e9 : ∀ H, eqX H (.lst [line 0, line 0, line 0, line 1, line 41, line 1, line 1, line 0, line 1]) (.lst [line 0, line 0, line 0, line 1, line 41, line 1, line 1, line 0, line 1]) = some (.bl true) := fun _ => congrArg (Option.map D.bl) eq9
    unfold line at e9
    simp! [e9]
end Lw
end
theorem PySem.Challenge.cw_twobenches_k64_texts_of_books_holds : PySem.Challenge.rw_twobenches_k64_texts_of_books.Holds :=
  Lw.closes Lw.law_ok
