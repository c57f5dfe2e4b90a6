import PyProof.Rows.All
import Wide.All
import OpenK.AllK
import Wide.FinOn
import PyProof.EqAt
import PyProof.EqKinds
import PyProof.TupleCall
import HandS.ForMost
import HandS.ForExc
import HandS.Lambda
import HandS.HeadHook4
import HandS.ExcInit
import KE.KDictCopyH
import HandS.Style
import HandS.Conv
import HandS.Wide
import HandS.TupAny
import HandS.IsInst
import HandS.Defaults
import HandS.HotCalls
import PyProof.ReprBulk
import PyProof.ReprRoads
import HandS.RaiseMore
import KE.KTupSum
import HandS.Head0
import HandS.Head1
import HandS.Head2
import HandS.HeadEnd
import HandS.HeadHook1
import HandS.HeadHook2
import KE.GoesMore
import KE.KIndexOf
import HandS.ReCall
import HandS.ExcField
import KE.KExcInit
import HandS.Codes
import HandS.ExcIs
import KE.KExcIs
import PyProof.P3In
import PyProof.FactsAll.dict
import HandS.TupMul
import PyProof.NeKinds
import KE.SortData
import HandS.SortInts
import HandS.GenYield
import HandS.GenList
import HandS.GenCall
import KE.SortKeyHeap
import HandS.Nested
import HandS.SortKw
import HandS.ExcValue
import HandS.Iter
import HandS.EndTab
import KE.DataMinMax
import KE.GoesZip
import KE.GoesEnum
import KE.GoesEnumKw
import HandS.DictComp
import PyProof.DictDisplay
import PyProof.Rows.RowBridgeK
import KE.GoesComp
import KE.KAsSuite
import HandS.SetFor
import HandS.Strs
import KE.KStar
import HandS.Star
import HandS.TupLe
import HandS.Text
import PySem.Challenge.RW_twobenches_k65_texts_of_times
set_option Elab.async false
set_option linter.all false
set_option maxRecDepth 100000
set_option maxHeartbeats 4000000
section
namespace Dm
open PySem L2
inductive D where
  | non | bl (b : Bool) | int (i : Int) | str (x : Str) | tup (xs : List D) | lst (xs : List D) | ro (xs : List D) | edt | dtx (x : Str) (i : Int) | ref (i : Nat)
inductive DK where
  | n | i (k : Int) | t (ks : List (Option Int))
  deriving DecidableEq
structure JC where
  q : Str
  params : Arguments
  body : Expr
  scope : Scope
  ns : List Str
  ps : List Str
inductive O where
  | lst (xs : List D)
    | tab (x : Str)
    | dic (ps : List (DK × D))
    | ins (x : Str) (fs : List (Str × D))
    | exn (x : Str) (fs : List (Str × D))
    | clo (L : JC) (cs : List D)
  | dead
abbrev Hd := List O
inductive Sl where
  | no | val (d : D) | own (xs : List D)
abbrev Sd := List Sl
structure C where
  r : List Addr
  n : List Addr
  z : List Addr
def C.out (c : C) (a : Addr) : Prop := a ∉ c.r ∧ a ∉ c.n ∧ a ∉ c.z
def KTup (K : PySem.W.Frag) (a : Addr) (vs : List V) : Prop :=
  ∃ (o : Obj) (its : Array Value) (n : Nat), K.lookup a = some o ∧ o.cls = .type "tuple" ∧
    o.data = .seq its n ∧ its.size ≤ sizeLine ∧ Vals vs its.toList
def KnT (H : Hp) (a : Addr) (vs : List V) : Prop := ∃ o : Obj, H a = some (.frz o (.tup vs)) ∧ o.dict = none
theorem KnT.rd {H : Hp} {a : Addr} {vs : List V} (k : KnT H a vs) : Rd H a (.tup vs) := k.elim fun o z => .inr ⟨o, z.1⟩
def TupAt (K : PySem.W.Frag) (c : C) (H : Hp) (a : Addr) (vs : List V) : Prop := (c.out a ∧ KnT H a vs) ∨ (KTup K a vs ∧ ∀ o, K.lookup a = some o → o.dict = none)
def WL (K : PySem.W.Frag) (a : Addr) (vs : List V) : Prop :=
  ∃ (o : Obj) (its : Array Value) (n : Nat), K.lookup a = some o ∧ o.cls = .type "list" ∧ o.dict = none ∧
    o.data = .seq its n ∧ its.size ≤ sizeLine ∧ Vals vs its.toList
def MP (K : PySem.W.Frag) (c : C) (H : Hp) (a : Addr) (vs : List V) : Prop := (c.out a ∧ Rd H a (.lst vs)) ∨ WL K a vs
mutual
def Rel (K : PySem.W.Frag) (c : C) (H : Hp) : D → V → Prop
  | .non, v => v = .non
  | .bl b, v => v = .bl b
  | .int i, v => v = .int i
  | .str x, v => v = .str x
  | .tup ds, v => ∃ a vs, v = .ref a ∧ TupAt K c H a vs ∧ aK K c H ds vs
  | .lst ds, v => ∃ a vs, v = .ref a ∧ c.out a ∧ H a = some (.lst vs) ∧ aK K c H ds vs
  | .ro ds, v => ∃ a vs, v = .ref a ∧ MP K c H a vs ∧ aK K c H ds vs
  | .edt, v => ∃ a, v = .ref a ∧ c.out a ∧ H a = some (.dK [])
  | .dtx k n, v => ∃ a, v = .ref a ∧ c.out a ∧ H a = some (.dK [(.inr k, .int n)])
  | .ref i, v => ∃ a, v = .ref a ∧ c.r[i]? = some a
def aK (K : PySem.W.Frag) (c : C) (H : Hp) : List D → List V → Prop
  | [], vs => vs = []
  | d :: ds, vs => ∃ v r, vs = v :: r ∧ Rel K c H d v ∧ aK K c H ds r
end
def tK (x : Str) : Str × Option Str := match x.cps.toList.span (fun c => c != 46) with
  | (_, []) => (x, none)
  | (a, _ :: b) => (⟨a.toArray⟩, some ⟨b.toArray⟩)
def Wt (x : Str) : Str := x ++ ".<locals>." ++ "<lambda>"
def WK (c : C) (H : Hp) (q : Str) (ps : Array Value) : Prop := TriplesOk ps.toList ∧ ∀ (pos : Pos) (cv : Value), codeAmong pos ps.toList = some cv → ∃ k, cv = .ref k ∧ c.out k ∧ H k = some (LamX.CodeO k q)
def opN : Option Int → NestedKey
  | none => .none
  | some k => .num k
def opD : Option Int → D
  | none => .non
  | some k => .int k
def DK.nk : DK → NestedKey
  | .n => .none
  | .i k => .num k
  | .t ks => .tup (ks.map opN)
def DK.d : DK → D
  | .n => .non
  | .i k => .int k
  | .t ks => .tup (ks.map opD)
def dX (a : Addr) (kvs : List (DK × V × V)) : HO := .ext fun h => kvs.length ≤ sizeLine ∧ (a == sysModules) = false ∧ ∃ (o : Obj) (es : Array DictEntry) (ep : Nat) (w : World),
  h.get? a = some o ∧ o.ExactDict ∧ o.data = .dict es ep ∧ Paired (fun (p : DK × V × V) (e : DictEntry) => e.hash = p.1.nk.hash w ∧ RelV p.2.1 e.key ∧ RelV p.2.2 e.val) kvs es.toList ∧ (kvs.map (·.1)).Nodup ∧ ep = kvs.length
def cA (K : PySem.W.Frag) (c : C) (H : Hp) : List (DK × D) → List (DK × V × V) → Prop
  | [], vs => vs = []
  | p :: ps, vs => ∃ v r, vs = v :: r ∧ p.1 = v.1 ∧ Rel K c H p.1.d v.2.1 ∧ Rel K c H p.2 v.2.2 ∧ cA K c H ps r
def lX (K : PySem.W.Frag) (c : C) (H : Hp) : List (Str × D) → List (Str × V) → Prop
  | [], vs => vs = []
  | d :: ds, vs => ∃ v r, vs = v :: r ∧ d.1 = v.1 ∧ Rel K c H d.2 v.2 ∧ lX K c H ds r
def VP (f : Addr) (q : Str) (params : Arguments) (body : Expr) (scope : Scope) (cl : List (Str × Addr)) (k : Addr) : HO :=
  .ext fun h => ∃ (pm ctv : Value), h.get? f = some (PySem.W.kla_obj "<lambda>" q params body scope cl pm k ctv)
def Gn (K : PySem.W.Frag) (c : C) (H : Hp) (f : Addr) (cl : List (Str × Addr)) : List Str → List D → Prop
  | [], ds => ds = []
  | y :: ys, ds => ∃ d r z ob u v, ds = d :: r ∧ cl.lookup y = some z ∧ c.out z ∧ H z = some (.frz ob (.own f)) ∧ ob.data = .cell (some u) ∧ RelV v u ∧ Rel K c H d v ∧ Gn K c H f cl ys r
def RelO (K : PySem.W.Frag) (c : C) (H : Hp) (a : Addr) : O → Prop
  | .clo L cs => ∃ cl k fo, H a = some (.frz fo (VP a L.q L.params L.body L.scope cl k)) ∧ c.out k ∧ H k = some (LamX.CodeO k L.q) ∧ (∀ y z, cl.lookup y = some z → y ∈ L.ns) ∧ (∀ x y z, cl.lookup x = some z → cl.lookup y = some z → x = y) ∧ Gn K c H a cl L.ns cs
  | .dead => ∃ u, H a = some u
  | .dic ps => ∃ kvs, H a = some (dX a kvs) ∧ cA K c H ps kvs
  | .ins x fs => ∃ dx vs, H a = some (.ins (He.ga K x) dx vs) ∧ c.out dx ∧ H dx = some (.own a) ∧ lX K c H fs vs
  | .exn x fs => ∃ d, H a = some (exo a (He.ga K x) d) ∧ (fs ≠ [] → ∃ dd vs, d = some dd ∧ c.out dd ∧ H dd = some (exd dd vs) ∧ lX K c H fs vs)
  | .lst ds => ∃ vs, H a = some (.lst vs) ∧ aK K c H ds vs
  | .tab x => a = (He.cT K (tK x)).2 ∧ ∃ ps, H a = some (.tbl ps) ∧ WK c H (Wt x) ps
structure bO (K : PySem.W.Frag) (c : C) (H : Hp) (h : Hd) : Prop where
  len : c.r.length = h.length
  nd : c.r.Nodup
  rn : ∀ a ∈ c.r, a ∉ c.n ∧ a ∉ c.z
  hid : ∀ a, a ∈ c.n ∨ a ∈ c.z → ∃ u, H a = some u
  obj : ∀ (i : Nat) (o : O) (a : Addr), h[i]? = some o → c.r[i]? = some a → RelO K c H a o
def Cv (K : PySem.W.Frag) (c : C) (H : Hp) : Sl → Option V → Prop
  | .no, _ => True
  | .val d, o => ∃ v, o = some v ∧ Rel K c H d v
  | .own xs, o => ∃ p vs, o = some (.ref p) ∧ p ∈ c.z ∧ p ∉ c.n ∧ H p = some (.lst vs) ∧ aK K c H xs vs
structure bZ (K : PySem.W.Frag) (c : C) (H : Hp) (sd : Sd) (s : L2.St) : Prop where
  len : sd.length = s.length
  sl : ∀ (i : Nat) (x : Sl) (o : Option V), sd[i]? = some x → s[i]? = some o → Cv K c H x o
  inj : ∀ (i j : Nat) (xs ys : List D) (p : Addr), sd[i]? = some (.own xs) → sd[j]? = some (.own ys) → s[i]? = some (some (.ref p)) → s[j]? = some (some (.ref p)) → i = j
structure Ext (c : C) (H : Hp) (c' : C) (H' : Hp) : Prop where
  r : ∃ l, c'.r = c.r ++ l ∧ ∀ a ∈ l, H a = none
  n : c'.n = c.n
  z : ∀ a ∈ c'.z, a ∈ c.z ∨ H a = none
  old : ∀ a o, a ∉ c.r → a ∉ c.z → H a = some o → H' a = some o
  dom : ∀ a o, H a = some o → ∃ o', H' a = some o'
theorem kZ {H H' : Hp} (dom : ∀ a o, H a = some o → ∃ o', H' a = some o') {a : Addr} (e : H' a = none) : H a = none := by
  cases q : H a with
  | none => rfl
  | some o =>
    obtain ⟨o', z⟩ := dom a o q
    rw [z] at e
    cases e
theorem Ext.trans {c c1 c2 : C} {H H1 H2 : Hp} (a : Ext c H c1 H1) (b : Ext c1 H1 c2 H2) : Ext c H c2 H2 := by
  obtain ⟨l1, e1, f1⟩ := a.r
  obtain ⟨l2, e2, f2⟩ := b.r
  refine ⟨⟨l1 ++ l2, by rw [e2, e1, List.append_assoc], fun x hx => ?_⟩, b.n.trans a.n, fun x hx => ?_, fun x o hr hz e => ?_, fun x o e => ?_⟩
  · rcases List.mem_append.mp hx with h | h
    · exact f1 x h
    · exact kZ a.dom (f2 x h)
  · rcases b.z x hx with h | h
    · exact a.z x h
    · exact .inr (kZ a.dom h)
  · refine b.old x o ?_ ?_ (a.old x o hr hz e)
    · rw [e1]
      intro q
      rcases List.mem_append.mp q with q | q
      · exact hr q
      · rw [f1 x q] at e; cases e
    · intro q
      rcases a.z x q with q | q
      · exact hz q
      · rw [q] at e; cases e
  · obtain ⟨o1, e1⟩ := a.dom x o e
    exact b.dom x o1 e1
theorem Ext.keep {c c' : C} {H H' : Hp} (x : Ext c H c' H') {a : Addr} {o : HO} (h : c.out a) (e : H a = some o) : c'.out a ∧ H' a = some o := by
  obtain ⟨l, e1, f1⟩ := x.r
  refine ⟨⟨?_, ?_, ?_⟩, x.old a o h.1 h.2.2 e⟩
  · rw [e1]
    intro q
    rcases List.mem_append.mp q with q | q
    · exact h.1 q
    · rw [f1 a q] at e; cases e
  · rw [x.n]; exact h.2.1
  · intro q
    rcases x.z a q with q | q
    · exact h.2.2 q
    · rw [q] at e; cases e
theorem Ext.rd {c c' : C} {H H' : Hp} (x : Ext c H c' H') {a : Addr} {o : HO} (h : c.out a) (e : Rd H a o) : c'.out a ∧ Rd H' a o := by
  rcases e with e | ⟨u, e⟩
  · exact ⟨(x.keep h e).1, .inl (x.keep h e).2⟩
  · exact ⟨(x.keep h e).1, .inr ⟨u, (x.keep h e).2⟩⟩
section
variable {K : PySem.W.Frag} {c c' : C} {H H' : Hp}
structure Car (c : C) (H : Hp) (c' : C) (H' : Hp) : Prop where
  out : ∀ a o, c.out a → H a = some o → c'.out a ∧ H' a = some o
  ref : ∀ (i : Nat) a, c.r[i]? = some a → c'.r[i]? = some a
theorem Car.rd (x : Car c H c' H') {a : Addr} {o : HO} (h : c.out a) (e : Rd H a o) : c'.out a ∧ Rd H' a o := by
  rcases e with e | ⟨u, e⟩
  · exact ⟨(x.out a _ h e).1, .inl (x.out a _ h e).2⟩
  · exact ⟨(x.out a _ h e).1, .inr ⟨u, (x.out a _ h e).2⟩⟩
theorem Car.kn (x : Car c H c' H') {a : Addr} {vs : List V} (h : c.out a) (k : KnT H a vs) : c'.out a ∧ KnT H' a vs := by
  obtain ⟨o, e, d⟩ := k
  exact ⟨(x.out a _ h e).1, o, (x.out a _ h e).2, d⟩
theorem Ext.car (x : Ext c H c' H') : Car c H c' H' := ⟨fun a o h e => x.keep h e, fun i a e => by
  obtain ⟨l, e1, _⟩ := x.r
  rw [e1, List.getElem?_append_left (List.getElem?_eq_some_iff.mp e).1]
  exact e⟩
mutual
theorem Rel.car (x : Car c H c' H') : ∀ {d : D} {v : V}, Rel K c H d v → Rel K c' H' d v
  | .non, v, h => h
  | .bl b, v, h => h
  | .int i, v, h => h
  | .str s, v, h => h
  | .tup ds, v, h => by
    obtain ⟨a, vs, e, t, r⟩ := (show ∃ a vs, v = .ref a ∧ TupAt K c H a vs ∧ aK K c H ds vs from h)
    refine ⟨a, vs, e, ?_, aK.car x r⟩
    rcases t with ⟨t1, t2⟩ | t
    · exact .inl (x.kn t1 t2)
    · exact .inr t
  | .lst ds, v, h => by
    obtain ⟨a, vs, e, t, t2, r⟩ := (show ∃ a vs, v = .ref a ∧ c.out a ∧ H a = some (.lst vs) ∧ aK K c H ds vs from h)
    exact ⟨a, vs, e, (x.out a _ t t2).1, (x.out a _ t t2).2, aK.car x r⟩
  | .ro ds, v, h => by
    obtain ⟨a, vs, e, t, r⟩ := (show ∃ a vs, v = .ref a ∧ MP K c H a vs ∧ aK K c H ds vs from h)
    refine ⟨a, vs, e, ?_, aK.car x r⟩
    rcases t with ⟨t1, t2⟩ | t
    · exact .inl (x.rd t1 t2)
    · exact .inr t
  | .edt, v, h => by
    obtain ⟨a, e, t, t2⟩ := (show ∃ a, v = .ref a ∧ c.out a ∧ H a = some (.dK []) from h)
    exact ⟨a, e, (x.out a _ t t2).1, (x.out a _ t t2).2⟩
  | .dtx k n, v, h => by
    obtain ⟨a, e, t, t2⟩ := (show ∃ a, v = .ref a ∧ c.out a ∧ H a = some (.dK [(.inr k, .int n)]) from h)
    exact ⟨a, e, (x.out a _ t t2).1, (x.out a _ t t2).2⟩
  | .ref i, v, h => by
    obtain ⟨a, e, t⟩ := (show ∃ a, v = .ref a ∧ c.r[i]? = some a from h)
    exact ⟨a, e, x.ref i a t⟩
theorem aK.car (x : Car c H c' H') : ∀ {ds : List D} {vs : List V}, aK K c H ds vs → aK K c' H' ds vs
  | [], vs, h => h
  | d :: ds, vs, h => by
    obtain ⟨v, r, e, h1, h2⟩ := (show ∃ v r, vs = v :: r ∧ Rel K c H d v ∧ aK K c H ds r from h)
    exact ⟨v, r, e, Rel.car x h1, aK.car x h2⟩
end
theorem lX.car (x : Car c H c' H') : ∀ {fs : List (Str × D)} {vs : List (Str × V)}, lX K c H fs vs → lX K c' H' fs vs
  | [], vs, h => h
  | f :: fs, vs, h => by
    obtain ⟨v, r, e, e1, h1, h2⟩ := (show ∃ v r, vs = v :: r ∧ f.1 = v.1 ∧ Rel K c H f.2 v.2 ∧ lX K c H fs r from h)
    exact ⟨v, r, e, e1, h1.car x, lX.car x h2⟩
theorem cA.car (x : Car c H c' H') : ∀ {fs : List (DK × D)} {vs : List (DK × V × V)}, cA K c H fs vs → cA K c' H' fs vs
  | [], vs, h => h
  | f :: fs, vs, h => by
    obtain ⟨v, r, e, e1, h1, h2, h3⟩ := (show ∃ v r, vs = v :: r ∧ f.1 = v.1 ∧ Rel K c H f.1.d v.2.1 ∧ Rel K c H f.2 v.2.2 ∧ cA K c H fs r from h)
    exact ⟨v, r, e, e1, h1.car x, h2.car x, cA.car x h3⟩
theorem Gn.car (x : Car c H c' H') {f : Addr} {cl : List (Str × Addr)} : ∀ {ys : List Str} {ds : List D}, Gn K c H f cl ys ds → Gn K c' H' f cl ys ds
  | [], ds, h => h
  | y :: ys, ds, h => by
    obtain ⟨d, r, z, ob, u, v, e, e1, h1, h2, h3, h4, h5, h6⟩ := h
    exact ⟨d, r, z, ob, u, v, e, e1, (x.out z _ h1 h2).1, (x.out z _ h1 h2).2, h3, h4, h5.car x, Gn.car x h6⟩
theorem RelO.car (x : Car c H c' H') {a : Addr} (hk : ∀ u, H a = some u → H' a = some u) : ∀ {o : O}, RelO K c H a o → RelO K c' H' a o
  | .lst ds, h => by
    obtain ⟨vs, e, r⟩ := h
    exact ⟨vs, hk _ e, r.car x⟩
  | .dic ps, h => by
    obtain ⟨kvs, e, r⟩ := h
    exact ⟨kvs, hk _ e, r.car x⟩
  | .ins y fs, h => by
    obtain ⟨dx, vs, e, o, e2, r⟩ := h
    exact ⟨dx, vs, hk _ e, (x.out dx _ o e2).1, (x.out dx _ o e2).2, r.car x⟩
  | .exn y fs, h => by
    obtain ⟨d, e, f⟩ := h
    refine ⟨d, hk _ e, fun ne => ?_⟩
    obtain ⟨dd, vs, e1, o, e2, r⟩ := f ne
    exact ⟨dd, vs, e1, (x.out dd _ o e2).1, (x.out dd _ o e2).2, r.car x⟩
  | .clo L cs, h => by
    obtain ⟨cl, k, fo, h1, h2, h3, h4, h5, h6⟩ := h
    exact ⟨cl, k, fo, hk _ h1, (x.out k _ h2 h3).1, (x.out k _ h2 h3).2, h4, h5, h6.car x⟩
  | .dead, h => by
    obtain ⟨u, h⟩ := h
    exact ⟨u, hk _ h⟩
  | .tab y, h => by
    obtain ⟨e, ps, e1, t, f⟩ := h
    refine ⟨e, ps, hk _ e1, t, fun pos cv hc => ?_⟩
    obtain ⟨k, g1, g2, g3⟩ := f pos cv hc
    exact ⟨k, g1, x.out k _ g2 g3⟩
theorem aK.len : ∀ {ds : List D} {vs : List V}, aK K c H ds vs → ds.length = vs.length
  | [], vs, h => by cases h; rfl
  | d :: ds, vs, h => by
    obtain ⟨v, r, e, h1, h2⟩ := (show ∃ v r, vs = v :: r ∧ Rel K c H d v ∧ aK K c H ds r from h)
    subst e
    simp [aK.len h2]
theorem aK.get : ∀ {ds : List D} {vs : List V} {i : Nat} {d : D}, aK K c H ds vs → ds[i]? = some d → ∃ v, vs[i]? = some v ∧ Rel K c H d v
  | [], vs, i, d, h, e => by simp at e
  | d0 :: ds, vs, i, d, h, e => by
    obtain ⟨v, r, e1, h1, h2⟩ := (show ∃ v r, vs = v :: r ∧ Rel K c H d0 v ∧ aK K c H ds r from h)
    subst e1
    cases i with
    | zero => simp at e; subst e; exact ⟨v, rfl, h1⟩
    | succ i => exact aK.get (i := i) h2 (by simpa using e)
theorem aK.take : ∀ {ds : List D} {vs : List V} (n : Nat), aK K c H ds vs → aK K c H (ds.take n) (vs.take n)
  | [], vs, n, h => by cases h; simp [aK]
  | d :: ds, vs, 0, h => by simp [aK]
  | d :: ds, vs, n + 1, h => by
    obtain ⟨v, r, e, h1, h2⟩ := (show ∃ v r, vs = v :: r ∧ Rel K c H d v ∧ aK K c H ds r from h)
    subst e
    exact ⟨v, r.take n, rfl, h1, aK.take n h2⟩
theorem aK.drop : ∀ {ds : List D} {vs : List V} (n : Nat), aK K c H ds vs → aK K c H (ds.drop n) (vs.drop n)
  | [], vs, n, h => by cases h; simp [aK]
  | d :: ds, vs, 0, h => h
  | d :: ds, vs, n + 1, h => by
    obtain ⟨v, r, e, h1, h2⟩ := (show ∃ v r, vs = v :: r ∧ Rel K c H d v ∧ aK K c H ds r from h)
    subst e
    exact aK.drop n h2
theorem aK.set {d : D} {v : V} (h0 : Rel K c H d v) : ∀ {ds : List D} {vs : List V} (i : Nat), aK K c H ds vs → aK K c H (ds.set i d) (vs.set i v)
  | [], vs, i, h => by cases h; simp [aK]
  | d0 :: ds, vs, 0, h => by
    obtain ⟨v0, r, e, h1, h2⟩ := (show ∃ v r, vs = v :: r ∧ Rel K c H d0 v ∧ aK K c H ds r from h)
    subst e
    exact ⟨v, r, rfl, h0, h2⟩
  | d0 :: ds, vs, i + 1, h => by
    obtain ⟨v0, r, e, h1, h2⟩ := (show ∃ v r, vs = v :: r ∧ Rel K c H d0 v ∧ aK K c H ds r from h)
    subst e
    exact ⟨v0, r.set i v, rfl, h1, aK.set h0 i h2⟩
theorem aK.one {d : D} {v : V} (h : Rel K c H d v) : aK K c H [d] [v] := ⟨v, [], rfl, h, rfl⟩
end
end Dm
end
section
namespace Dm
open PySem L2
inductive Res (A : Type) where
  | ok (a : A) (s : Sd) (h : Hd)
  | exc (x : Str) (fs : List (Str × D)) (s : Sd) (h : Hd)
  | bad
section
variable {K : PySem.W.Frag} {c c' : C} {H H' : Hp} {h : Hd} {sd : Sd} {s : L2.St} {o : HO}
theorem Cv.car (x : Car c H c' H') (own : ∀ q u, q ∈ c.z → q ∉ c.n → H q = some u → q ∈ c'.z ∧ q ∉ c'.n ∧ H' q = some u) : ∀ {y : Sl} {o : Option V}, Cv K c H y o → Cv K c' H' y o
  | .no, o, h => trivial
  | .val d, o, ⟨v, e, r⟩ => ⟨v, e, r.car x⟩
  | .own xs, o, ⟨q, vs, e, h1, h2, h3, r⟩ => by
    obtain ⟨g1, g2, g3⟩ := own q _ h1 h2 h3
    exact ⟨q, vs, e, g1, g2, g3, r.car x⟩
theorem bZ.car (x : Car c H c' H') (own : ∀ q u, q ∈ c.z → q ∉ c.n → H q = some u → q ∈ c'.z ∧ q ∉ c'.n ∧ H' q = some u) (r : bZ K c H sd s) : bZ K c' H' sd s :=
  ⟨r.len, fun i y o e1 e2 => (r.sl i y o e1 e2).car x own, r.inj⟩
theorem bO.there (x : bO K c H h) {a : Addr} (e : a ∈ c.r) : ∃ u, H a = some u := by
  obtain ⟨i, hi, e⟩ := List.getElem_of_mem e
  have e1 : c.r[i]? = some a := by rw [List.getElem?_eq_getElem hi, e]
  have hi2 : i < h.length := by rw [← x.len]; exact hi
  have q := x.obj i h[i] a (List.getElem?_eq_getElem hi2) e1
  cases q2 : h[i] with
  | lst ds =>
    rw [q2] at q
    obtain ⟨vs, e3, _⟩ := q
    exact ⟨_, e3⟩
  | tab x =>
    rw [q2] at q
    obtain ⟨_, ps, e3, _⟩ := q
    exact ⟨_, e3⟩
  | dic ps =>
    rw [q2] at q
    obtain ⟨kvs, e3, _⟩ := q
    exact ⟨_, e3⟩
  | ins x fs =>
    rw [q2] at q
    obtain ⟨dx, vs, e3, _⟩ := q
    exact ⟨_, e3⟩
  | exn x fs =>
    rw [q2] at q
    obtain ⟨dx, e3, _⟩ := q
    exact ⟨_, e3⟩
  | clo L cs =>
    rw [q2] at q
    obtain ⟨cl, k, fo, e3, _⟩ := q
    exact ⟨_, e3⟩
  | dead =>
    rw [q2] at q
    exact q
theorem bZ.set {i : Nat} {d : D} {v : V} (x : bZ K c H sd s) (r : Rel K c H d v) : bZ K c H (sd.set i (.val d)) (s.set i (some v)) := by
  refine ⟨by simp [x.len], fun j y o e1 e2 => ?_, fun j k as bs q e1 e2 f1 f2 => ?_⟩
  · by_cases hj : j = i
    · subst hj
      have hl : j < sd.length := by have := (List.getElem?_eq_some_iff.mp e1).1; simpa using this
      rw [List.getElem?_set_self hl] at e1
      rw [List.getElem?_set_self (by rw [← x.len]; exact hl)] at e2
      cases e1; cases e2
      exact ⟨v, rfl, r⟩
    · rw [List.getElem?_set_ne (Ne.symm hj)] at e1 e2
      exact x.sl j y o e1 e2
  · have ne : ∀ (j : Nat) (as : List D), (sd.set i (.val d))[j]? = some (.own as) → j ≠ i := fun j as e z => by
      subst z
      have hl : j < sd.length := by have := (List.getElem?_eq_some_iff.mp e).1; simpa using this
      rw [List.getElem?_set_self hl] at e
      cases e
    have n1 := ne j as e1
    have n2 := ne k bs e2
    rw [List.getElem?_set_ne (Ne.symm n1)] at e1 f1
    rw [List.getElem?_set_ne (Ne.symm n2)] at e2 f2
    exact x.inj j k as bs q e1 e2 f1 f2
theorem bZ.none {i : Nat} (x : bZ K c H sd s) (o : Option V) : bZ K c H (sd.set i .no) (s.set i o) := by
  refine ⟨by simp [x.len], fun j y u e1 e2 => ?_, fun j k as bs q e1 e2 f1 f2 => ?_⟩
  · by_cases hj : j = i
    · subst hj
      have hl : j < sd.length := by have := (List.getElem?_eq_some_iff.mp e1).1; simpa using this
      rw [List.getElem?_set_self hl] at e1
      cases e1
      trivial
    · rw [List.getElem?_set_ne (Ne.symm hj)] at e1 e2
      exact x.sl j y u e1 e2
  · have ne : ∀ (j : Nat) (as : List D), (sd.set i .no)[j]? = some (.own as) → j ≠ i := fun j as e z => by
      subst z
      have hl : j < sd.length := by have := (List.getElem?_eq_some_iff.mp e).1; simpa using this
      rw [List.getElem?_set_self hl] at e
      cases e
    have n1 := ne j as e1
    have n2 := ne k bs e2
    rw [List.getElem?_set_ne (Ne.symm n1)] at e1 f1
    rw [List.getElem?_set_ne (Ne.symm n2)] at e2 f2
    exact x.inj j k as bs q e1 e2 f1 f2
end
end Dm
end
section
namespace Dm
open PySem L2
def ExR (K : PySem.W.Frag) (mg : Str → Option Value) (c : C) (H : Hp) (x : Str) (fs : List (Str × D)) (cls : Value) (dx : Option Addr) : Prop :=
  ∃ T, mg x = some (.ref T) ∧ cls = .ref T ∧ (fs ≠ [] → ∃ a vs, dx = some a ∧ c.out a ∧ H a = some (.xd vs) ∧ lX K c H fs vs)
section
variable {W : WX} {K : PySem.W.Frag}
variable {e : Expr}
theorem bO.out {c : C} {H : Hp} {h : Hd} (x : bO K c H h) {p : Addr} (e : H p = none) : c.out p := ⟨fun q => (by
    obtain ⟨u, z⟩ := x.there q
    rw [e] at z; cases z), fun q => (by
    obtain ⟨u, z⟩ := x.hid p (.inl q)
    rw [e] at z; cases z), fun q => (by
    obtain ⟨u, z⟩ := x.hid p (.inr q)
    rw [e] at z; cases z)⟩
end
end Dm
end
section
namespace Dm
open PySem L2
section
theorem TupAt.sq {K : PySem.W.Frag} {c : C} {H : Hp} {p : Addr} {vs : List V} (t : TupAt K c H p vs) : SqT K H p vs := t.elim (fun z => .inl z.2.rd) fun z => .inr z.1
theorem MP.sq {K : PySem.W.Frag} {c : C} {H : Hp} {p : Addr} {vs : List V} (t : MP K c H p vs) : SqL K H p vs := t.elim (fun z => .inl z.2) fun z => .inr z
end
def Res.only {B : Type} (m : Res Unit) (f : Sd → Hd → Res B) : Res B := match m with
  | .ok _ s h => f s h
  | _ => .bad
end Dm
end
section
namespace Dm
open PySem L2
end Dm
end
section
namespace Dm
open PySem L2
def cW (s : Sd) : List Nat → Sd
  | [] => s
  | v :: vs => (cW s vs).set v .no
def zp : Option Sl → Sl
  | some (.val d) => .val d
  | _ => .no
def iJ (s0 s : Sd) : List Nat → Sd
  | [] => s
  | v :: vs => (iJ s0 s vs).set v (zp s0[v]?)
section
variable {K : PySem.W.Frag} {c c0 c1 : C} {H H0 H1 : Hp} {sd s0 : Sd} {s : L2.St} {p : Addr} {o : HO} {h : Hd}
theorem bZ.wipe (r : bZ K c H sd s) : ∀ vs, bZ K c H (cW sd vs) (L2.wipe s vs)
  | [] => r
  | v :: vs => by
    unfold cW L2.wipe
    exact (bZ.wipe r vs).none Option.none
theorem o8 (s0 s : Sd) : ∀ vs, (iJ s0 s vs).length = s.length
  | [] => rfl
  | v :: vs => by unfold iJ; rw [List.length_set, o8 s0 s vs]
theorem wB {s0 s : Sd} {i : Nat} : ∀ {vs : List Nat}, i ∉ vs → (iJ s0 s vs)[i]? = s[i]?
  | [], _ => rfl
  | v :: vs, h => by
    unfold iJ
    simp only [List.mem_cons, not_or] at h
    rw [List.getElem?_set_ne (Ne.symm h.1), wB h.2]
theorem back_in {s0 s : Sd} {i : Nat} : ∀ {vs : List Nat}, i ∈ vs → i < s.length → (iJ s0 s vs)[i]? = some (zp s0[i]?)
  | v :: vs, hi, hl => by
    unfold iJ
    by_cases e : v = i
    · subst e
      rw [List.getElem?_set_self (by rw [o8]; exact hl)]
    · rw [List.getElem?_set_ne e]
      exact back_in (by rcases List.mem_cons.mp hi with z | z; exact absurd z.symm e; exact z) hl
theorem bZ.back {vs : List Nat} (r1 : bZ K c H sd (L2.wipe s vs)) (r0 : bZ K c0 H0 s0 s) (x : Car c0 H0 c H) : bZ K c H (iJ s0 sd vs) s := by
  have l1 : sd.length = s.length := by rw [r1.len, wipe_length]
  have own : ∀ (j : Nat) as, (iJ s0 sd vs)[j]? = some (.own as) → j ∉ vs ∧ sd[j]? = some (.own as) := fun j as e => by
    by_cases hj : j ∈ vs
    · have hl : j < sd.length := by have := (List.getElem?_eq_some_iff.mp e).1; rw [o8] at this; exact this
      rw [back_in hj hl] at e
      cases q : s0[j]? with
      | none => rw [q] at e; cases e
      | some y => rw [q] at e; cases y <;> cases e
    · rw [wB hj] at e
      exact ⟨hj, e⟩
  refine ⟨by rw [o8]; exact l1, fun i y o e1 e2 => ?_, fun i j as bs q e1 e2 f1 f2 => ?_⟩
  · by_cases hi : i ∈ vs
    · have hl : i < sd.length := by have := (List.getElem?_eq_some_iff.mp e1).1; rw [o8] at this; exact this
      rw [back_in hi hl] at e1
      cases q : s0[i]? with
      | none => rw [q] at e1; cases e1; trivial
      | some z =>
        rw [q] at e1
        cases z with
        | no => cases e1; trivial
        | own as => cases e1; trivial
        | val d =>
          cases e1
          obtain ⟨v, e3, r3⟩ := r0.sl i _ _ q e2
          exact ⟨v, e3, r3.car x⟩
    · rw [wB hi] at e1
      exact r1.sl i y o e1 (by rw [wipe_out hi]; exact e2)
  · obtain ⟨n1, g1⟩ := own i as e1
    obtain ⟨n2, g2⟩ := own j bs e2
    exact r1.inj i j as bs q g1 g2 (by rw [wipe_out n1]; exact f1) (by rw [wipe_out n2]; exact f2)
structure rP (p : Addr) (c : C) (H : Hp) (c' : C) (H' : Hp) : Prop where
  r : ∃ l, c'.r = c.r ++ l ∧ ∀ a ∈ l, H a = none
  n : c'.n = p :: c.n
  z : ∀ a ∈ c'.z, a ∈ c.z ∨ H a = none
  old : ∀ a o, a ∉ c.r → a ∉ c.z → H a = some o → H' a = some o
  dom : ∀ a o, H a = some o → ∃ o', H' a = some o'
theorem rP.car (hp : H p = none) (a : rP p c H c1 H1) : Car c H c1 H1 := ⟨fun x u h e => by
    obtain ⟨l1, e1, f1⟩ := a.r
    refine ⟨⟨?_, ?_, ?_⟩, a.old x u h.1 h.2.2 e⟩
    · rw [e1]
      intro q
      rcases List.mem_append.mp q with q | q
      · exact h.1 q
      · rw [f1 x q] at e; cases e
    · rw [a.n]
      intro q
      rcases List.mem_cons.mp q with q | q
      · rw [q, hp] at e; cases e
      · exact h.2.1 q
    · intro q
      rcases a.z x q with q | q
      · exact h.2.2 q
      · (rw [q] at e; exact (nomatch e)), fun i x e => by
    obtain ⟨l1, e1, f1⟩ := a.r
    rw [e1, List.getElem?_append_left (List.getElem?_eq_some_iff.mp e).1]
    exact e⟩
end
abbrev W0 : WX := fun _ _ _ _ => False
end Dm
end
section
namespace Dm
open PySem PySem.Spec PyProof.Rows L2
variable {gp : Prop}
abbrev MF := List D → Hd → Res D
def VN (K : PySem.W.Frag) (mg : Str → Option Value) (c : C) (H : Hp) (Q : VK) (E : XK) : Res D → Prop
  | .ok d _ h => ∀ v c' H', Ext c H c' H' → c'.z = [] → bO K c' H' h → Rel K c' H' d v → Q v H'
  | .exc x fs _ h => ∀ cls dx c' H', Ext c H c' H' → c'.z = [] → bO K c' H' h → ExR K mg c' H' x fs cls dx → E cls dx H'
  | .bad => False
def spM (K : PySem.W.Frag) (mg : Str → Option Value) (n : Nat) (mf : MF) : Sp := fun vs H Q E => ∃ c h ds, c.z = [] ∧ bO K c H h ∧ aK K c H ds vs ∧ ds.length = n ∧ VN K mg c H Q E (mf ds h)
section
variable {K : PySem.W.Frag} {mg : Str → Option Value} {c c' : C} {H H' : Hp} {h : Hd}
def C.sub (c : C) : C := ⟨c.r, c.n ++ c.z, []⟩
theorem Ko {a : Addr} : (C.sub c).out a ↔ c.out a := by
  unfold C.sub C.out
  simp [List.mem_append, not_or, and_assoc]
theorem Car.sub : Car c H (C.sub c) H := ⟨fun a u h e => ⟨Ko.mpr h, e⟩, fun _ _ e => e⟩
theorem bO.sub (r : bO K c H h) : bO K (C.sub c) H h := ⟨r.len, r.nd, fun a ha => ⟨fun q => (List.mem_append.mp q).elim (r.rn a ha).1 (r.rn a ha).2, fun q => nomatch q⟩, fun a ha => by
    rcases ha with q | q
    · exact r.hid a (List.mem_append.mp q)
    · exact (nomatch q), fun i o a e1 e2 => (r.obj i o a e1 e2).car Car.sub fun _ q => q⟩
def C.up (c' c : C) : C := ⟨c'.r, c.n, c.z⟩
theorem ExR.car (x : Car c H c' H') {y : Str} {fs : List (Str × D)} {cls : Value} {dx : Option Addr} (e : ExR K mg c H y fs cls dx) : ExR K mg c' H' y fs cls dx := by
  obtain ⟨T, e1, e2, e3⟩ := e
  refine ⟨T, e1, e2, fun n => ?_⟩
  obtain ⟨a, vs, f1, f2, f3, f4⟩ := e3 n
  exact ⟨a, vs, f1, (x.out a _ f2 f3).1, (x.out a _ f2 f3).2, f4.car x⟩
end
theorem Dk {X : Cx} : L2N.Takes X W0 := fun _ _ x => by
  obtain ⟨_, _, _, _, _, _, _, _, _, _, _, _, _, _, _, _, z⟩ := x
  exact z.elim
structure Cq (gp : Prop) (X : Cx) (W : WX) (k : Nat) : Prop where
  tk : L2N.Takes X W
  gu : gp → X.A.guards = some []
  rm : Room k X.A
  cm : X.calm = true
  nd : X.N.Nodup
structure FOk (gp : Prop) (P : Program) (w : World) (K : PySem.W.Frag) (mg : Str → Option Value) (base : Heap) (k : Nat) (f : Addr) (fd : FuncData) (ps : List Str) (mf : MF) : Prop where
  run : ∀ (A : Around) (outer : List Env) (s : Shared) (H : Hp) (args : Args) (us : List Value) (vs : List V) (Q : VK) (E : XK), Room k A → (gp → A.guards = some []) →
    Env0 P w K mg base A outer s H → BindsTo s fd args (ps.zip us) → Vals vs us → spM K mg ps.length mf vs H Q E →
    codeAny (model P w) A (.call (.ref f) args) (CR (L2N.CX P w) outer P w H s Q E) s
structure Def (gp : Prop) (P : Program) (w : World) (K : PySem.W.Frag) (mg : Str → Option Value) (base : Heap) (x : Str) (ps : List Str) (k : Nat) (mf : MF) : Prop where
  ex : ∃ (f : Addr) (fd : FuncData), mg x = some (.ref f) ∧ PySem.W.keepIn K (.ref f) = true ∧ Binds K fd ps [] ∧ FOk gp P w K mg base k f fd ps mf
  at_ : ∃ (f : Addr) (fd : FuncData) (oc : Value) (od : Option Addr) (osl : Array (Option Value)), mg x = some (.ref f) ∧ PySem.W.keepIn K (.ref f) = true ∧ K.lookup f = some ⟨oc, od, .func fd, osl⟩ ∧ FOk gp P w K mg base k f fd ps mf
theorem FOk.mono {P : Program} {w : World} {K : PySem.W.Frag} {mg : Str → Option Value} {base : Heap} {f : Addr} {fd : FuncData} {ps : List Str} {j k : Nat} {mf : MF} (d : FOk gp P w K mg base j f fd ps mf) (h : j ≤ k) : FOk gp P w K mg base k f fd ps mf :=
  ⟨fun A outer s H args us vs Q E hr => d.run A outer s H args us vs Q E (hr.mono h)⟩
theorem Def.mono {P : Program} {w : World} {K : PySem.W.Frag} {mg : Str → Option Value} {base : Heap} {x : Str} {ps : List Str} {j k : Nat} {mf : MF} (d : Def gp P w K mg base x ps j mf) (h : j ≤ k) : Def gp P w K mg base x ps k mf := by
  obtain ⟨f, fd, h1, h2, h3, h4⟩ := d.ex
  obtain ⟨f', fd', oc, od, osl, g1, g2, g3, g4⟩ := d.at_
  exact ⟨⟨f, fd, h1, h2, h3, h4.mono h⟩, ⟨f', fd', oc, od, osl, g1, g2, g3, g4.mono h⟩⟩
end Dm
end
section
namespace Dm
open PySem PySem.Spec PyProof.Rows L2
@[irreducible] def big : Int := 10 ^ 500
def bnd (i : Int) : Bool := decide (-big < i) && decide (i < big)
theorem FT {i : Int} : bnd i = true ↔ -big < i ∧ i < big := by
  unfold bnd
  rw [Bool.and_eq_true, decide_eq_true_iff, decide_eq_true_iff]
theorem big_lt : (10 : Int) ^ 400 < big := by
  unfold big
  decide +kernel
theorem uH {i : Int} (h : bnd i = true) : i.natAbs.log2 < 1900 := by
  have h := FT.mp h
  have e : big < 2 ^ 1900 := by
    unfold big
    decide +kernel
  have b : i.natAbs < 2 ^ 1900 := by
    have q : ((2 : Int) ^ 1900) = ((2 ^ 1900 : Nat) : Int) := by decide +kernel
    rw [q] at e
    generalize (2 ^ 1900 : Nat) = N at e ⊢
    omega
  exact PySem.Flt.log2_lt_of (by decide) b
mutual
def D.py : D → Option PyData
  | .non => some .none
  | .bl b => some (.bool b)
  | .int i => some (.int i)
  | .str x => some (.str x)
  | .tup xs => (D.pyL xs).map .tuple
  | .lst xs => (D.pyL xs).map .list
  | .ro xs => (D.pyL xs).map .list
  | .edt => none
  | .dtx _ _ => none
  | .ref _ => none
def D.pyL : List D → Option (List PyData)
  | [] => some []
  | d :: ds => match D.py d, D.pyL ds with
    | some e, some es => some (e :: es)
    | _, _ => none
end
section
variable {K : PySem.W.Frag} {c : C} {H : Hp}
mutual
theorem Rel.dp : ∀ {d : D} {v : V} {e : PyData}, Rel K c H d v → d.py = some e → Dp K H v e
  | .non, v, e, r, h => by cases h; cases r; exact .non
  | .bl b, v, e, r, h => by cases h; cases r; exact .bl b
  | .int i, v, e, r, h => by cases h; cases r; exact .int i
  | .str x, v, e, r, h => by cases h; cases r; exact .str x
  | .tup xs, v, e, r, h => by
    obtain ⟨a, vs, e1, t, rl⟩ := r
    subst e1
    cases q : D.pyL xs with
    | none => simp [D.py, q] at h
    | some es =>
      simp [D.py, q] at h
      subst h
      exact .tup t.sq (aK.dp rl q)
  | .lst xs, v, e, r, h => by
    obtain ⟨a, vs, e1, _, t, rl⟩ := r
    subst e1
    cases q : D.pyL xs with
    | none => simp [D.py, q] at h
    | some es =>
      simp [D.py, q] at h
      subst h
      exact .lst (SqL.of t) (aK.dp rl q)
  | .ro xs, v, e, r, h => by
    obtain ⟨a, vs, e1, t, rl⟩ := r
    subst e1
    cases q : D.pyL xs with
    | none => simp [D.py, q] at h
    | some es =>
      simp [D.py, q] at h
      subst h
      exact .lst t.sq (aK.dp rl q)
  | .edt, v, e, r, h => by simp [D.py] at h
  | .dtx _ _, v, e, r, h => by simp [D.py] at h
  | .ref i, v, e, r, h => by simp [D.py] at h
theorem aK.dp : ∀ {ds : List D} {vs : List V} {es : List PyData}, aK K c H ds vs → D.pyL ds = some es → DpAll K H vs es
  | [], vs, es, r, h => by cases r; simp [D.pyL] at h; subst h; exact .nil
  | d :: ds, vs, es, r, h => by
    obtain ⟨v, vr, e, h1, h2⟩ := (show ∃ v r, vs = v :: r ∧ Rel K c H d v ∧ aK K c H ds r from r)
    subst e
    cases q1 : D.py d with
    | none => simp [D.pyL, q1] at h
    | some x =>
      cases q2 : D.pyL ds with
      | none => simp [D.pyL, q1, q2] at h
      | some xs =>
        simp [D.pyL, q1, q2] at h
        subst h
        exact .cons (Rel.dp h1 q1) (aK.dp h2 q2)
end
end
def view (h : Hd) : D → D
  | .ref i => match h[i]? with
    | some (.lst xs) => .lst xs
    | _ => .ref i
  | d => d
section
variable {K : PySem.W.Frag} {c : C} {H : Hp}
theorem aK.at {ds : List D} {vs : List V} {i : Int} {d : D} (r : aK K c H ds vs) (e : atI ds i = some d) : ∃ v, atI vs i = some v ∧ Rel K c H d v := by
  unfold atI at e ⊢
  rw [← r.len]
  cases q : ixN ds.length i with
  | none => rw [q] at e; cases e
  | some j =>
    rw [q] at e
    exact r.get e
end
end Dm
end
section
namespace Dm
open PySem PySem.Spec PyProof.Rows L2
end Dm
end
section
namespace Dm
open PySem PySem.Spec PyProof.Rows L2
end Dm
end
section
namespace Dm
open PySem PySem.Spec PyProof.Rows L2
def ownAt (s : Sd) (i : Nat) : Option (List D) := match s[i]? with
  | some (.own xs) => some xs
  | _ => none
theorem sV {s : Sd} {i : Nat} {xs : List D} : ownAt s i = some xs ↔ s[i]? = some (.own xs) := by
  unfold ownAt
  constructor
  · intro h
    split at h
    · rename_i e; cases h; exact e
    · cases h
  · intro h
    rw [h]
section
variable {K : PySem.W.Frag} {c : C} {H : Hp} {sd : Sd} {s : L2.St} {i : Nat} {xs : List D}
theorem bZ.own (r : bZ K c H sd s) (e : ownAt sd i = some xs) : ∃ p vs, s[i]? = some (some (.ref p)) ∧ p ∈ c.z ∧ p ∉ c.n ∧ H p = some (.lst vs) ∧ aK K c H xs vs := by
  rw [sV] at e
  have hi : i < s.length := by rw [← r.len]; exact (List.getElem?_eq_some_iff.mp e).1
  obtain ⟨p, vs, e2, h1, h2, h3, h4⟩ := r.sl i _ _ e (List.getElem?_eq_getElem hi)
  exact ⟨p, vs, by rw [List.getElem?_eq_getElem hi, e2], h1, h2, h3, h4⟩
end
end Dm
end
section
namespace Dm
open PySem PySem.Spec PyProof.Rows L2
def QX (sd : Sd) (s : L2.St) (p : Addr) : Prop := ∀ (j : Nat) as, sd[j]? = some (.own as) → s[j]? ≠ some (some (.ref p))
def Apart (p : Addr) (xs : List Sl) (vs : List V) : Prop := ∀ (j : Nat) as, xs[j]? = some (.own as) → vs[j]? ≠ some (.ref p)
def RelM (K : PySem.W.Frag) (c : C) (H : Hp) (sd : Sd) (s : L2.St) : List Sl → List V → Prop
  | [], vs => vs = []
  | x :: xs, vs => ∃ v r, vs = v :: r ∧ Cv K c H x (some v) ∧ (∀ ds p, x = .own ds → v = .ref p → QX sd s p ∧ Apart p xs r) ∧ RelM K c H sd s xs r
section
variable {K : PySem.W.Frag} {c c' : C} {H H' : Hp} {sd : Sd} {s : L2.St}
theorem RelM.len : ∀ {xs : List Sl} {vs : List V}, RelM K c H sd s xs vs → xs.length = vs.length
  | [], vs, h => by cases h; rfl
  | x :: xs, vs, ⟨v, r, e, _, _, h⟩ => by subst e; simp [RelM.len h]
theorem RelM.car (x : Car c H c' H') (own : ∀ q u, q ∈ c.z → q ∉ c.n → H q = some u → q ∈ c'.z ∧ q ∉ c'.n ∧ H' q = some u) : ∀ {xs : List Sl} {vs : List V}, RelM K c H sd s xs vs → RelM K c' H' sd s xs vs
  | [], vs, h => h
  | y :: xs, vs, ⟨v, r, e, h1, h2, h3⟩ => ⟨v, r, e, h1.car x own, h2, RelM.car x own h3⟩
end
end Dm
end
section
namespace Dm
open PySem L2
theorem Bq {i : Int} (h1 : -(10 ^ 400) ≤ i) (h2 : i ≤ 10 ^ 400) : bnd i = true := by
  have := big_lt
  exact FT.mpr ⟨by omega, by omega⟩
end Dm
end
section
namespace Dm
open PySem PySem.Spec PyProof.Rows L2
end Dm
end
section
namespace Dm
open PySem L2
section
theorem Car.trans {c c1 c2 : C} {H H1 H2 : Hp} (a : Car c H c1 H1) (b : Car c1 H1 c2 H2) : Car c H c2 H2 := ⟨fun x o h e => b.out x o (a.out x o h e).1 (a.out x o h e).2, fun i x e => b.ref i x (a.ref i x e)⟩
end
end Dm
end
section
namespace Dm
open PySem PySem.Spec PyProof.Rows L2
end Dm
end
section
namespace Dm
open PySem PySem.Spec PyProof.Rows L2
end Dm
end
section
namespace Dm
open PySem PySem.Spec PyProof.Rows L2
end Dm
end
section
namespace Dm
open PySem PySem.Spec PyProof.Rows L2
open PySem.Builtin.ObjectAttr
section
open PySem.Builtin PySem.Builtin.ObjectAttr PySem.HandSPX
structure Mv (l : List Value) : Prop where
  pass : ∀ self : Value, refuseLoop self "__setattr__" l = pure ()
  ne : l.isEmpty = false
  ob : l.contains (.type "object") = true
end
structure CP (K : PySem.W.Frag) (C : Addr) (B : String) : Prop where
  cls : ∃ nm q N bs bm sn sub ab col dd k0 k1 k2 k3 k5 bmB, ExcBaseFacts B (B ++ ".__new__") (B ++ ".__init__") bmB ∧ K.lookup C = some (excClassObj nm q C N bs bm true sn sub ab col dd k0 k1 k2 k3 k5 (B ++ ".__new__")) ∧
    (∀ X : String, bm.contains (.type X) = bmB.contains (.type X)) ∧ Mv (.ref C :: bm)
  sa : PySem.W.findIn K (.ref C) "__setattr__" = some (some (.builtin "object.__setattr__"))
  exC : PySem.W.subIn K (.ref C) (.type "BaseException") = some true
  tyC : PySem.W.typeIn K (.ref C) = some (.type "type")
  kC : PySem.W.keepIn K (.ref C) = true
section
variable {X : Cx} {σ : L2.St} {C : Addr} {B : String}
theorem CP.data (T : CP X.K C B) : ∃ cd, PySem.W.clsIn X.K C = some cd ∧ Mv cd.mro ∧ cd.hasDict = true := by
  obtain ⟨nm, q, N, bs, bm, sn, sub, ab, col, dd, k0, k1, k2, k3, k5, bmB, F, hC, hT, hm⟩ := T.cls
  refine ⟨{ name := nm, bases := bs, mro := .ref C :: bm, ns := N, qualname := q, hasDict := true, slotNames := sn, subclasses := sub, abstract := ab, collection := col, hasDel := false }, ?_, hm, rfl⟩
  unfold PySem.W.clsIn
  rw [hC] <;> rfl
end
def yu (B : String) : List Value := [.type B, .type "Exception", .type "BaseException", .type "object"]
def Kv (K : PySem.W.Frag) (C : Addr) (B : String) : Bool := (match K.lookup C with
  | some ⟨.type "type", _, .cls cd, sl⟩ => (match sl.toList with
    | [_, _, _, _, some (.builtin n), _] => cd.mro == .ref C :: yu B && n == B ++ ".__new__" && !cd.hasDel && cd.hasDict
    | _ => false)
  | _ => false) && (decide (PySem.W.findIn K (.ref C) "__setattr__" = some (some (.builtin "object.__setattr__"))) && (decide (PySem.W.subIn K (.ref C) (.type "BaseException") = some true) && (decide (PySem.W.typeIn K (.ref C) = some (.type "type")) && PySem.W.keepIn K (.ref C))))
end Dm
end
section
namespace Dm
open PySem PySem.Spec PyProof.Rows L2
structure JF (K : PySem.W.Frag) (mg : Str → Option Value) (x : Str) (xs : List Str) : Prop where
  self : ∀ C, mg x = some (.ref C) → PySem.W.exmOne K (.ref C) (.ref C) = some true
  other : ∀ y ∈ xs, ∀ B C, mg y = some (.ref B) → mg x = some (.ref C) → PySem.W.exmOne K (.ref B) (.ref C) = some false
end Dm
end
section
namespace Dm
open PySem PySem.Spec PyProof.Rows L2
abbrev frM (g : Addr → Option Obj) (n : Nat) : PySem.W.Frag := He.frT g (sysModules :: He.asD g n)
structure Iv (fa : List He.Fa) (fn : List He.DefD) (tf : List He.Defn) (ex : PySem.W.Frag → Bool) (h : Heap) (K : PySem.W.Frag) : Prop where
  d : He.SaysD fa fn K
  more : ex K = true
  hd : ∀ p ∈ tf, PySem.W.codeHdIn K (He.cT K p).1 (He.cT K p).2 = true
  out : ∀ p ∈ tf, K.lookup (He.cT K p).2 = none
  emp : ∀ p ∈ tf, h.get? (He.cT K p).2 = some { cls := .none, data := .fields #[] }
abbrev AlM : Type := He.AlD × Bool
def Rb (n : Nat) (fa : List He.Fa) (fn : List He.DefD) (tf : List He.Defn) (ex : PySem.W.Frag → Bool) (g : Addr → Option Obj) : AlM := (He.obsD fa fn (frM g n), ex (frM g n) && He.tabsB g tf (frM g n))
theorem GJ {n : Nat} {fa : List He.Fa} {fn : List He.DefD} {tf : List He.Defn} {ex : PySem.W.Frag → Bool} {h : Heap} (e : Rb n fa fn tf ex h.get? = (He.valD fn, true)) : Iv fa fn tf ex h (frM h.get? n) := by
  injection e with e1 e2
  obtain ⟨m1, m2⟩ := Bool.and_eq_true_iff.mp e2
  have row : ∀ p ∈ tf, PySem.W.codeHdIn (frM h.get? n) (He.cT (frM h.get? n) p).1 (He.cT (frM h.get? n) p).2 = true ∧ ∃ o, h.get? (He.cT (frM h.get? n) p).2 = some o ∧ He.emptyTab o = true := fun p hp => by
    obtain ⟨r1, r2⟩ := Bool.and_eq_true_iff.mp (List.all_eq_true.mp m2 p hp)
    cases z : h.get? (He.cT (frM h.get? n) p).2 with
    | none => rw [z] at r2; cases r2
    | some o => rw [z] at r2; exact ⟨r1, o, rfl, r2⟩
  refine ⟨e1, m1, fun p hp => (row p hp).1, fun p hp => ?_, fun p hp => ?_⟩
  · obtain ⟨_, o, z1, z2⟩ := row p hp
    exact He.frT_none z1 z2
  · obtain ⟨_, o, z1, z2⟩ := row p hp
    rw [z1, He.emptyTab_eq z2]
def hkM (n : Nat) (fa : List He.Fa) (fn : List He.DefD) (tf : List He.Defn) (ex : PySem.W.Frag → Bool) : PySem.W.Hook where
  α := AlM
  obs := fun s => Rb n fa fn tf ex s.heap.get?
  val := fun _ => (He.valD fn, true)
  says := fun _ h => ∃ K : PySem.W.Frag, K.In h ∧ Iv fa fn tf ex h K
  of := fun _ _ e => ⟨_, He.frT_in, GJ e⟩
  keeps := fun _ _ _ ⟨K, a, b⟩ k => ⟨K, PySem.W.Frag.In.keeps a k, b.d, b.more, b.hd, b.out, fun p hp => k _ _ (b.emp p hp)⟩
theorem Kw {n : Nat} {fa : List He.Fa} {fn : List He.DefD} {tf : List He.Defn} {ex : PySem.W.Frag → Bool} {g : Addr → Option Obj} {s : Shared} (h : ∀ a, g a = s.heap.get? a) : Rb n fa fn tf ex g = (hkM n fa fn tf ex).obs s := by
  rw [show g = s.heap.get? from funext h]
  rfl
def smB (K : PySem.W.Frag) : Bool := He.dictB K sysModules
def U7 : Stmt → List Stmt
  | .ClassDef (body := bs) .. => bs
  | _ => []
def VJ (K : PySem.W.Frag) (C : Addr) : Bool := decide (PySem.W.findIn K (.ref C) "__class__" = some (some (.builtin "object.__class__"))) && (decide (PySem.W.specialIn K (.builtin "object.__class__") "__get__" = some (some (.builtin "getset_descriptor.__get__"))) && (decide (PySem.W.takesIn K (.builtin "object.__class__") = some true) && (decide (PySem.W.mroIn K C (.type "object") = some true))))
def Tc (K : PySem.W.Frag) (x f : Str) (B : String) : Bool := (Kv K (He.ga K x) B && (!decide (B = "ValueError") || decide (PySem.W.kitOne K (.ref (He.ga K x)) (.type "ValueError") = some true))) && (xfB K (He.ga K x) && (decide (PySem.W.findIn K (.ref (He.ga K x)) f = some none) && (decide (PySem.W.findIn K (.ref (He.ga K x)) "__init__" = some (some (.ref (He.ma K (He.ga K x) "__init__")))) && (decide (PySem.W.typeIn K (.ref (He.ma K (He.ga K x) "__init__")) = some (.type "function")) && VJ K (He.ga K x)))))
def QH (K : PySem.W.Frag) (x : Str) (xs : List Str) : Bool := decide (PySem.W.exmOne K (.ref (He.ga K x)) (.ref (He.ga K x)) = some true) && xs.all fun y => decide (PySem.W.exmOne K (.ref (He.ga K y)) (.ref (He.ga K x)) = some false)
end Dm
end
section
namespace Dm
open PySem PySem.Spec PyProof.Rows L2
mutual
def D.pyx : D → Option PyData
  | .non => some .none
  | .bl b => some (.bool b)
  | .int i => some (.int i)
  | .str x => some (.str x)
  | .tup xs => (D.yO xs).map .tuple
  | .lst xs => (D.yO xs).map .list
  | .ro xs => (D.yO xs).map .list
  | .edt => some (.dict [])
  | .dtx k n => some (.dict [(.str k, .int n)])
  | .ref _ => none
def D.yO : List D → Option (List PyData)
  | [] => some []
  | d :: ds => match D.pyx d, D.yO ds with
    | some e, some es => some (e :: es)
    | _, _ => none
end
def Hg (e : PyData) : Bool := e.showable && e.leavesShort 2000 && decide (e.bulk ≤ 8000) && decide (e.depth ≤ 50)
def qY (_ : Hd) : List D → Option D
  | [a] => match a.pyx with
    | some e => if Hg e then some (.str e.shown) else none
    | none => none
  | _ => none
end Dm
end
section
namespace Dm
open PySem PySem.Spec PyProof.Rows L2
end Dm
end
section
namespace Dm
open PySem L2
abbrev Ex := Str → List (Str × D) → Sd → Hd → Prop
@[reducible] def Tg {α β : Sort _} (_ : α) (_ : β) : Type := Unit
def Wq {A : Type} (Q : A → Sd → Hd → Prop) (E : Ex) (_ : Tg Q E) (r : Res A) : Prop := match r with
  | .ok a s h => Q a s h
  | .exc x fs s h => E x fs s h
  | .bad => False
abbrev nX : Ex := fun _ _ _ _ => False
section
variable {A : Type} {Q : A → Sd → Hd → Prop} {E : Ex} {s : Sd} {h : Hd} {r : Res A}
theorem Wq.of {a : A} (e : r = .ok a s h) (q : Q a s h) : Wq Q E () r := by rw [e]; exact q
theorem Wq.ex (w : Wq Q nX () r) : ∃ a s h, r = .ok a s h ∧ Q a s h := by
  cases r with
  | ok a s h => exact ⟨a, s, h, rfl, w⟩
  | exc x fs s h => exact w.elim
  | bad => exact w.elim
end
end Dm
end
section
namespace Dm
open PySem L2
def BR (x : Str) : Bool := decide (x.length ≤ 100) && x.cps.toList.all fun c => decide (c < 16 ^ 8)
mutual
def Fd (m : Int) : Nat → Nat → D → Prop
  | _, _, .non => True
  | _, _, .bl _ => True
  | _, _, .int i => -m ≤ i ∧ i ≤ m
  | b, _, .str x => BR x = true ∧ x.length ≤ b
  | b, k, .tup xs => ∃ k', k = k' + 1 ∧ FdL m b k' xs
  | b, k, .lst xs => ∃ k', k = k' + 1 ∧ FdL m b k' xs
  | b, k, .ro xs => ∃ k', k = k' + 1 ∧ FdL m b k' xs
  | _, k, .edt => 1 ≤ k
  | b, k, .dtx x i => BR x = true ∧ x.length + 2 ≤ b ∧ (-m ≤ i ∧ i ≤ m) ∧ 1 ≤ k
  | _, _, .ref _ => False
def FdL (m : Int) : Nat → Nat → List D → Prop
  | _, _, [] => True
  | b, k, x :: xs => ∃ b1 b2, b1 + 1 + b2 ≤ b ∧ Fd m b1 k x ∧ FdL m b2 k xs
end
section
variable {m m' : Int} {b b' k k' : Nat}
mutual
theorem Fd.mono (hm : m ≤ m') : ∀ {d : D} {b b' k k' : Nat}, b ≤ b' → k ≤ k' → Fd m b k d → Fd m' b' k' d
  | .non, _, _, _, _, _, _, _ => trivial
  | .bl _, _, _, _, _, _, _, _ => trivial
  | .int i, _, _, _, _, _, _, h => ⟨by have := h.1; omega, by have := h.2; omega⟩
  | .str x, _, _, _, _, hb, _, h => ⟨h.1, Nat.le_trans h.2 hb⟩
  | .tup xs, b, b', k, k', hb, hk, h => by
    obtain ⟨j, e, h⟩ := h
    exact ⟨k' - 1, by omega, FdL.mono hm hb (by omega) h⟩
  | .lst xs, b, b', k, k', hb, hk, h => by
    obtain ⟨j, e, h⟩ := h
    exact ⟨k' - 1, by omega, FdL.mono hm hb (by omega) h⟩
  | .ro xs, b, b', k, k', hb, hk, h => by
    obtain ⟨j, e, h⟩ := h
    exact ⟨k' - 1, by omega, FdL.mono hm hb (by omega) h⟩
  | .edt, _, _, _, _, _, hk, h => Nat.le_trans h hk
  | .dtx x i, _, _, _, _, hb, hk, h => ⟨h.1, Nat.le_trans h.2.1 hb, ⟨by have := h.2.2.1.1; omega, by have := h.2.2.1.2; omega⟩, Nat.le_trans h.2.2.2 hk⟩
  | .ref _, _, _, _, _, _, _, h => h.elim
theorem FdL.mono (hm : m ≤ m') : ∀ {xs : List D} {b b' k k' : Nat}, b ≤ b' → k ≤ k' → FdL m b k xs → FdL m' b' k' xs
  | [], _, _, _, _, _, _, _ => trivial
  | x :: xs, b, b', k, k', hb, hk, h => by
    obtain ⟨b1, b2, e, h1, h2⟩ := h
    exact ⟨b1, b2, by omega, Fd.mono hm (Nat.le_refl _) hk h1, FdL.mono hm (Nat.le_refl _) hk h2⟩
end
mutual
theorem Fd.py : ∀ {d : D} {b k : Nat}, m ≤ 10 ^ 400 → Fd m b k d → ∃ e, d.pyx = some e ∧ e.showable = true ∧ e.leavesShort 2000 = true ∧ e.bulk ≤ b ∧ e.depth ≤ k
  | .non, _, _, _, _ => ⟨.none, rfl, rfl, rfl, Nat.zero_le _, Nat.zero_le _⟩
  | .bl x, _, _, _, _ => ⟨.bool x, rfl, rfl, rfl, Nat.zero_le _, Nat.zero_le _⟩
  | .int i, _, _, hm, h => by
    have hl := uH (i := i) (Bq (by have := h.1; omega) (by have := h.2; omega))
    refine ⟨.int i, rfl, ?_, ?_, Nat.zero_le _, Nat.zero_le _⟩
    · simp only [PyData.showable]
      exact decide_eq_true (by omega)
    · simp only [PyData.leavesShort, PyData.shown_int]
      have := PyProof.Rows.int_text_len_1921 (i := i) (by omega)
      exact decide_eq_true (by omega)
  | .str x, b, _, _, h => by
    obtain ⟨h1, h2⟩ := h
    unfold BR at h1
    rw [Bool.and_eq_true] at h1
    exact ⟨.str x, rfl, rfl, by simpa [PyData.leavesShort] using h1.2, by simp only [PyData.bulk]; exact h2, Nat.zero_le _⟩
  | .tup xs, b, k, hm, h => by
    obtain ⟨j, e, h⟩ := h
    obtain ⟨es, g1, g2, g3, g4, g5⟩ := FdL.py hm h
    exact ⟨.tuple es, by simp [D.pyx, g1], by simpa [PyData.showable] using g2, by simpa [PyData.leavesShort] using g3, by simpa [PyData.bulk] using g4, by simp only [PyData.depth]; omega⟩
  | .lst xs, b, k, hm, h => by
    obtain ⟨j, e, h⟩ := h
    obtain ⟨es, g1, g2, g3, g4, g5⟩ := FdL.py hm h
    exact ⟨.list es, by simp [D.pyx, g1], by simpa [PyData.showable] using g2, by simpa [PyData.leavesShort] using g3, by simpa [PyData.bulk] using g4, by simp only [PyData.depth]; omega⟩
  | .ro xs, b, k, hm, h => by
    obtain ⟨j, e, h⟩ := h
    obtain ⟨es, g1, g2, g3, g4, g5⟩ := FdL.py hm h
    exact ⟨.list es, by simp [D.pyx, g1], by simpa [PyData.showable] using g2, by simpa [PyData.leavesShort] using g3, by simpa [PyData.bulk] using g4, by simp only [PyData.depth]; omega⟩
  | .edt, b, k, _, h => ⟨.dict [], rfl, rfl, rfl, Nat.zero_le _, h⟩
  | .dtx x i, b, k, hm, h => by
    obtain ⟨h1, h2, h3, h4⟩ := h
    unfold BR at h1
    rw [Bool.and_eq_true] at h1
    have hl := uH (i := i) (Bq (by have := h3.1; omega) (by have := h3.2; omega))
    have := PyProof.Rows.int_text_len_1921 (i := i) (by omega)
    refine ⟨.dict [(.str x, .int i)], rfl, ?_, ?_, ?_, ?_⟩
    · have e : PyData.showable (.dict [(.str x, .int i)]) = (true && decide (i.natAbs.log2 < 1920) && true) := rfl
      rw [e, decide_eq_true (by omega)]
      rfl
    · simp only [PyData.leavesShort, PyData.leavesShortKv, PyData.shown_int, Bool.and_true, Bool.and_eq_true, decide_eq_true_eq]
      exact ⟨by simpa using h1.2, by omega⟩
    · have e : PyData.bulk (.dict [(.str x, .int i)]) = x.length + 0 + 2 + 0 := rfl
      omega
    · have e : PyData.depth (.dict [(.str x, .int i)]) = 1 := rfl
      omega
  | .ref _, _, _, _, h => h.elim
theorem FdL.py : ∀ {xs : List D} {b k : Nat}, m ≤ 10 ^ 400 → FdL m b k xs → ∃ es, D.yO xs = some es ∧ PyData.showableAll es = true ∧ PyData.leavesShortAll 2000 es = true ∧ PyData.bulkAll es ≤ b ∧ PyData.depthAll es ≤ k
  | [], _, _, _, _ => ⟨[], rfl, rfl, rfl, Nat.zero_le _, Nat.zero_le _⟩
  | x :: xs, b, k, hm, h => by
    obtain ⟨b1, b2, e, h1, h2⟩ := h
    obtain ⟨d, a1, a2, a3, a4, a5⟩ := Fd.py hm h1
    obtain ⟨ds, g1, g2, g3, g4, g5⟩ := FdL.py hm h2
    exact ⟨d :: ds, by simp [D.yO, a1, g1], by simp [PyData.showableAll, a2, g2], by simp [PyData.leavesShortAll, a3, g3], by simp only [PyData.bulkAll]; omega, by simp only [PyData.depthAll]; omega⟩
end
def shw (d : D) : Str := ((d.pyx).getD .none).shown
theorem Fd.repr {d : D} {h : Hd} (hd : Fd m 8000 50 d) (hm : m ≤ 10 ^ 400) : qY h [d] = some (.str (shw d)) := by
  obtain ⟨e, h1, h2, h3, h4, h5⟩ := Fd.py hm hd
  have hn : Hg e = true := by simp [Hg, h2, h3, h4, h5]
  simp [qY, shw, h1, hn]
theorem FdL.mem : ∀ {xs : List D} {b k : Nat} {x : D}, FdL m b k xs → x ∈ xs → Fd m b k x
  | [], _, _, _, _, h => nomatch h
  | y :: ys, b, k, x, h, hx => by
    obtain ⟨b1, b2, e, h1, h2⟩ := h
    rcases List.mem_cons.mp hx with rfl | hx
    · exact Fd.mono (Int.le_refl m) (by omega) (Nat.le_refl _) h1
    · exact Fd.mono (Int.le_refl m) (by omega) (Nat.le_refl _) (FdL.mem h2 hx)
theorem FdL.len : ∀ {xs : List D} {b k : Nat}, FdL m b k xs → xs.length ≤ b
  | [], _, _, _ => Nat.zero_le _
  | y :: ys, b, k, h => by
    obtain ⟨b1, b2, e, h1, h2⟩ := h
    have := FdL.len h2
    simp only [List.length_cons]
    omega
theorem FdL.sub {xs ys : List D} (p : xs.Sublist ys) : ∀ {b k : Nat}, FdL m b k ys → FdL m b k xs := by
  induction p with
  | slnil => exact fun h => h
  | cons x p ih =>
    intro b k h
    obtain ⟨b1, b2, e, h1, h2⟩ := h
    exact FdL.mono (Int.le_refl m) (by omega) (Nat.le_refl _) (ih h2)
  | cons_cons x p ih =>
    intro b k h
    obtain ⟨b1, b2, e, h1, h2⟩ := h
    exact ⟨b1, b2, e, h1, ih h2⟩
theorem FdL.split : ∀ {xs : List D} {b k : Nat} {i : Nat} {x : D}, FdL m b k xs → xs[i]? = some x → ∃ b1 b2, b1 + 1 + b2 ≤ b ∧ Fd m b1 k x ∧ FdL m b2 k (xs.take i ++ xs.drop (i + 1))
  | [], _, _, _, _, _, e => by simp at e
  | y :: ys, b, k, 0, x, h, e => by
    obtain ⟨b1, b2, e1, h1, h2⟩ := h
    simp at e
    subst e
    exact ⟨b1, b2, e1, h1, by simpa using h2⟩
  | y :: ys, b, k, i + 1, x, h, e => by
    obtain ⟨b1, b2, e1, h1, h2⟩ := h
    obtain ⟨c1, c2, e2, g1, g2⟩ := FdL.split (i := i) h2 (by simpa using e)
    exact ⟨c1, b1 + 1 + c2, by omega, g1, b1, c2, Nat.le_refl _, h1, by simpa using g2⟩
theorem FdL.one {x : D} {b k : Nat} (h : Fd m b k x) : FdL m (b + 1) k [x] := ⟨b, 0, Nat.le_refl _, h, trivial⟩
end
mutual
def szD : D → Nat
  | .str x => x.length
  | .dtx x _ => x.length + 2
  | .tup xs => J5 xs
  | .lst xs => J5 xs
  | .ro xs => J5 xs
  | _ => 0
def J5 : List D → Nat
  | [] => 0
  | x :: xs => szD x + 1 + J5 xs
end
mutual
def dpD : D → Nat
  | .tup xs => MN xs + 1
  | .lst xs => MN xs + 1
  | .ro xs => MN xs + 1
  | .edt => 1
  | .dtx _ _ => 1
  | _ => 0
def MN : List D → Nat
  | [] => 0
  | x :: xs => max (dpD x) (MN xs)
end
mutual
def Jq (m : Int) : D → Bool
  | .int i => decide (-m ≤ i) && decide (i ≤ m)
  | .dtx x i => BR x && (decide (-m ≤ i) && decide (i ≤ m))
  | .str x => BR x
  | .tup xs => Cm m xs
  | .lst xs => Cm m xs
  | .ro xs => Cm m xs
  | .ref _ => false
  | _ => true
def Cm (m : Int) : List D → Bool
  | [] => true
  | x :: xs => Jq m x && Cm m xs
end
section
variable {m : Int}
mutual
theorem Fd.of : ∀ {d : D} {b k : Nat}, Jq m d = true → szD d ≤ b → dpD d ≤ k → Fd m b k d
  | .non, _, _, _, _, _ => trivial
  | .bl _, _, _, _, _, _ => trivial
  | .int i, _, _, h, _, _ => by
    simp only [Jq, Bool.and_eq_true, decide_eq_true_eq] at h
    exact h
  | .str x, _, _, h, hb, _ => ⟨h, by simpa [szD] using hb⟩
  | .tup xs, b, k, h, hb, hk => ⟨k - 1, by simp only [dpD] at hk; omega, FdL.of (by simpa [Jq] using h) (by simpa [szD] using hb) (by simp only [dpD] at hk; omega)⟩
  | .lst xs, b, k, h, hb, hk => ⟨k - 1, by simp only [dpD] at hk; omega, FdL.of (by simpa [Jq] using h) (by simpa [szD] using hb) (by simp only [dpD] at hk; omega)⟩
  | .ro xs, b, k, h, hb, hk => ⟨k - 1, by simp only [dpD] at hk; omega, FdL.of (by simpa [Jq] using h) (by simpa [szD] using hb) (by simp only [dpD] at hk; omega)⟩
  | .edt, _, _, _, _, hk => by simp only [dpD] at hk; exact hk
  | .dtx x i, _, _, h, hb, hk => by
    simp only [Jq, Bool.and_eq_true, decide_eq_true_eq] at h
    simp only [szD] at hb
    simp only [dpD] at hk
    exact ⟨h.1, hb, h.2, hk⟩
  | .ref _, _, _, h, _, _ => by simp [Jq] at h
theorem FdL.of : ∀ {xs : List D} {b k : Nat}, Cm m xs = true → J5 xs ≤ b → MN xs ≤ k → FdL m b k xs
  | [], _, _, _, _, _ => trivial
  | x :: xs, b, k, h, hb, hk => by
    simp only [Cm, Bool.and_eq_true] at h
    simp only [J5] at hb
    simp only [MN] at hk
    exact ⟨szD x, J5 xs, hb, Fd.of h.1 (Nat.le_refl _) (by omega), FdL.of h.2 (Nat.le_refl _) (by omega)⟩
end
end
end Dm
end
section
namespace Dm
open PySem PySem.Spec PyProof.Rows L2
end Dm
end
section
namespace Dm
open PySem PySem.Spec PyProof.Rows L2
end Dm
end
section
namespace Dm
open PySem PySem.Spec PyProof.Rows L2 LamX
structure VR (sc scope : Scope) (p : Str) : Prop where
  kind : scope.kind = .function
  co : scope.isCoroutine = false
  gen : scope.isGenerator = false
  par : scope.names.lookup p = some .local
  noC : ∀ y ∈ scope.names, y.2 ≠ .cell
  onl : ∀ y, scope.names.lookup y = some .local → y = p
  free : ∀ y ∈ scope.names, y.2 = .free → sc.names.lookup y.1 = some .cell ∨ sc.names.lookup y.1 = some .free
theorem VR.has {X : Cx} {scope : Scope} {p : Str} (L : VR X.env.scope scope p) (ok : X.Ok) : ∀ y ∈ scope.names, y.2 = .free → ∃ c, X.env.cells.lookup y.1 = some c := fun y hy e => by
  rcases L.free y hy e with k | k
  · exact ok.has _ (.inl k)
  · exact ok.has _ (.inr k)
end Dm
end
section
namespace Dm
open PySem PySem.Spec PyProof.Rows L2 LamX
variable {gp : Prop}
def noOwn : Sl → Sl
  | .own _ => .no
  | x => x
def valD (s : Sd) : Sd := s.map noOwn
theorem Cq.lam {X : Cx} {W : WX} {k : Nat} (q : Cq gp X W (k + 2)) {s : Shared} {H : Hp} {scope : Scope} {f c : Addr} : Cq gp (lamCx X X.A.in1.in1 X.stack s H (fun _ _ _ => False) scope f c) W0 k :=
  ⟨Dk, q.gu, by
    have r := q.rm
    refine ⟨r.hd, ?_, ?_⟩
    · have := r.dp
      show X.A.depth + 1 + 3 * k + 5 < _
      omega
    · have := r.un
      show X.A.units + 1 + 1 + 3 + 16 * k + 200 < _
      omega, rfl, q.nd⟩
end Dm
end
section
namespace Dm
open PySem PySem.Spec PyProof.Rows L2 LamX
end Dm
end
section
namespace Dm
open PySem PySem.Spec PyProof.Rows L2
end Dm
end
section
namespace Dm
open PySem PySem.Spec PyProof.Rows L2 PySem.W
end Dm
end
section
namespace Dm
open PySem PySem.Spec PyProof.Rows L2
end Dm
end
section
namespace Dm
open PySem PySem.Spec PyProof.Rows L2
end Dm
end
section
namespace Dm
open PySem PySem.Spec PyProof.Rows L2
section
end
def Gf (b : Bool) (h : Heap) (it a : Addr) (i : Nat) : Prop := match b with
  | true => h.IsTupleIter it a i
  | false => h.IsListIter it a i
theorem Gf.at {b : Bool} {h h' : Heap} {a l i} (x : Gf b h a l i) (e : ∀ o, h.get? a = some o → h'.get? a = some o) : Gf b h' a l i := by
  cases b with
  | true => exact Heap.IsTupleIter.at x e
  | false => exact Heap.IsListIter.at x e
theorem Gf.obj {b : Bool} {h : Heap} {a l i} (x : Gf b h a l i) : ∃ o, h.get? a = some o ∧ ∀ v, o.data ≠ .cell v := by
  cases b with
  | true => obtain ⟨o, ho, hc, hd⟩ := x; exact ⟨o, ho, fun v q => by rw [hd] at q; cases q⟩
  | false => obtain ⟨o, ho, hc, hd⟩ := x; exact ⟨o, ho, fun v q => by rw [hd] at q; cases q⟩
end Dm
end
section
namespace Dm
open PySem PySem.Spec PyProof.Rows L2
end Dm
end
section
namespace Dm
open PySem L2 PySem.Spec PyProof.Rows
mutual
def Ae : NestedKey → Bool
  | .none => true
  | .num _ => true
  | .text _ => false
  | .tup ks => pG ks
def pG : List NestedKey → Bool
  | [] => true
  | k :: ks => Ae k && pG ks
end
mutual
theorem Ay (w w' : World) : ∀ k : NestedKey, Ae k = true → k.hash w = k.hash w'
  | .none, _ => rfl
  | .num _, _ => rfl
  | .text _, h => absurd h Bool.false_ne_true
  | .tup ks, h => by unfold NestedKey.hash; rw [vq w w' ks h]
theorem vq (w w' : World) : ∀ ks : List NestedKey, pG ks = true → NestedKey.hashes w ks = NestedKey.hashes w' ks
  | [], _ => rfl
  | k :: ks, h => by
    unfold pG at h
    rw [Bool.and_eq_true] at h
    unfold NestedKey.hashes
    rw [Ay w w' k h.1, vq w w' ks h.2]
end
theorem Eh (k : DK) : Ae k.nk = true := by
  cases k with
  | n => rfl
  | i k => rfl
  | t ks =>
    show pG (ks.map opN) = true
    induction ks with
    | nil => rfl
    | cons o ks ih =>
      show (Ae (opN o) && pG (ks.map opN)) = true
      rw [ih]
      cases o <;> rfl
def EnR (w : World) (p : DK × V × V) (e : DictEntry) : Prop := e.hash = p.1.nk.hash w ∧ RelV p.2.1 e.key ∧ RelV p.2.2 e.val
theorem EnR.any {w w' : World} {p : DK × V × V} {e : DictEntry} (h : EnR w p e) : EnR w' p e := ⟨by rw [h.1]; exact Ay w w' _ (Eh _), h.2⟩
end Dm
end
section
namespace Dm
open PySem L2 PySem.Spec PyProof.Rows
def Ma (h : Hd) : D → Option (Nat × List (DK × D))
  | .ref i => match h[i]? with
    | some (.dic ps) => some (i, ps)
    | _ => none
  | _ => none
section
variable {K : PySem.W.Frag} {c : C} {H : Hp}
theorem cA.len : ∀ {ps : List (DK × D)} {kvs : List (DK × V × V)}, cA K c H ps kvs → ps.length = kvs.length
  | [], kvs, h => by cases h; rfl
  | p :: ps, kvs, h => by
    obtain ⟨v, r, rfl, _, _, _, h3⟩ := (show ∃ v r, kvs = v :: r ∧ p.1 = v.1 ∧ Rel K c H p.1.d v.2.1 ∧ Rel K c H p.2 v.2.2 ∧ cA K c H ps r from h)
    simp [cA.len h3]
theorem cA.any : ∀ {ps : List (DK × D)} {kvs : List (DK × V × V)} (k : DK), cA K c H ps kvs → (ps.any fun p => decide (p.1 = k)) = kvs.any fun p => decide (p.1 = k)
  | [], kvs, k, h => by cases h; rfl
  | p :: ps, kvs, k, h => by
    obtain ⟨v, r, rfl, e1, _, _, h3⟩ := (show ∃ v r, kvs = v :: r ∧ p.1 = v.1 ∧ Rel K c H p.1.d v.2.1 ∧ Rel K c H p.2 v.2.2 ∧ cA K c H ps r from h)
    rw [List.any_cons, List.any_cons, cA.any k h3, e1]
theorem cA.all {Pk : DK → V → Prop} : ∀ {ps : List (DK × D)} {kvs : List (DK × V × V)}, cA K c H ps kvs → (∀ p ∈ ps, ∀ y, Rel K c H p.1.d y → Pk p.1 y) → ∀ p ∈ kvs, Pk p.1 p.2.1
  | [], kvs, h, _ => by cases h; exact fun p hp => nomatch hp
  | p :: ps, kvs, h, hf => by
    obtain ⟨v, r, rfl, e1, h1, h2, h3⟩ := (show ∃ v r, kvs = v :: r ∧ p.1 = v.1 ∧ Rel K c H p.1.d v.2.1 ∧ Rel K c H p.2 v.2.2 ∧ cA K c H ps r from h)
    intro q hq
    rcases List.mem_cons.mp hq with rfl | hq
    · rw [← e1]; exact hf p List.mem_cons_self _ h1
    · exact cA.all h3 (fun p hp => hf p (List.mem_cons_of_mem _ hp)) q hq
end
end Dm
end
section
namespace Dm
open PySem L2 PySem.Spec PyProof.Rows
section
variable {W : WX} {K : PySem.W.Frag}
theorem Cr {h : Hd} {a : D} {i : Nat} {ps : List (DK × D)} (e : Ma h a = some (i, ps)) : a = .ref i ∧ h[i]? = some (.dic ps) := by
  unfold Ma at e
  cases a with
  | ref j =>
    simp only at e
    cases e2 : h[j]? with
    | none => rw [e2] at e; cases e
    | some o =>
      rw [e2] at e
      cases o with
      | dic qs => cases e; exact ⟨rfl, e2⟩
      | lst _ => cases e
      | tab _ => cases e
      | ins _ _ => cases e
      | exn _ _ => cases e
      | clo _ _ => cases e
      | dead => cases e
  | _ => cases e
theorem bO.dic {c : C} {H : Hp} {h : Hd} {a : D} {x : V} {i : Nat} {ps : List (DK × D)} (rh : bO K c H h) (ra : Rel K c H a x) (e : Ma h a = some (i, ps)) :
    ∃ p kvs, x = .ref p ∧ c.r[i]? = some p ∧ H p = some (dX p kvs) ∧ cA K c H ps kvs := by
  obtain ⟨rfl, e2⟩ := Cr e
  obtain ⟨p, rfl, e3⟩ := ra
  obtain ⟨kvs, e4, rk⟩ := rh.obj i _ p e2 e3
  exact ⟨p, kvs, rfl, e3, e4, rk⟩
end
end Dm
end
section
namespace Dm
open PySem L2 PySem.Spec PyProof.Rows
end Dm
end
section
namespace Dm
open PySem L2 PySem.Spec PyProof.Rows
end Dm
end
section
namespace Dm
open PySem PySem.Spec PyProof.Rows L2 LamX
def Qz (Z : List Addr) (H : Hp) : Hp := fun b => if b ∈ Z then none else H b
section
variable {f b : Addr} {Z : List Addr} {H : Hp} {o : HO}
theorem Ii (hb : b ∉ Z) : Qz Z H b = H b := if_neg hb
def Iw (f : Addr) (Z : List Addr) (H : Hp) : Prop := ∀ z ∈ Z, ∃ ob, H z = some (.frz ob (.own f))
theorem Iw.not (m : Iw f Z H) (e : H b = some o) (n : ∀ ob, o ≠ .frz ob (.own f)) : b ∉ Z := fun hz => by
  obtain ⟨ob, q⟩ := m b hz
  rw [e] at q
  exact n ob (Option.some.inj q)
theorem Iw.keep (m : Iw f Z H) (e : H b = some o) (n : ∀ ob, o ≠ .frz ob (.own f)) : Qz Z H b = some o := (Ii (m.not e n)).trans e
end
structure Odd (B : HO → Prop) : Prop where
  fz : ∀ o, B o → ∃ ob u, o = .frz ob u
  tup : ∀ ob vs, ¬ B (.frz ob (.tup vs))
  lst : ∀ ob vs, ¬ B (.frz ob (.lst vs))
structure Gg (B : HO → Prop) (c : C) (H : Hp) (c' : C) (H' : Hp) : Prop where
  odd : Odd B
  out : ∀ a o, c.out a → ¬ B o → H a = some o → c'.out a ∧ H' a = some o
  ref : ∀ (i : Nat) a, c.r[i]? = some a → c'.r[i]? = some a
section
variable {c c' : C} {H H' : Hp} {h : Hd} {B : HO → Prop}
theorem Odd.nf (b : Odd B) {o : HO} (n : ∀ ob u, o ≠ .frz ob u) : ¬ B o := fun q => by
  obtain ⟨ob, u, e⟩ := b.fz o q
  exact n ob u e
theorem Gg.kn (x : Gg B c H c' H') {a : Addr} {vs : List V} (h : c.out a) (k : KnT H a vs) : c'.out a ∧ KnT H' a vs := by
  obtain ⟨o, e, d⟩ := k
  have q := x.out a _ h (x.odd.tup _ _) e
  exact ⟨q.1, o, q.2, d⟩
theorem Gg.rd (x : Gg B c H c' H') {a : Addr} {vs : List V} (h : c.out a) (e : Rd H a (.lst vs)) : c'.out a ∧ Rd H' a (.lst vs) := by
  rcases e with e | ⟨u, e⟩
  · have q := x.out a (.lst vs) h (x.odd.nf fun _ _ z => nomatch z) e
    exact ⟨q.1, .inl q.2⟩
  · have q := x.out a _ h (x.odd.lst _ _) e
    exact ⟨q.1, .inr ⟨u, q.2⟩⟩
end
end Dm
end
section
namespace Dm
open PySem PySem.Spec PyProof.Rows L2 LamX
variable {gp : Prop}
abbrev MC := List D → List D → Hd → Res D
def Ws (lam : MC) (j : Nat) (o : O) (cs ds : List D) (h : Hd) : Res D := match lam cs ds (h.set j .dead) with
  | .ok d s h => .ok d s (h.set j o)
  | .exc x fs s h => .exc x fs s (h.set j o)
  | .bad => .bad
def spC (K : PySem.W.Frag) (mg : Str → Option Value) (L : JC) (lam : MC) (f : Addr) : Sp := fun vs H Q E => ∃ c h j cs ds, c.z = [] ∧ bO K c H h ∧ aK K c H ds vs ∧ ds.length = L.ps.length ∧ c.r[j]? = some f ∧ h[j]? = some (.clo L cs) ∧ VN K mg c H Q E (Ws lam j (.clo L cs) cs ds h)
structure Mw (gp : Prop) (P : Program) (w : World) (K : PySem.W.Frag) (mg : Str → Option Value) (base : Heap) (k : Nat) (L : JC) (lam : MC) : Prop where
  run : ∀ (f : Addr) (A : Around) (outer : List Env) (s : Shared) (H : Hp) (us : List Value) (vs : List V) (Q : VK) (E : XK), Room k A → (gp → A.guards = some []) → Env0 P w K mg base A outer s H → Vals vs us → spC K mg L lam f vs H Q E →
    codeAny (model P w) A (.call (.ref f) ⟨us, []⟩) (CR (L2N.CX P w) outer P w H s Q E) s
theorem Mw.mono {P : Program} {w : World} {K : PySem.W.Frag} {mg : Str → Option Value} {base : Heap} {j k : Nat} {L : JC} {lam : MC} (d : Mw gp P w K mg base j L lam) (h : j ≤ k) : Mw gp P w K mg base k L lam :=
  ⟨fun f A outer s H us vs Q E hr => d.run f A outer s H us vs Q E (hr.mono h)⟩
end Dm
end
section
namespace Dm
open PySem PySem.Spec PyProof.Rows L2 LamX
noncomputable instance : DecidableEq JC := fun a b => Classical.propDecidable (a = b)
end Dm
end
section
end
section
namespace Dm
open PySem PySem.Spec PyProof.Rows L2 LamX
def FZ (K : PySem.W.Frag) (c : C) (H : Hp) : List (D × D) → List (V × V) → Prop
  | [], vs => vs = []
  | p :: ps, vs => ∃ v r, vs = v :: r ∧ Rel K c H p.1 v.1 ∧ Rel K c H p.2 v.2 ∧ FZ K c H ps r
section
variable {W : WX}
theorem FZ.car {K : PySem.W.Frag} {c c' : C} {H H' : Hp} (x : Car c H c' H') : ∀ {ps : List (D × D)} {vs : List (V × V)}, FZ K c H ps vs → FZ K c' H' ps vs
  | [], vs, h => h
  | p :: ps, vs, h => by
    obtain ⟨v, r, e, h1, h2, h3⟩ := h
    exact ⟨v, r, e, h1.car x, h2.car x, FZ.car x h3⟩
end
end Dm
end
section
namespace Dm
open PySem PySem.Spec PyProof.Rows L2 LamX
def noE : Expr := .Constant .none 0 ⟨0, 0, 0, 0⟩
def exC : Expr → Nat → Expr
  | .BoolOp (values := es) .., i => es.getD i noE
  | .BinOp (left := a) .., 0 => a
  | .BinOp (right := a) .., 1 => a
  | .UnaryOp (operand := a) .., 0 => a
  | .Lambda (body := a) .., 0 => a
  | .IfExp (test := a) .., 0 => a
  | .IfExp (body := a) .., 1 => a
  | .IfExp (orelse := a) .., 2 => a
  | .Compare (left := a) .., 0 => a
  | .Compare (comparators := es) .., i + 1 => es.getD i noE
  | .Call (args := es) .., i => es.getD i noE
  | .Subscript (value := a) .., 0 => a
  | .Subscript (slice := a) .., 1 => a
  | .List (elts := es) .., i => es.getD i noE
  | .Tuple (elts := es) .., i => es.getD i noE
  | .ListComp (elt := a) .., 0 => a
  | .Attribute (value := a) .., 0 => a
  | _, _ => noE
end Dm
end
section
namespace Dm
open PySem PySem.Spec PyProof.Rows L2 LamX
section
variable {K : PySem.W.Frag} {c : C} {H : Hp} {f : Str}
theorem lX.lookup : ∀ {fs : List (Str × D)} {vs : List (Str × V)} {f : Str}, lX K c H fs vs → (∀ d, fs.lookup f = some d → ∃ v, vs.lookup f = some v ∧ Rel K c H d v) ∧ (fs.lookup f = none → vs.lookup f = none)
  | [], vs, f, r => by cases r; exact ⟨fun d e => (nomatch e), fun _ => rfl⟩
  | p :: fs, vs, f, r => by
    obtain ⟨v, r', rfl, e1, r1, r2⟩ := r
    obtain ⟨g, d0⟩ := p
    obtain ⟨g', v0⟩ := v
    cases (show g = g' from e1)
    obtain ⟨i1, i2⟩ := lX.lookup (f := f) r2
    by_cases hf : f = g
    · have hb : (f == g) = true := beq_iff_eq.mpr hf
      simp only [List.lookup, hb]
      exact ⟨fun d e => ⟨v0, rfl, by cases e; exact r1⟩, fun e => (nomatch e)⟩
    · have hb : (f == g) = false := beq_eq_false_iff_ne.mpr hf
      simp only [List.lookup, hb]
      exact ⟨i1, i2⟩
theorem lX.len : ∀ {fs : List (Str × D)} {vs : List (Str × V)}, lX K c H fs vs → fs.length = vs.length
  | [], vs, r => by cases r; rfl
  | p :: fs, vs, r => by
    obtain ⟨w, r', rfl, e1, r1, r2⟩ := r
    simp [lX.len r2]
end
end Dm
end
section
end
section
end
section
namespace Dm
open PySem PySem.Spec PyProof.Rows L2 LamX
open Classical
end Dm
end
section
namespace Dm
open PySem PySem.Spec PyProof.Rows L2 LamX
end Dm
end
section
end
section
namespace Dm
open PySem PySem.Spec PyProof.Rows L2 LamX HotX
def Mz (X : Cx) (pins : List (Addr × Obj)) : Prop := ∃ p : Addr × Obj, L2H.Hot1 X.A p ∧ p ∈ X.pn ++ pins
section
variable {X : Cx} {pins : List (Addr × Obj)} {σ : L2.St} {H : Hp} {s : Shared}
theorem Mz.of (c : L2H.HotC X) : Mz X pins := by
  obtain ⟨p, h, hp⟩ := c
  exact ⟨p, h, List.mem_append_left _ hp⟩
theorem Mz.at (c : Mz X pins) (I : Inv X pins σ H s) : ∃ p : Addr × Obj, p ∈ X.pn ++ pins ∧ HotAt X.A p.1 s.heap := by
  obtain ⟨p, ⟨hh, v1, e1, c1⟩, hp⟩ := c
  exact ⟨p, hp, hh, p.2, v1, (I.pin p hp).1, e1, c1⟩
end
structure Cqh (X : Cx) (k : Nat) : Prop where
  hot : L2H.HotC X
  rm : L2H.RoomH k X.A
  nd : X.N.Nodup
theorem Cqh.units {X : Cx} {k : Nat} (q : Cqh X k) : X.A.units + 64 < cLine := by
  have := q.rm.un
  omega
end Dm
end
section
end
section
namespace Dm
open PySem PySem.Spec PyProof.Rows L2
section
variable {c c1 : C} {H H1 : Hp} {p : Addr}
theorem rP.drop (a : rP p c H c1 H1) : Ext c H { c1 with n := c.n } H1 := ⟨a.r, rfl, a.z, a.old, a.dom⟩
end
end Dm
end
section
namespace Dm
open PySem PySem.Spec PyProof.Rows L2
end Dm
end
section
namespace Dm
open PySem PySem.Spec PyProof.Rows L2
end Dm
end
section
namespace Dm
open PySem L2 PySem.Spec PyProof.Rows
end Dm
end
section
namespace Dm
open PySem L2 PySem.Spec PyProof.Rows
structure QW (fa : List He.Fa) (fn : List He.DefD) (tf : List He.Defn) (ex : PySem.W.Frag → Bool) (ts : List (Str × List Str)) (w : World) (h : Heap) (K : PySem.W.Frag) : Prop where
  m : Iv fa fn tf ex h K
  t : (ts.map fun t => He.dicW K (He.ga K t.1)) = ts.map fun t => some (He.keysIn w.params t.2)
theorem QW.at {fa : List He.Fa} {fn : List He.DefD} {tf : List He.Defn} {ex : PySem.W.Frag → Bool} {ts : List (Str × List Str)} {w : World} {h : Heap} {K : PySem.W.Frag} (c : QW fa fn tf ex ts w h K) (i : Nat) {p : Str × List Str} (e : ts[i]? = some p := by rfl) : He.dicW K (He.ga K p.1) = some (He.keysIn w.params p.2) := by
  have e2 : (ts.map fun t => He.dicW K (He.ga K t.1))[i]? = (ts.map fun t => some (He.keysIn w.params t.2))[i]? := by rw [c.t]
  rw [List.getElem?_map, List.getElem?_map, e] at e2
  exact Option.some.inj e2
end Dm
end
section
namespace Dm
open PySem L2 PySem.Spec PyProof.Rows
end Dm
end
section
namespace Dm
open PySem PySem.Spec PyProof.Rows L2
end Dm
end
section
namespace Dm
open PySem PySem.W PySem.Calls PyProof.Rows HandSHeadRun
end Dm
end
section
namespace Dm
open PySem PySem.Spec PyProof.Rows L2 LamX
end Dm
namespace Dm
open PySem PySem.Spec PyProof.Rows L2 LamX
structure Mx (X : Cx) (H0 : Hp) (c : C) (H : Hp) (L : JC) (t : Addr × Addr × Obj) : Prop where
  new : H0 t.1 = none
  out : c.out t.1
  at_ : H t.1 = some (.frz t.2.2 (VP t.1 L.q L.params L.body L.scope (cloFrom X.env.cells L.scope.names []) t.2.1))
  ok : c.out t.2.1
  ek : H t.2.1 = some (CodeO t.2.1 L.q)
theorem Mx.car {X : Cx} {H0 H H' : Hp} {c c' : C} {L : JC} {t : Addr × Addr × Obj} (x : Car c H c' H') (l : Mx X H0 c H L t) : Mx X H0 c' H' L t :=
  ⟨l.new, (x.out _ _ l.out l.at_).1, (x.out _ _ l.out l.at_).2, (x.out _ _ l.ok l.ek).1, (x.out _ _ l.ok l.ek).2⟩
end Dm
namespace Dm
open PySem PySem.Spec PyProof.Rows L2 LamX
end Dm
namespace Dm
open PySem L2
end Dm
end
section
end
section
namespace L2N
open PySem PySem.Spec PyProof.Rows L2
structure Down (X : Cx) (pins : List (Addr × Obj)) (σ : St) (H : Hp) (a : Addr) (cls : Value) (d : Option Addr) (B : Heap) (s₁ t : Shared) : Prop where
  inv : Inv X pins σ H s₁
  old : ∀ b o, s₁.heap.get? b = some o → b ∉ frs X.stack → B.get? b = some o
  up : s₁.heap.UpToSlots t.heap
  fly : HandSPX.FlyingZ B (X.env :: X.outer) a (Zn cls d) t.heap
  na : H a = none
  os : t.os = s₁.os
  ag : AllBare t.gens
section
variable {X : Cx} {pins : List (Addr × Obj)} {σ : St} {H : Hp} {a : Addr} {cls : Value} {d : Option Addr} {B : Heap} {s₁ t : Shared}
theorem Down.apart (hf : X.env.frame = some X.env.locals) (w : Down X pins σ H a cls d B s₁ t) : ∃ oe vs, t.heap.get? a = some oe ∧ Zn cls d oe ∧ oe.data = .fields vs ∧ a ≠ X.env.locals ∧ a ∉ X.fs := by
  obtain ⟨oe, vs, e1, e2, e3⟩ := w.fly.there
  have no : a ∉ frs (X.env :: X.outer) := fun hm => by
    obtain ⟨_, o2, g1, g2⟩ := w.fly.2.2.1.mem hm
    have := g1.symm.trans e1
    cases this
    exact g2 _ e3
  refine ⟨oe, vs, e1, e2, e3, fun z => no ?_, fun hm => no ?_⟩
  · exact List.mem_filterMap.mpr ⟨_, List.mem_cons_self, hf.trans (congrArg some z.symm)⟩
  · obtain ⟨en, m1, m2⟩ := List.mem_filterMap.mp hm
    exact List.mem_filterMap.mpr ⟨en, List.mem_cons_of_mem _ m1, m2⟩
end
end L2N
namespace Dm
open PySem PySem.Spec PyProof.Rows L2
theorem JF.sub {K : PySem.W.Frag} {mg : Str → Option Value} {x : Str} {xs ys : List Str} (a : JF K mg x xs) (h : (ys.all fun y => xs.contains y) = true) : JF K mg x ys := ⟨a.self, fun y hy => a.other y (by
  have := List.all_eq_true.mp h y hy
  simpa using this)⟩
end Dm
end
section
namespace Dm
open PySem PySem.W PySem.Calls PyProof.Rows HandSHeadRun
end Dm
end
section
namespace Dm
open PySem PySem.Spec PyProof.Rows L2
end Dm
end
section
namespace Dm
open PySem PySem.Spec PyProof.Rows L2
end Dm
end
section
set_option maxHeartbeats 0
namespace Lw
open PySem PySem.Spec PyProof.Rows L2 Dm
def wI (i : Nat) : Stmt := PySem.Challenge.pw_twobenches_k65_texts_of_times.main.body.getD i (.Pass ⟨0, 0, 0, 0⟩)
abbrev dw : Stmt := (Dm.U7 (wI 1)).getD 0 (.Pass ⟨0, 0, 0, 0⟩)
abbrev bH : Stmt := wI 6
abbrev bG : Stmt := wI 7
abbrev eE : Stmt := wI 8
abbrev aR : Stmt := wI 9
abbrev cJ : Stmt := wI 10
abbrev gM : Stmt := wI 12
abbrev dR : Stmt := wI 13
abbrev eO : Stmt := wI 14
abbrev cZ : Stmt := wI 15
abbrev cY : Stmt := wI 16
abbrev bR : Stmt := wI 17
abbrev aW : Stmt := wI 18
abbrev aP : Stmt := wI 19
abbrev eG : Stmt := wI 20
abbrev dh : Stmt := wI 21
abbrev wW : Stmt := wI 22
def lQ : He.DefD := ⟨("format_times", none), "format_times", "format_times", defArgs bH, defBody bH, defScope bH, [], []⟩
def lK : He.DefD := ⟨("read_integer", none), "read_integer", "read_integer", defArgs bG, defBody bG, defScope bG, [], []⟩
def ux : He.DefD := ⟨("lines_of", none), "lines_of", "lines_of", defArgs eE, defBody eE, defScope eE, [], []⟩
def iz : He.DefD := ⟨("read_times_line", none), "read_times_line", "read_times_line", defArgs aR, defBody aR, defScope aR, [], []⟩
def mY : He.DefD := ⟨("parse_times", none), "parse_times", "parse_times", defArgs cJ, defBody cJ, defScope cJ, [], []⟩
def vB : He.DefD := ⟨("_law_pen", none), "_law_pen", "_law_pen", defArgs gM, defBody gM, defScope gM, [], []⟩
def qU : He.DefD := ⟨("_law_fresh", none), "_law_fresh", "_law_fresh", defArgs dR, defBody dR, defScope dR, [], []⟩
def uD : He.DefD := ⟨("_law_draw", none), "_law_draw", "_law_draw", defArgs eO, defBody eO, defScope eO, [], []⟩
def oY : He.DefD := ⟨("_law_one_of", none), "_law_one_of", "_law_one_of", defArgs cZ, defBody cZ, defScope cZ, [], []⟩
def qT : He.DefD := ⟨("_law_times", none), "_law_times", "_law_times", defArgs cY, defBody cY, defScope cY, [], []⟩
def mZ : He.DefD := ⟨("_law_figures", none), "_law_figures", "_law_figures", defArgs bR, defBody bR, defScope bR, [], []⟩
def ji : He.DefD := ⟨("_law_times_text", none), "_law_times_text", "_law_times_text", defArgs aW, defBody aW, defScope aW, [], []⟩
def jk : He.DefD := ⟨("_law_read_times", none), "_law_read_times", "_law_read_times", defArgs aP, defBody aP, defScope aP, [], []⟩
def uz : He.DefD := ⟨("_law_told", none), "_law_told", "_law_told", defArgs eG, defBody eG, defScope eG, [], []⟩
def oZ : He.DefD := ⟨("_law_marred", none), "_law_marred", "_law_marred", defArgs dh, defBody dh, defScope dh, [], []⟩
def Jy : He.DefD := ⟨("law", none), "law", "law", defArgs wW, defBody wW, defScope wW, [], []⟩
def o7 : He.DefD := ⟨("ParseError", some "__init__"), "__init__", "ParseError.__init__", defArgs dw, defBody dw, defScope dw, [], []⟩
def fnL : List He.DefD := [lQ, lK, ux, iz, mY, vB, qU, uD, oY, qT, mZ, ji, jk, uz, oZ, Jy, o7]
def faL : List He.Fa := [.glo "format_times", .glo "read_integer", .glo "lines_of", .glo "read_times_line", .glo "parse_times", .glo "_law_pen", .glo "_law_fresh", .glo "_law_draw", .glo "_law_one_of", .glo "_law_times", .glo "_law_figures", .glo "_law_times_text", .glo "_law_read_times", .glo "_law_told", .glo "_law_marred", .glo "law", .free "len", .free "range", .free "str", .free "all", .free "int", .free "enumerate", .free "tuple", .free "list", .free "repr", .free "ValueError", .int "MOST_DIGITS" 61, .str "DIGITS" "0123456789", .int "MOST_JOBS" 8, .glo "ParseError"]
def tests (K : PySem.W.Frag) : List Bool := [smB K, Tc K "ParseError" "line" "ValueError", QH K "ParseError" []]
def more (K : PySem.W.Frag) : Bool := (tests K).all id
theorem yX {K : PySem.W.Frag} (h : more K = true) (i : Nat) {b : Bool} (e : (tests K)[i]? = some b) : b = true := List.all_eq_true.mp h b (List.mem_of_getElem? e)
abbrev Rw : PySem.W.OpenRow := PySem.W.OpenLaw.row PySem.Challenge.rw_twobenches_k65_texts_of_times
def PB : List PySem.Str := ["ParseError", "MOST_JOBS", "DIGITS", "MOST_DIGITS", "format_times", "read_integer", "lines_of", "read_times_line", "parse_times", "_law_pen", "_law_fresh", "_law_draw", "_law_one_of", "_law_times", "_law_figures", "_law_times_text", "_law_read_times", "_law_told", "_law_marred"]
def Jl : List PySem.Str := PB
abbrev hk : PySem.W.Hook := hkM 4 faL fnL [] more
def obs (s : PySem.W.SharedT) : AlM := Rb 4 faL fnL [] more (HandSHeadRun.getT s)
theorem Oq (s : PySem.W.SharedT) : obs s = hk.obs s.abs := Kw (HandSHeadRun.getT_eq s)
theorem HW (w : World) : HandSHeadRun.RunEq Rw (PySem.W.view Rw.prog [22]) hk obs 20000 Jl w := by
  intro os
  kernel_rfl
end Lw
end
section
namespace Dm
open PySem L2
theorem Ext.refl (c : C) (H : Hp) : Ext c H c H := ⟨⟨[], by simp⟩, rfl, fun a h => .inl h, fun _ _ _ _ e => e, fun _ o e => ⟨o, e⟩⟩
section
variable {K : PySem.W.Frag} {c : C} {H : Hp}
theorem aK.app : ∀ {ds es : List D} {vs ws : List V}, aK K c H ds vs → aK K c H es ws → aK K c H (ds ++ es) (vs ++ ws)
  | [], es, vs, ws, h, g => by cases h; exact g
  | d :: ds, es, vs, ws, h, g => by
    obtain ⟨v, r, e, h1, h2⟩ := (show ∃ v r, vs = v :: r ∧ Rel K c H d v ∧ aK K c H ds r from h)
    subst e
    exact ⟨v, r ++ ws, rfl, h1, aK.app h2 g⟩
end
end Dm
end
section
namespace Dm
open PySem L2
abbrev M (A : Type) := Sd → Hd → Res A
def Res.bind {A B : Type} (m : Res A) (f : A → Sd → Hd → Res B) : Res B := match m with
  | .ok a s h => f a s h
  | .exc x fs s h => .exc x fs s h
  | .bad => .bad
section
variable {K : PySem.W.Frag} {c : C} {H H' : Hp} {h : Hd} {sd : Sd} {s : L2.St} {p : Addr} {o : HO}
abbrev Grow (H H' : Hp) : Prop := ∀ a o, H a = some o → H' a = some o
theorem aD (hp : H p = none) : Grow H (upd H p o) := fun a u e => by
  rw [upd_ne (ne_of_none e hp)]
  exact e
theorem Car.grow (g : Grow H H') : Car c H c H' := ⟨fun a o h e => ⟨h, g a o e⟩, fun _ _ e => e⟩
theorem Ext.grow (g : Grow H H') : Ext c H c H' := ⟨⟨[], by simp⟩, rfl, fun a h => .inl h, fun a o _ _ e => g a o e, fun a o e => ⟨o, g a o e⟩⟩
theorem bO.grow (g : Grow H H') (x : bO K c H h) : bO K c H' h := ⟨x.len, x.nd, x.rn, fun a ha => (x.hid a ha).elim fun u e => ⟨u, g a u e⟩, fun i o a e1 e2 => (x.obj i o a e1 e2).car (Car.grow g) fun u q => g a u q⟩
theorem bZ.grow (g : Grow H H') (x : bZ K c H sd s) : bZ K c H' sd s := x.car (Car.grow g) fun q u h1 h2 e => ⟨h1, h2, g q u e⟩
def C.hide (c : C) (p : Addr) : C := { c with z := p :: c.z }
def C.lock (c : C) (p : Addr) : C := { c with n := p :: c.n }
def C.hand (c : C) (p : Addr) : C := { c with r := c.r ++ [p] }
theorem Car.hide (hp : H p = none) : Car c H (c.hide p) (upd H p o) := ⟨fun a u h e => ⟨⟨h.1, h.2.1, fun q => by
    rcases List.mem_cons.mp q with q | q
    · subst q; rw [hp] at e; cases e
    · exact h.2.2 q⟩, aD hp a u e⟩, fun _ _ e => e⟩
theorem Car.lock (hp : H p = none) : Car c H (c.lock p) (upd H p o) := ⟨fun a u h e => ⟨⟨h.1, fun q => by
    rcases List.mem_cons.mp q with q | q
    · subst q; rw [hp] at e; cases e
    · exact h.2.1 q, h.2.2⟩, aD hp a u e⟩, fun _ _ e => e⟩
theorem Car.hand (hp : H p = none) : Car c H (c.hand p) (upd H p o) := ⟨fun a u h e => ⟨⟨fun q => (List.mem_append.mp q).elim (fun q => h.1 q) (fun q => by
    rw [List.mem_singleton.mp q, hp] at e; cases e), h.2.1, h.2.2⟩, aD hp a u e⟩, fun i a e => by
    show (c.r ++ [p])[i]? = some a
    rw [List.getElem?_append_left (List.getElem?_eq_some_iff.mp e).1]
    exact e⟩
theorem Ext.hide (hp : H p = none) : Ext c H (c.hide p) (upd H p o) := ⟨⟨[], by simp [C.hide]⟩, rfl, fun a q => by
    rcases List.mem_cons.mp q with q | q
    · subst q; exact .inr hp
    · exact .inl q, fun a u _ _ e => aD hp a u e, fun a u e => ⟨u, aD hp a u e⟩⟩
theorem Ext.hand (hp : H p = none) : Ext c H (c.hand p) (upd H p o) := ⟨⟨[p], rfl, fun a q => by rw [List.mem_singleton.mp q]; exact hp⟩, rfl, fun a q => .inl q, fun a u _ _ e => aD hp a u e, fun a u e => ⟨u, aD hp a u e⟩⟩
theorem bO.hide (hp : H p = none) (x : bO K c H h) : bO K (c.hide p) (upd H p o) h := ⟨x.len, x.nd, fun a ha => ⟨(x.rn a ha).1, fun q => by
    rcases List.mem_cons.mp q with q | q
    · subst q
      obtain ⟨u, e⟩ := x.there ha
      rw [hp] at e; cases e
    · exact (x.rn a ha).2 q⟩, fun a ha => by
    by_cases hb : a = p
    · subst hb; exact ⟨_, upd_same⟩
    · obtain ⟨u, e⟩ := x.hid a (ha.imp id fun q => (List.mem_cons.mp q).resolve_left hb)
      exact ⟨u, aD hp a u e⟩, fun i u a e1 e2 => (x.obj i u a e1 e2).car (Car.hide hp) fun u q => aD hp a u q⟩
theorem bO.lock (hp : H p = none) (x : bO K c H h) : bO K (c.lock p) (upd H p o) h := ⟨x.len, x.nd, fun a ha => ⟨fun q => by
    rcases List.mem_cons.mp q with q | q
    · subst q
      obtain ⟨u, e⟩ := x.there ha
      rw [hp] at e; cases e
    · exact (x.rn a ha).1 q, (x.rn a ha).2⟩, fun a ha => by
    by_cases hb : a = p
    · subst hb; exact ⟨_, upd_same⟩
    · obtain ⟨u, e⟩ := x.hid a (ha.imp (fun q => (List.mem_cons.mp q).resolve_left hb) id)
      exact ⟨u, aD hp a u e⟩, fun i u a e1 e2 => (x.obj i u a e1 e2).car (Car.lock hp) fun u q => aD hp a u q⟩
theorem bO.Ux {ob : O} (hp : H p = none) (x : bO K c H h) (r : RelO K (c.hand p) (upd H p o) p ob) : bO K (c.hand p) (upd H p o) (h ++ [ob]) := by
  have hpr : p ∉ c.r := fun q => by
    obtain ⟨u, e⟩ := x.there q
    rw [hp] at e; cases e
  have hnz : ∀ a, H a = none → a ∉ c.n ∧ a ∉ c.z := fun a e => ⟨fun q => (by obtain ⟨u, z⟩ := x.hid a (.inl q); rw [e] at z; cases z), fun q => by obtain ⟨u, z⟩ := x.hid a (.inr q); rw [e] at z; cases z⟩
  obtain ⟨hn, hz⟩ := hnz p hp
  refine ⟨by simp [C.hand, x.len], ?_, fun a ha => ?_, fun a ha => (x.hid a ha).elim fun u e => ⟨u, aD hp a u e⟩, fun i u a e1 e2 => ?_⟩
  · show (c.r ++ [p]).Nodup
    rw [List.nodup_append]
    refine ⟨x.nd, by simp, fun a ha b hb e => ?_⟩
    rw [List.mem_singleton.mp hb] at e
    subst e
    exact hpr ha
  · rcases List.mem_append.mp ha with q | q
    · exact x.rn a q
    · rw [List.mem_singleton.mp q]; exact ⟨hn, hz⟩
  · by_cases hi : i < c.r.length
    · have e2' : c.r[i]? = some a := by
        have z : (c.r ++ [p])[i]? = some a := e2
        rw [List.getElem?_append_left hi] at z
        exact z
      have e1' : h[i]? = some u := by
        rw [List.getElem?_append_left (by rw [← x.len]; exact hi)] at e1
        exact e1
      exact (x.obj i u a e1' e2').car (Car.hand hp) fun u q => aD hp a u q
    · have hi2 : i < (c.r ++ [p]).length := (List.getElem?_eq_some_iff.mp e2).1
      have ei : i = c.r.length := by simp at hi2; omega
      have z : (c.r ++ [p])[i]? = some a := e2
      rw [ei, List.getElem?_append_right (Nat.le_refl _)] at z
      simp at z
      subst z
      rw [ei, x.len, List.getElem?_append_right (Nat.le_refl _)] at e1
      simp at e1
      subst e1
      exact r
theorem bO.hand {ds : List D} {vs : List V} (hp : H p = none) (x : bO K c H h) (r : aK K c H ds vs) : bO K (c.hand p) (upd H p (.lst vs)) (h ++ [.lst ds]) := x.Ux hp ⟨vs, upd_same, r.car (Car.hand hp)⟩
theorem bZ.hide (hp : H p = Option.none) (x : bZ K c H sd s) : bZ K (c.hide p) (upd H p o) sd s := x.car (Car.hide hp) fun q u h1 h2 e => ⟨List.mem_cons_of_mem _ h1, h2, aD hp q u e⟩
theorem bZ.lock (hp : H p = Option.none) (x : bZ K c H sd s) : bZ K (c.lock p) (upd H p o) sd s := x.car (Car.lock hp) fun q u h1 h2 e => ⟨h1, fun z => by
    rcases List.mem_cons.mp z with z | z
    · subst z; rw [hp] at e; cases e
    · exact h2 z, aD hp q u e⟩
theorem bZ.hand (hp : H p = Option.none) (x : bZ K c H sd s) : bZ K (c.hand p) (upd H p o) sd s := x.car (Car.hand hp) fun q u h1 h2 e => ⟨h1, h2, aD hp q u e⟩
theorem Car.write (hz : p ∈ c.z) : Car c H c (upd H p o) := ⟨fun a u h e => ⟨h, by rw [upd_ne (fun z => h.2.2 (by rw [z]; exact hz))]; exact e⟩, fun _ _ e => e⟩
theorem Car.rQ (hz : p ∈ c.r) : Car c H c (upd H p o) := ⟨fun a u h e => ⟨h, by rw [upd_ne (fun z => h.1 (by rw [z]; exact hz))]; exact e⟩, fun _ _ e => e⟩
theorem Car.rR (hz : p ∈ c.n) : Car c H c (upd H p o) := ⟨fun a u h e => ⟨h, by rw [upd_ne (fun z => h.2.1 (by rw [z]; exact hz))]; exact e⟩, fun _ _ e => e⟩
theorem Ext.write (hz : p ∈ c.r ∨ p ∈ c.z) : Ext c H c (upd H p o) := ⟨⟨[], by simp⟩, rfl, fun a q => .inl q, fun a u h1 h2 e => by
    rw [upd_ne (fun z => by subst z; exact hz.elim h1 h2)]; exact e, fun a u e => by
    by_cases hb : a = p
    · subst hb; exact ⟨_, upd_same⟩
    · exact ⟨u, by rw [upd_ne hb]; exact e⟩⟩
theorem zA {a : Addr} (e : ∃ u, H a = some u) : ∃ u, (upd H p o) a = some u := by
  by_cases hb : a = p
  · subst hb; exact ⟨_, upd_same⟩
  · obtain ⟨u, e⟩ := e
    exact ⟨u, by rw [upd_ne hb]; exact e⟩
theorem bO.write (hz : p ∈ c.z) (x : bO K c H h) : bO K c (upd H p o) h := ⟨x.len, x.nd, x.rn, fun a ha => zA (x.hid a ha), fun i u a e1 e2 => (x.obj i u a e1 e2).car (Car.write hz) fun u q => by
    rw [upd_ne (fun z => (x.rn a (List.mem_of_getElem? e2)).2 (by rw [z]; exact hz))]; exact q⟩
theorem bO.rR (hz : p ∈ c.n) (x : bO K c H h) : bO K c (upd H p o) h := ⟨x.len, x.nd, x.rn, fun a ha => zA (x.hid a ha), fun i u a e1 e2 => (x.obj i u a e1 e2).car (Car.rR hz) fun u q => by
    rw [upd_ne (fun z => (x.rn a (List.mem_of_getElem? e2)).1 (by rw [z]; exact hz))]; exact q⟩
theorem bZ.rR (hz : p ∈ c.n) (x : bZ K c H sd s) : bZ K c (upd H p o) sd s := x.car (Car.rR hz) fun q u h1 h2 e => ⟨h1, h2, by rw [upd_ne (fun z => h2 (by rw [z]; exact hz))]; exact e⟩
theorem bO.JM {ob : O} {i : Nat} (hi : c.r[i]? = some p) (x : bO K c H h) (r : RelO K c (upd H p o) p ob) : bO K c (upd H p o) (h.set i ob) := by
  have hm : p ∈ c.r := List.mem_of_getElem? hi
  refine ⟨by rw [List.length_set]; exact x.len, x.nd, x.rn, fun a ha => zA (x.hid a ha), fun j u a e1 e2 => ?_⟩
  by_cases hj : j = i
  · subst hj
    rw [hi] at e2
    cases e2
    have hl : j < h.length := by rw [← x.len]; exact (List.getElem?_eq_some_iff.mp hi).1
    rw [List.getElem?_set_self hl] at e1
    cases e1
    exact r
  · rw [List.getElem?_set_ne (Ne.symm hj)] at e1
    have ne : a ≠ p := fun z => by
      subst z
      exact hj (nd_ix x.nd e2 hi)
    exact (x.obj j u a e1 e2).car (Car.rQ hm) fun u q => by rw [upd_ne ne]; exact q
theorem bO.rQ {ds : List D} {vs : List V} {i : Nat} (hi : c.r[i]? = some p) (x : bO K c H h) (r : aK K c H ds vs) : bO K c (upd H p (.lst vs)) (h.set i (.lst ds)) := x.JM hi ⟨vs, upd_same, r.car (Car.rQ (List.mem_of_getElem? hi))⟩
theorem bZ.rQ (hp : p ∈ c.r) (x : bZ K c H sd s) (y : bO K c H h) : bZ K c (upd H p o) sd s := x.car (Car.rQ hp) fun q u h1 h2 e => ⟨h1, h2, by
    rw [upd_ne (fun z => (y.rn p hp).2 (by rw [← z]; exact h1))]; exact e⟩
theorem bZ.IK {i : Nat} {ys xs : List D} {vs : List V} (hi : sd[i]? = some (.own ys)) (hs : s[i]? = some (some (.ref p))) (x : bZ K c H sd s) (r : aK K c H xs vs) : bZ K c (upd H p (.lst vs)) (sd.set i (.own xs)) s := by
  obtain ⟨q, ws, e, hz, hn, hq, _⟩ := x.sl i _ _ hi hs
  have e' : p = q := by injection e with e; injection e
  subst e'
  refine ⟨by rw [List.length_set]; exact x.len, fun j y o e1 e2 => ?_, fun j k as bs q e1 e2 f1 f2 => ?_⟩
  · by_cases hj : j = i
    · subst hj
      rw [List.getElem?_set_self (List.getElem?_eq_some_iff.mp hi).1] at e1
      cases e1
      rw [hs] at e2
      cases e2
      exact ⟨p, vs, rfl, hz, hn, upd_same, r.car (Car.write hz)⟩
    · rw [List.getElem?_set_ne (Ne.symm hj)] at e1
      have t := x.sl j y o e1 e2
      cases y with
      | no => trivial
      | val d =>
        obtain ⟨v, e3, r3⟩ := t
        exact ⟨v, e3, r3.car (Car.write hz)⟩
      | own as =>
        obtain ⟨q, us, e3, g1, g2, g3, r3⟩ := t
        subst e3
        have ne : q ≠ p := fun z => by
          subst z
          exact hj (x.inj j i _ _ _ e1 hi e2 hs)
        exact ⟨q, us, rfl, g1, g2, by rw [upd_ne ne]; exact g3, r3.car (Car.write hz)⟩
  · have back : ∀ (j : Nat) (as : List D), (sd.set i (.own xs))[j]? = some (.own as) → ∃ bs, sd[j]? = some (.own bs) := fun j as e => by
      by_cases hj : j = i
      · subst hj; exact ⟨_, hi⟩
      · rw [List.getElem?_set_ne (Ne.symm hj)] at e
        exact ⟨_, e⟩
    obtain ⟨_, g1⟩ := back j as e1
    obtain ⟨_, g2⟩ := back k bs e2
    exact x.inj j k _ _ q g1 g2 f1 f2
theorem bZ.Tr {i : Nat} {xs : List D} {vs : List V} (x : bZ K c H sd s) (hz : p ∈ c.z) (hn : p ∉ c.n) (hp : H p = some (.lst vs)) (r : aK K c H xs vs) (fr : ∀ (j : Nat) as, sd[j]? = some (.own as) → s[j]? ≠ some (some (.ref p))) : bZ K c H (sd.set i (.own xs)) (s.set i (some (.ref p))) := by
  refine ⟨by simp [x.len], fun j y o e1 e2 => ?_, fun j k as bs q e1 e2 f1 f2 => ?_⟩
  · by_cases hj : j = i
    · subst hj
      have hl : j < sd.length := by have := (List.getElem?_eq_some_iff.mp e1).1; simpa using this
      rw [List.getElem?_set_self hl] at e1
      rw [List.getElem?_set_self (by rw [← x.len]; exact hl)] at e2
      cases e1; cases e2
      exact ⟨p, vs, rfl, hz, hn, hp, r⟩
    · rw [List.getElem?_set_ne (Ne.symm hj)] at e1 e2
      exact x.sl j y o e1 e2
  · by_cases hj : j = i
    · by_cases hk : k = i
      · rw [hj, hk]
      · subst hj
        have hl : j < s.length := by have := (List.getElem?_eq_some_iff.mp f1).1; simpa using this
        rw [List.getElem?_set_self hl] at f1
        rw [List.getElem?_set_ne (Ne.symm hk)] at e2 f2
        have e : p = q := by injection f1 with f1; injection f1 with f1; injection f1
        subst e
        exact absurd f2 (fr k bs e2)
    · by_cases hk : k = i
      · subst hk
        have hl : k < s.length := by have := (List.getElem?_eq_some_iff.mp f2).1; simpa using this
        rw [List.getElem?_set_self hl] at f2
        rw [List.getElem?_set_ne (Ne.symm hj)] at e1 f1
        have e : p = q := by injection f2 with f1; injection f1 with f1; injection f1
        subst e
        exact absurd f1 (fr j as e1)
      · rw [List.getElem?_set_ne (Ne.symm hj)] at e1 f1
        rw [List.getElem?_set_ne (Ne.symm hk)] at e2 f2
        exact x.inj j k as bs q e1 e2 f1 f2
end
end Dm
end
section
namespace Dm
open PySem L2
def Out (K : PySem.W.Frag) (mg : Str → Option Value) {A B : Type} (R : C → Hp → A → B → Prop) (c : C) (H : Hp) (s : L2.St) (Q : B → Hp → Prop) (W : WX) : Res A → Prop
  | .ok a sd h => ∀ b c' H', Ext c H c' H' → bZ K c' H' sd s → bO K c' H' h → R c' H' a b → Q b H'
  | .exc x fs sd h => ∀ cls dx c' H', Ext c H c' H' → bZ K c' H' sd s → bO K c' H' h → ExR K mg c' H' x fs cls dx → W cls dx s H'
  | .bad => False
def lift (K : PySem.W.Frag) (mg : Str → Option Value) (W : WX) {A B : Type} (R : C → Hp → A → B → Prop) (m : M A) : L2.St → Hp → (B → Hp → Prop) → Prop := fun s H Q =>
  ∃ c sd h, bZ K c H sd s ∧ bO K c H h ∧ Out K mg R c H s Q W (m sd h)
abbrev lE (K : PySem.W.Frag) (mg : Str → Option Value) (W : WX) (m : M D) : TE := lift K mg W (Rel K) m
abbrev lA (K : PySem.W.Frag) (mg : Str → Option Value) (W : WX) (m : M (List D)) : TA := lift K mg W (aK K) m
def eqR {A : Type} (_ : C) (_ : Hp) (a b : A) : Prop := a = b
abbrev lT (K : PySem.W.Frag) (mg : Str → Option Value) (W : WX) (m : M Bool) : TT := lift K mg W eqR m
abbrev lO (K : PySem.W.Frag) (mg : Str → Option Value) (W : WX) (m : M (Option Int)) : TO := lift K mg W eqR m
section
variable {K : PySem.W.Frag} {mg : Str → Option Value} {A B A' B' : Type} {R : C → Hp → A → B → Prop} {R' : C → Hp → A' → B' → Prop} {c c1 : C} {H H1 : Hp} {s : L2.St} {W : WX}
theorem Out.imp {Q Q' : B → Hp → Prop} {m : Res A} (h : Out K mg R c H s Q W m) (i : ∀ b H', Q b H' → Q' b H') : Out K mg R c H s Q' W m := by
  cases m with
  | ok a sd h' => exact fun b c' H' x1 x2 x3 x4 => i b H' (h b c' H' x1 x2 x3 x4)
  | exc x fs sd h' => exact h
  | bad => exact h
theorem Out.shift {Q : B → Hp → Prop} {m : Res A} (h : Out K mg R c H s Q W m) (x : Ext c H c1 H1) : Out K mg R c1 H1 s Q W m := by
  cases m with
  | ok a sd h' => exact fun b c' H' x1 x2 x3 x4 => h b c' H' (x.trans x1) x2 x3 x4
  | exc y fs sd h' => exact fun cls dx c' H' x1 x2 x3 x4 => h cls dx c' H' (x.trans x1) x2 x3 x4
  | bad => exact h
def Then (K : PySem.W.Frag) (mg : Str → Option Value) (R : C → Hp → A → B → Prop) (s : L2.St) (P : A → Sd → Hd → C → Hp → Prop) (b : B) (H1 : Hp) : Prop :=
  ∃ c1 a sd h, bZ K c1 H1 sd s ∧ bO K c1 H1 h ∧ R c1 H1 a b ∧ P a sd h c1 H1
theorem Out.bind {Q : B' → Hp → Prop} {m : Res A} {f : A → Sd → Hd → Res A'} (h : Out K mg R' c H s Q W (m.bind f)) :
    Out K mg R c H s (Then K mg R s fun a sd h' c1 H1 => Ext c H c1 H1 ∧ Out K mg R' c1 H1 s Q W (f a sd h')) W m := by
  cases m with
  | ok a sd h' => exact fun b c' H' x1 x2 x3 x4 => ⟨c', a, sd, h', x2, x3, x4, x1, Out.shift (m := f a sd h') h x1⟩
  | exc x fs sd h' => exact h
  | bad => exact h
end
section
variable {X : Cx}
theorem aX {e : Expr} {t t' : TE} (h : PE X e t) (i : ∀ s H Q, t' s H Q → t s H Q) : PE X e t' := ⟨fun pins st s H Q I q => h.run pins st s H Q I (i s H Q q)⟩
theorem DW {e : Expr} {t t' : TT} (h : PT X e t) (i : ∀ s H Q, t' s H Q → t s H Q) : PT X e t' := ⟨fun pins st s H Q I q => h.run pins st s H Q I (i s H Q q)⟩
theorem Je {e : Expr} {t t' : TT} (h : PW X e t) (i : ∀ s H Q, t' s H Q → t s H Q) : PW X e t' := ⟨fun wh pins st s H Q I q => h.run wh pins st s H Q I (i s H Q q)⟩
theorem sU {e : List Expr} {t t' : TA} (h : PA X e t) (i : ∀ s H Q, t' s H Q → t s H Q) : PA X e t' := ⟨fun p pins st s H Q I q => h.run p pins st s H Q I (i s H Q q)⟩
theorem Jf {e : Option Expr} {t t' : TO} (h : PO X e t) (i : ∀ s H Q, t' s H Q → t s H Q) : PO X e t' := ⟨fun pins st s H Q I q => h.run pins st s H Q I (i s H Q q)⟩
theorem gQ {e : Stmt} {t t' : TS} (h : PS X e t) (i : ∀ D s H, t' D s H → t D s H) : PS X e t' := ⟨fun pins st s H D I q => h.run pins st s H D I (i D s H q)⟩
theorem yP {e : List Stmt} {t t' : TS} (h : PSs X e t) (i : ∀ D s H, t' D s H → t D s H) : PSs X e t' := ⟨fun pins st s H D I q => h.run pins st s H D I (i D s H q)⟩
end
def mC (d : D) : M D := fun s h => .ok d s h
def aC (i : Nat) : M D := fun s h => match s[i]? with
  | some (.val d) => .ok d s h
  | _ => .bad
def mOf {A : Type} (o : Option A) : M A := fun s h => match o with
  | some a => .ok a s h
  | none => .bad
def mUn (f : Hd → D → Option D) (a : M D) : M D := fun s h => (a s h).bind fun x s h => mOf (f h x) s h
def aG (f : Hd → D → D → Option D) (a b : M D) : M D := fun s h => (a s h).bind fun x s h => (b s h).bind fun y s h => mOf (f h x y) s h
def aN : M (List D) := fun s h => .ok [] s h
def ak (a : M D) (b : M (List D)) : M (List D) := fun s h => (a s h).bind fun x s h => (b s h).bind fun xs s h => .ok (x :: xs) s h
def qp (a : M (List D)) : M D := fun s h => (a s h).bind fun xs s h => if xs.length ≤ 100000 then .ok (.tup xs) s h else .bad
def Ld (a b : M D) : M D := fun s h => (a s h).bind fun x s h => match x with
  | .bl true => b s h
  | .bl false => .ok (.bl false) s h
  | _ => .bad
def Ui (a b : M D) : M D := fun s h => (a s h).bind fun x s h => match x with
  | .bl true => .ok (.bl true) s h
  | .bl false => b s h
  | _ => .bad
def bf (a : M D) : M Bool := fun s h => (a s h).bind fun x s h => match x with
  | .bl b => .ok b s h
  | _ => .bad
def Py (a b : M Bool) : M Bool := fun s h => (a s h).bind fun x s h => bif x then b s h else .ok false s h
def mOr (a b : M Bool) : M Bool := fun s h => (a s h).bind fun x s h => bif x then .ok true s h else b s h
def Pj (a : M Bool) : M Bool := fun s h => (a s h).bind fun x s h => .ok (!x) s h
def mIf {A : Type} (t : M Bool) (a b : M A) : M A := fun s h => (t s h).bind fun x s h => bif x then a s h else b s h
def bL (f : List D → Hd → Res D) (a : M (List D)) : M D := fun s h => (a s h).bind fun xs s h => match f xs h with
  | .ok d _ h => .ok d s h
  | .exc x fs _ h => .exc x fs s h
  | .bad => .bad
def mCB (f : Hd → List D → Option D) (a : M (List D)) : M D := fun s h => (a s h).bind fun xs s h => mOf (f h xs) s h
def uX : M (Option Int) := fun s h => .ok none s h
def dW (a : M D) : M (Option Int) := fun s h => (a s h).bind fun x s h => match x with
  | .int i => .ok (some i) s h
  | _ => .bad
def DOp (K : PySem.W.Frag) (f : Hd → D → D → Option D) : R2 := fun x y H Q => ∃ c h a b d, bO K c H h ∧ Rel K c H a x ∧ Rel K c H b y ∧ f h a b = some d ∧ ∀ v H', Grow H H' → Rel K c H' d v → Q v H'
def DUn (K : PySem.W.Frag) (f : Hd → D → Option D) : V → Hp → VK → Prop := fun x H Q => ∃ c h a d, bO K c H h ∧ Rel K c H a x ∧ f h a = some d ∧ ∀ v H', Grow H H' → Rel K c H' d v → Q v H'
def DCl (K : PySem.W.Frag) (f : Hd → List D → Option D) : List V → Hp → VK → Prop := fun xs H Q => ∃ c h as d, bO K c H h ∧ aK K c H as xs ∧ f h as = some d ∧ ∀ v H', Grow H H' → Rel K c H' d v → Q v H'
section
variable {X : Cx} {W : WX} {K : PySem.W.Frag} {mg : Str → Option Value}
theorem nD {f : Value → Value → Sem Value} {r r' : R2} (h : OpR X f r) (i : ∀ x y H Q, r' x y H Q → r x y H Q) : OpR X f r' := fun pins s σ H x y v u Q I rx ry q => h pins s σ H x y v u Q I rx ry (i _ _ _ _ q)
theorem JQ {f : Value → Sem Value} {r r' : V → Hp → VK → Prop} (h : UnR X f r) (i : ∀ x H Q, r' x H Q → r x H Q) : UnR X f r' := fun pins s σ H x v Q I rx q => h pins s σ H x v Q I rx (i _ _ _ q)
theorem uF {f : Value} {r r' : List V → Hp → VK → Prop} (h : CallR X f r) (i : ∀ x H Q, r' x H Q → r x H Q) : CallR X f r' := by
  intro pins s σ H x v Q I rx q
  exact h pins s σ H x v Q I rx (i _ _ _ q)
theorem zq {r r' : R2} (h : IxR X r) (i : ∀ x y H Q, r' x y H Q → r x y H Q) : IxR X r' := by
  intro e1 e2 pins s σ H x y v u Q I rx ry q hs
  exact h e1 e2 pins s σ H x y v u Q I rx ry (i _ _ _ _ q) hs
variable {a b e : Expr} {ma mb : M D} {pos : Pos}
theorem oE {c : C} {H : Hp} {s : L2.St} {Q : VK} {sd : Sd} {h : Hd} {d : D} (rs : bZ K c H sd s) (rh : bO K c H h) (q : Out K mg (Rel K) c H s Q W (.ok d sd h)) : ∀ v H', Grow H H' → Rel K c H' d v → Q v H' :=
  fun v H' g r => q v c H' (Ext.grow g) (rs.grow g) (rh.grow g) r
theorem ao (i : Nat) {x : Str} (hN : X.N[i]? = some x := by rfl) (hv : Vis X.env.scope x := by first | exact Or.inl rfl | exact Or.inr (Or.inl rfl) | exact Or.inr (Or.inr rfl)) (hd : (x == ("__debug__" : Str)) = false := by decide)
    (hcd : (x == ("__classdict__" : Str)) = false := by decide) : PE X (.Name x pos) (lE X.K X.mg W (aC i)) := aX (pe_var hN hv hd hcd) fun s H Q ⟨c, sd, h, rs, rh, q⟩ => by
  unfold aC at q
  cases e : sd[i]? with
  | none => rw [e] at q; exact q.elim
  | some y =>
    rw [e] at q
    cases y with
    | no => exact q.elim
    | own xs => exact q.elim
    | val d =>
      have hi : i < s.length := by rw [← rs.len]; exact (List.getElem?_eq_some_iff.mp e).1
      obtain ⟨v, e2, r⟩ := rs.sl i _ _ e (List.getElem?_eq_getElem hi)
      exact ⟨v, by rw [List.getElem?_eq_getElem hi, e2], q v c H (Ext.refl c H) rs rh r⟩
theorem vg {v : V} {d : D} (hr : ∀ c H, Rel K c H d v) (s : L2.St) (H : Hp) (Q : VK) : lE K mg W (mC d) s H Q → tC v s H Q := fun ⟨c, sd, h, rs, rh, q⟩ => q v c H (Ext.refl c H) rs rh (hr c H)
theorem aA {i : Int} {j : Nat} : PE X (.Constant (.int i) j pos) (lE X.K X.mg W (mC (.int i))) := aX pe_int (vg fun _ _ => rfl)
theorem U4 {i : Bool} {j : Nat} : PE X (.Constant (.bool i) j pos) (lE X.K X.mg W (mC (.bl i))) := aX pe_bl (vg fun _ _ => rfl)
theorem yh {j : Nat} : PE X (.Constant .none j pos) (lE X.K X.mg W (mC .non)) := aX pe_non (vg fun _ _ => rfl)
theorem aF {x : Str} {j : Nat} : PE X (.Constant (.str x) j pos) (lE X.K X.mg W (mC (.str x))) := aX pe_str (vg fun _ _ => rfl)
theorem Qy {x : Str} {i : Int} (hm : ∃ t, X.mg x = some (.int i t)) (hg : Gl X x := by rfl) (hd : (x == ("__debug__" : Str)) = false := by decide) : PE X (.Name x pos) (lE X.K X.mg W (mC (.int i))) := by
  obtain ⟨t, hm⟩ := hm
  exact aX (pe_glob (v := .int i) hg hm ⟨t, rfl⟩ hd) (vg fun _ _ => rfl)
theorem rK {f : Hd → D → D → Option D} (s : L2.St) (H : Hp) (Q : VK) : lE K mg W (aG f ma mb) s H Q → tOp (DOp K f) (lE K mg W ma) (lE K mg W mb) s H Q := fun ⟨c, sd, h, rs, rh, q⟩ =>
  ⟨c, sd, h, rs, rh, (Out.bind (R := Rel K) q).imp fun x H1 ⟨c1, d1, sd1, h1, rs1, rh1, r1, _, q1⟩ =>
    ⟨c1, sd1, h1, rs1, rh1, (Out.bind (R := Rel K) q1).imp fun y H2 ⟨c2, d2, sd2, h2, rs2, rh2, r2, x2, q2⟩ => by
      unfold mOf at q2
      cases e : f h2 d1 d2 with
      | none => rw [e] at q2; exact q2.elim
      | some d =>
        rw [e] at q2
        exact ⟨c2, h2, d1, d2, d, rh2, r1.car x2.car, r2, e, oE rs2 rh2 q2⟩⟩⟩
theorem aM {op : Operator} {f : Hd → D → D → Option D} (ho : OpR X (binaryOp op) (DOp X.K f)) (ha : PE X a (lE X.K X.mg W ma)) (hb : PE X b (lE X.K X.mg W mb)) : PE X (.BinOp a op b pos) (lE X.K X.mg W (aG f ma mb)) :=
  aX (pe_op ho ha hb) rK
theorem Fv {op : CmpOp} {f : Hd → D → D → Option D} (ho : OpR X (compareOp op) (DOp X.K f)) (ha : PE X a (lE X.K X.mg W ma)) (hb : PE X b (lE X.K X.mg W mb)) (hm : behindInMarks op b = false := by rfl) : PE X (.Compare a [op] [b] pos) (lE X.K X.mg W (aG f ma mb)) :=
  aX (pe_cmpR ho ha hb hm) rK
theorem rO {f : Hd → D → D → Option D} (ho : IxR X (DOp X.K f)) (ha : PE X a (lE X.K X.mg W ma)) (hb : PE X b (lE X.K X.mg W mb)) (hs : PlainIx b := by exact fun _ _ => rfl) : PE X (.Subscript a b pos) (lE X.K X.mg W (aG f ma mb)) :=
  aX (pe_ix ho ha hb hs) rK
theorem Qv {op : UnaryOp} {f : Hd → D → Option D} (ho : UnR X (unaryOp op) (DUn X.K f)) (ha : PE X a (lE X.K X.mg W ma)) : PE X (.UnaryOp op a pos) (lE X.K X.mg W (mUn f ma)) :=
  aX (pe_un ho ha) fun s H Q ⟨c, sd, h, rs, rh, q⟩ => ⟨c, sd, h, rs, rh, (Out.bind (R := Rel X.K) q).imp fun x H1 ⟨c1, d1, sd1, h1, rs1, rh1, r1, _, q1⟩ => by
    unfold mOf at q1
    cases e : f h1 d1 with
    | none => rw [e] at q1; exact q1.elim
    | some d =>
      rw [e] at q1
      exact ⟨c1, h1, d1, d, rh1, r1, e, oE rs1 rh1 q1⟩⟩
theorem xV {t : TE} (i : ∀ s H Q, lE K mg W ma s H Q → t s H Q) (s : L2.St) (H : Hp) (Q : Bool → Hp → Prop) : lT K mg W (bf ma) s H Q → tTest t s H Q := fun ⟨c, sd, h, rs, rh, q⟩ =>
  i s H _ ⟨c, sd, h, rs, rh, (Out.bind (R := Rel K) q).imp fun x H1 ⟨c1, d1, sd1, h1, rs1, rh1, r1, _, q1⟩ => by
    cases d1 with
    | bl b => exact ⟨b, r1, q1 b c1 H1 (Ext.refl _ _) rs1 rh1 rfl⟩
    | _ => exact q1.elim⟩
theorem cC {op : CmpOp} {f : Hd → D → D → Option D} (ho : OpR X (compareOp op) (DOp X.K f)) (ha : PE X a (lE X.K X.mg W ma)) (hb : PE X b (lE X.K X.mg W mb)) (hm : behindInMarks op b = false := by rfl) : PT X (.Compare a [op] [b] pos) (lT X.K X.mg W (bf (aG f ma mb))) :=
  DW (pt_cmpR ho ha hb hm) (xV rK)
theorem N7 (ha : PE X a (lE X.K X.mg W ma)) (he : ∀ whole, isTrue a X.env whole = (do let v ← whole; standAt a.pos; holding [v] (truthy v)) := by intro _; rfl) : PT X a (lT X.K X.mg W (bf ma)) :=
  DW (pt_val ha he) (xV fun _ _ _ q => q)
variable {ta tb : M Bool} {rest : List Expr}
theorem wH (ha : PT X a (lT X.K X.mg W ta)) : PW X (.BoolOp .And [a] pos) (lT X.K X.mg W ta) := pw_and1 ha
theorem dB (ha : PT X a (lT X.K X.mg W ta)) : PW X (.BoolOp .Or [a] pos) (lT X.K X.mg W ta) := pw_or1 ha
theorem w_and (ha : PT X a (lT X.K X.mg W ta)) (hb : PW X (.BoolOp .And (b :: rest) pos) (lT X.K X.mg W tb)) : PW X (.BoolOp .And (a :: b :: rest) pos) (lT X.K X.mg W (Py ta tb)) :=
  Je (pw_and ha hb) fun s H Q ⟨c, sd, h, rs, rh, q⟩ => ⟨c, sd, h, rs, rh, (Out.bind (R := eqR) q).imp fun x H1 ⟨c1, d1, sd1, h1, rs1, rh1, r1, _, q1⟩ => by
    cases r1
    cases x with
    | true => exact ⟨c1, sd1, h1, rs1, rh1, q1⟩
    | false => exact q1 false c1 H1 (Ext.refl _ _) rs1 rh1 rfl⟩
theorem w_or (ha : PT X a (lT X.K X.mg W ta)) (hb : PW X (.BoolOp .Or (b :: rest) pos) (lT X.K X.mg W tb)) : PW X (.BoolOp .Or (a :: b :: rest) pos) (lT X.K X.mg W (mOr ta tb)) :=
  Je (pw_or ha hb) fun s H Q ⟨c, sd, h, rs, rh, q⟩ => ⟨c, sd, h, rs, rh, (Out.bind (R := eqR) q).imp fun x H1 ⟨c1, d1, sd1, h1, rs1, rh1, r1, _, q1⟩ => by
    cases r1
    cases x with
    | true => exact q1 true c1 H1 (Ext.refl _ _) rs1 rh1 rfl
    | false => exact ⟨c1, sd1, h1, rs1, rh1, q1⟩⟩
theorem N8 (ha : PT X a (lT X.K X.mg W ta)) : PT X (.UnaryOp .Not a pos) (lT X.K X.mg W (Pj ta)) :=
  DW (pt_not ha) fun s H Q ⟨c, sd, h, rs, rh, q⟩ => ⟨c, sd, h, rs, rh, (Out.bind (R := eqR) q).imp fun x H1 ⟨c1, d1, sd1, h1, rs1, rh1, r1, _, q1⟩ => by
    cases r1
    exact q1 _ c1 H1 (Ext.refl _ _) rs1 rh1 rfl⟩
theorem Qw {op} (h : PE X a (lE X.K X.mg W ma)) : PE X (.BoolOp op [a] pos) (lE X.K X.mg W ma) := pe_one h
theorem U5 (ha : PE X a (lE X.K X.mg W ma)) (hb : PE X (.BoolOp .And (b :: rest) pos) (lE X.K X.mg W mb)) : PE X (.BoolOp .And (a :: b :: rest) pos) (lE X.K X.mg W (Ld ma mb)) :=
  aX (pe_and ha hb) fun s H Q ⟨c, sd, h, rs, rh, q⟩ => ⟨c, sd, h, rs, rh, (Out.bind (R := Rel X.K) q).imp fun x H1 ⟨c1, d1, sd1, h1, rs1, rh1, r1, _, q1⟩ => by
    cases d1 with
    | bl k =>
      refine ⟨k, r1, ?_⟩
      cases k with
      | true => exact ⟨c1, sd1, h1, rs1, rh1, q1⟩
      | false => exact q1 _ c1 H1 (Ext.refl _ _) rs1 rh1 rfl
    | _ => exact q1.elim⟩
theorem Wy (ha : PE X a (lE X.K X.mg W ma)) (hb : PE X (.BoolOp .Or (b :: rest) pos) (lE X.K X.mg W mb)) : PE X (.BoolOp .Or (a :: b :: rest) pos) (lE X.K X.mg W (Ui ma mb)) :=
  aX (pe_or ha hb) fun s H Q ⟨c, sd, h, rs, rh, q⟩ => ⟨c, sd, h, rs, rh, (Out.bind (R := Rel X.K) q).imp fun x H1 ⟨c1, d1, sd1, h1, rs1, rh1, r1, _, q1⟩ => by
    cases d1 with
    | bl k =>
      refine ⟨k, r1, ?_⟩
      cases k with
      | true => exact q1 _ c1 H1 (Ext.refl _ _) rs1 rh1 rfl
      | false => exact ⟨c1, sd1, h1, rs1, rh1, q1⟩
    | _ => exact q1.elim⟩
theorem U3 (hc : PT X e (lT X.K X.mg W ta)) (ha : PE X a (lE X.K X.mg W ma)) (hb : PE X b (lE X.K X.mg W mb)) : PE X (.IfExp e a b pos) (lE X.K X.mg W (mIf ta ma mb)) :=
  aX (pe_ifExp hc ha hb) fun s H Q ⟨c, sd, h, rs, rh, q⟩ => ⟨c, sd, h, rs, rh, (Out.bind (R := eqR) q).imp fun x H1 ⟨c1, d1, sd1, h1, rs1, rh1, r1, _, q1⟩ => by
    cases r1
    cases x with
    | true => exact ⟨c1, sd1, h1, rs1, rh1, q1⟩
    | false => exact ⟨c1, sd1, h1, rs1, rh1, q1⟩⟩
variable {es : List Expr} {ms : M (List D)}
theorem au : PA X [] (lA X.K X.mg W aN) := sU pa_nil fun s H Q ⟨c, sd, h, rs, rh, q⟩ => q [] c H (Ext.refl _ _) rs rh rfl
theorem aj (ha : PE X a (lE X.K X.mg W ma)) (hr : PA X es (lA X.K X.mg W ms)) (hs : starEach (a :: es) X.env = (false, eval a X.env) :: starEach es X.env := by rfl) : PA X (a :: es) (lA X.K X.mg W (ak ma ms)) :=
  sU (pa_cons ha hr hs) fun s H Q ⟨c, sd, h, rs, rh, q⟩ => ⟨c, sd, h, rs, rh, (Out.bind (R := Rel X.K) q).imp fun x H1 ⟨c1, d1, sd1, h1, rs1, rh1, r1, _, q1⟩ =>
    ⟨c1, sd1, h1, rs1, rh1, (Out.bind (R := aK X.K) q1).imp fun y H2 ⟨c2, d2, sd2, h2, rs2, rh2, r2, x2, q2⟩ => q2 _ c2 H2 (Ext.refl _ _) rs2 rh2 ⟨x, y, rfl, r1.car x2.car, r2⟩⟩⟩
theorem tH {n : Nat} (h : n ≤ 100000) : n ≤ sizeLine := Nat.le_trans h (by decide)
theorem Ea {x1 : Nat} {t : TA} (h : PA X es t) : PE X (.Tuple es x1 pos) (fun σ H Q => t σ H fun xs H1 => xs.length ≤ sizeLine ∧ ∀ (p : Addr) (o : Obj), H1 p = none → o.dict = none → Q (.ref p) (upd H1 p (.frz o (.tup xs)))) := by
  refine ⟨fun pins s σ H Q I hq => wpAny_Tuple_spliced (thn (h.run pos pins s σ H _ I hq) fun us s1 ⟨xs, H1, I1, r, z, q⟩ => ⟨by rw [← r.length]; exact z, ?_⟩)⟩
  exact ⟨.ref s1.heap.objs.size, _, I1.laid (t' := s1.toks) (o := .frz { cls := .type "tuple", data := .seq us.toArray } (.tup xs)) (fun b u e => Heap.get?_push_of_some _ e) (Nat.le_refl _) ⟨Heap.get?_push_size _ rfl, z, us, r, ⟨_, Heap.get?_push_size _ rfl, rfl, _, rfl⟩⟩, rfl, q _ _ (I1.hok.fresh (Nat.le_refl _)) rfl⟩
theorem lJ {k} (h : PA X es (lA X.K X.mg W ms)) : PE X (.Tuple es k pos) (lE X.K X.mg W (qp ms)) :=
  aX (Ea h) fun s H Q ⟨c, sd, h, rs, rh, q⟩ => ⟨c, sd, h, rs, rh, (Out.bind (R := aK X.K) q).imp fun x H1 ⟨c1, d1, sd1, h1, rs1, rh1, r1, _, q1⟩ => by
    by_cases hl : d1.length ≤ 100000
    · rw [if_pos hl] at q1
      refine ⟨tH (by rw [← r1.len]; exact hl), fun p o hp ho => ?_⟩
      have g := aD (o := .frz o (.tup x)) hp
      exact q1 _ c1 _ (Ext.grow g) (rs1.grow g) (rh1.grow g) ⟨p, x, rfl, .inl ⟨rh1.out hp, o, upd_same, ho⟩, r1.car (Car.grow g)⟩
    · rw [if_neg hl] at q1
      exact q1.elim⟩
theorem Eu {f : Hd → List D → Option D} (s : L2.St) (H : Hp) (Q : VK) : lE K mg W (mCB f ms) s H Q → tCB (DCl K f) (lA K mg W ms) s H Q := fun ⟨c, sd, h, rs, rh, q⟩ =>
  ⟨c, sd, h, rs, rh, (Out.bind (R := aK K) q).imp fun x H1 ⟨c1, d1, sd1, h1, rs1, rh1, r1, _, q1⟩ => by
    unfold mOf at q1
    cases e : f h1 d1 with
    | none => rw [e] at q1; exact q1.elim
    | some d =>
      rw [e] at q1
      exact ⟨c1, h1, d1, d, rh1, r1, e, oE rs1 rh1 q1⟩⟩
theorem cU {f : Hd → List D → Option D} {x : Str} {id : String} {p : Pos} (hc : CallR X (.builtin id) (DCl X.K f)) (hm : X.mg x = none) (hv : bootBuiltins x = some (.builtin id)) (ha : PA X (a :: es) (lA X.K X.mg W ms)) (hg : Gl X x := by rfl) (hn : x ≠ "__name__" := by decide) (hdb : (x == ("__debug__" : Str)) = false := by decide)
    (he : starEach (a :: es) X.env = (false, eval a X.env) :: starEach es X.env := by rfl) (hpl : (backTo pos (starEach es X.env)).any (·.1) = false := by rfl) : PE X (.Call (.Name x p) (a :: es) [] pos) (lE X.K X.mg W (mCB f ms)) :=
  aX (pe_callB hc hg hm hv ha hn hdb he hpl) Eu
theorem aY {f : Hd → List D → Option D} {x : Str} {T : String} {p : Pos} (hc : CallR X (.type T) (DCl X.K f)) (hm : X.mg x = none) (hv : bootBuiltins x = some (.type T)) (ha : PA X (a :: es) (lA X.K X.mg W ms)) (hg : Gl X x := by rfl) (hn : x ≠ "__name__" := by decide) (hdb : (x == ("__debug__" : Str)) = false := by decide)
    (he : starEach (a :: es) X.env = (false, eval a X.env) :: starEach es X.env := by rfl) (hpl : (backTo pos (starEach es X.env)).any (·.1) = false := by rfl) : PE X (.Call (.Name x p) (a :: es) [] pos) (lE X.K X.mg W (mCB f ms)) :=
  aX (pe_callTy hc hg hm hv ha hn hdb he hpl) Eu
theorem fH : PO X none (lO X.K X.mg W uX) := Jf po_none fun s H Q ⟨c, sd, h, rs, rh, q⟩ => q none c H (Ext.refl _ _) rs rh rfl
theorem cG (ha : PE X a (lE X.K X.mg W ma)) : PO X (some a) (lO X.K X.mg W (dW ma)) := Jf (po_some ha) fun s H Q ⟨c, sd, h, rs, rh, q⟩ => ⟨c, sd, h, rs, rh, (Out.bind (R := Rel X.K) q).imp fun x H1 ⟨c1, d1, sd1, h1, rs1, rh1, r1, _, q1⟩ => by
    cases d1 with
    | int i => exact ⟨i, r1, q1 _ c1 H1 (Ext.refl _ _) rs1 rh1 rfl⟩
    | _ => exact q1.elim⟩
end
end Dm
end
section
namespace Dm
open PySem L2
def wF (K : PySem.W.Frag) (mg : Str → Option Value) (c : C) (H : Hp) (s : L2.St) (Q : VK) (W : WX) : Res (List D) → Prop
  | .ok ds sd h => ∀ p vs c' H', Ext c H c' H' → bZ K c' H' sd s → bO K c' H' h → aK K c' H' ds vs → H' p = none → Q (.ref p) (upd H' p (.lst vs))
  | .exc x fs sd h => ∀ cls dx c' H', Ext c H c' H' → bZ K c' H' sd s → bO K c' H' h → ExR K mg c' H' x fs cls dx → W cls dx s H'
  | .bad => False
def lF (K : PySem.W.Frag) (mg : Str → Option Value) (W : WX) (m : M (List D)) : TE := fun s H Q => ∃ c sd h, bZ K c H sd s ∧ bO K c H h ∧ wF K mg c H s Q W (m sd h)
def jf (m : M (List D)) : M D := fun s h => (m s h).bind fun xs s h => .ok (.lst xs) s h
def Pn (m : M (List D)) : M D := fun s h => (m s h).bind fun xs s h => .ok (.ref h.length) s (h ++ [.lst xs])
def uM (m : M (List D)) : M (List D) := fun s h => (m s h).bind fun xs s h => if xs.length ≤ 100000 then .ok xs s h else .bad
section
variable {X : Cx} {W : WX} {K : PySem.W.Frag} {mg : Str → Option Value} {e : Expr} {m : M (List D)} {pos : Pos}
theorem dN (h : PE X e (lF X.K X.mg W m)) : PE X e (lE X.K X.mg W (jf m)) := aX h fun s H Q ⟨c, sd, h, rs, rh, q⟩ => ⟨c, sd, h, rs, rh, by
  unfold jf at q
  cases e1 : m sd h with
  | ok ds sd1 h1 =>
    rw [e1] at q
    intro p vs c' H' x1 r1 r2 r3 hp
    have g := aD (o := .lst vs) hp
    exact q _ c' _ (x1.trans (Ext.grow g)) (r1.grow g) (r2.grow g) ⟨p, vs, rfl, r2.out hp, upd_same, r3.car (Car.grow g)⟩
  | exc x fs sd1 h1 => rw [e1] at q; exact q
  | bad => rw [e1] at q; exact q⟩
theorem UW (h : PE X e (lF X.K X.mg W m)) : PE X e (lE X.K X.mg W (Pn m)) := aX h fun s H Q ⟨c, sd, h, rs, rh, q⟩ => ⟨c, sd, h, rs, rh, by
  unfold Pn at q
  cases e1 : m sd h with
  | ok ds sd1 h1 =>
    rw [e1] at q
    intro p vs c' H' x1 r1 r2 r3 hp
    refine q _ (c'.hand p) _ (x1.trans (Ext.hand hp)) (r1.hand hp) (r2.hand hp r3) ⟨p, rfl, ?_⟩
    show (c'.r ++ [p])[h1.length]? = some p
    rw [← r2.len, List.getElem?_append_right (Nat.le_refl _)]
    simp
  | exc x fs sd1 h1 => rw [e1] at q; exact q
  | bad => rw [e1] at q; exact q⟩
theorem jY {es : List Expr} {ms : M (List D)} (h : PA X es (lA X.K X.mg W ms)) : PE X (.List es pos) (lF X.K X.mg W (uM ms)) :=
  aX (pe_lst h) fun s H Q ⟨c, sd, h, rs, rh, q⟩ => ⟨c, sd, h, rs, rh, by
    unfold uM at q
    cases e1 : ms sd h with
    | ok ds sd1 h1 =>
      rw [e1] at q
      have q' : wF X.K X.mg c H s Q W (if ds.length ≤ 100000 then .ok ds sd1 h1 else .bad) := q
      by_cases hl : ds.length ≤ 100000
      · rw [if_pos hl] at q'
        intro vs c' H' x1 r1 r2 r3
        exact ⟨tH (by rw [← r3.len]; exact hl), fun p hp => q' p vs c' H' x1 r1 r2 r3 hp⟩
      · rw [if_neg hl] at q'
        exact q'.elim
    | exc x fs sd1 h1 => rw [e1] at q; exact q
    | bad => rw [e1] at q; exact q⟩
end
inductive Fl where
  | nx | rt (d : D) | bk | ct
def ni (K : PySem.W.Frag) (mg : Str → Option Value) (c : C) (H : Hp) (E : Ends) (W : WX) : Res Fl → Prop
  | .ok .nx sd h => ∀ s' c' H', Ext c H c' H' → bZ K c' H' sd s' → bO K c' H' h → E.nx s' H'
  | .ok (.rt d) sd h => ∀ v c' H', Ext c H c' H' → bO K c' H' h → Rel K c' H' d v → E.rt v H'
  | .ok .bk sd h => ∀ s' c' H', Ext c H c' H' → bZ K c' H' sd s' → bO K c' H' h → E.bk s' H'
  | .ok .ct sd h => ∀ s' c' H', Ext c H c' H' → bZ K c' H' sd s' → bO K c' H' h → E.ct s' H'
  | .exc x fs sd h => ∀ s' cls dx c' H', Ext c H c' H' → bZ K c' H' sd s' → bO K c' H' h → ExR K mg c' H' x fs cls dx → W cls dx s' H'
  | .bad => False
def lS (K : PySem.W.Frag) (mg : Str → Option Value) (W : WX) (m : M Fl) : TS := fun E s H => ∃ c sd h, bZ K c H sd s ∧ bO K c H h ∧ ni K mg c H E W (m sd h)
theorem ni.shift {K : PySem.W.Frag} {mg : Str → Option Value} {c c1 : C} {H H1 : Hp} {E : Ends} {W : WX} {m : Res Fl} (h : ni K mg c H E W m) (x : Ext c H c1 H1) : ni K mg c1 H1 E W m := by
  cases m with
  | ok f sd h' =>
    cases f with
    | nx => exact fun s' c' H' x1 x2 x3 => h s' c' H' (x.trans x1) x2 x3
    | rt d => exact fun s' c' H' x1 x2 x3 => h s' c' H' (x.trans x1) x2 x3
    | bk => exact fun s' c' H' x1 x2 x3 => h s' c' H' (x.trans x1) x2 x3
    | ct => exact fun s' c' H' x1 x2 x3 => h s' c' H' (x.trans x1) x2 x3
  | exc y fs sd h' => exact fun s' cls dx c' H' x1 x2 x3 x4 => h s' cls dx c' H' (x.trans x1) x2 x3 x4
  | bad => exact h
theorem ni.bind {K : PySem.W.Frag} {mg : Str → Option Value} {A B : Type} {R : C → Hp → A → B → Prop} {c : C} {H : Hp} {E : Ends} {W : WX} {s : L2.St} {m : Res A} {f : A → Sd → Hd → Res Fl} (h : ni K mg c H E W (m.bind f)) :
    Out K mg R c H s (Then K mg R s fun a sd h' c1 H1 => Ext c H c1 H1 ∧ ni K mg c1 H1 E W (f a sd h')) W m := by
  cases m with
  | ok a sd h' => exact fun b c' H' x1 x2 x3 x4 => ⟨c', a, sd, h', x2, x3, x4, x1, ni.shift (m := f a sd h') h x1⟩
  | exc x fs sd h' => exact fun cls dx c' H' x1 x2 x3 x4 => h s cls dx c' H' x1 x2 x3 x4
  | bad => exact h
def mNx : M Fl := fun s h => .ok .nx s h
def bU (a b : M Fl) : M Fl := fun s h => (a s h).bind fun f s h => match f with
  | .nx => b s h
  | f => .ok f s h
def Em (a : M D) : M Fl := fun s h => (a s h).bind fun _ s h => .ok .nx s h
def lg (a : M D) : M Fl := fun s h => (a s h).bind fun d s h => .ok (.rt d) s h
def jX (i : Nat) (a : M D) : M Fl := fun s h => (a s h).bind fun d s h => .ok .nx (s.set i (.val d)) h
def Gk (i : Nat) (a : M (List D)) : M Fl := fun s h => (a s h).bind fun xs s h => .ok .nx (s.set i (.own xs)) h
def BW (i : Nat) : M Fl := fun s h => match s[i]? with
  | some (.own xs) => .ok .nx (s.set i (.val (.lst xs))) h
  | _ => .bad
section
variable {X : Cx} {W : WX} {a : Expr} {st : Stmt} {rest : List Stmt} {ma : M D} {ta : M Bool} {m ms : M Fl} {pos : Pos}
theorem fD : PSs X [] (lS X.K X.mg W mNx) := yP pss_nil fun E s H ⟨c, sd, h, rs, rh, q⟩ => q s c H (Ext.refl _ _) rs rh
theorem aq (h1 : PS X st (lS X.K X.mg W m)) (h2 : PSs X rest (lS X.K X.mg W ms)) : PSs X (st :: rest) (lS X.K X.mg W (bU m ms)) :=
  yP (pss_cons h1 h2) fun E s H ⟨c, sd, h, rs, rh, q⟩ => ⟨c, sd, h, rs, rh, by
    unfold bU at q
    cases e1 : m sd h with
    | ok f sd1 h1 =>
      rw [e1] at q
      cases f with
      | nx => exact fun s' c' H' x1 r1 r2 => ⟨c', sd1, h1, r1, r2, ni.shift (m := ms sd1 h1) q x1⟩
      | rt d => exact q
      | bk => exact q
      | ct => exact q
    | exc x fs sd1 h1 => rw [e1] at q; exact q
    | bad => rw [e1] at q; exact q⟩
theorem aO (h1 : PS X st (lS X.K X.mg W m)) : PSs X [st] (lS X.K X.mg W m) := pss_one h1
theorem Jc (ha : PE X a (lE X.K X.mg W ma)) (hs : swapsWith a none pos.line X.env = pure false := by rfl) : PS X (.Expr a pos) (lS X.K X.mg W (Em ma)) :=
  gQ (ps_expr ha hs) fun E s H ⟨c, sd, h, rs, rh, q⟩ => ⟨c, sd, h, rs, rh, (ni.bind (R := Rel X.K) q).imp fun x H1 ⟨c1, d1, sd1, h1, rs1, rh1, r1, _, q1⟩ => q1 s c1 H1 (Ext.refl _ _) rs1 rh1⟩
theorem s_ret (ha : PE X a (lE X.K X.mg W ma)) : PS X (.Return (some a) pos) (lS X.K X.mg W (lg ma)) :=
  gQ (ps_ret ha) fun E s H ⟨c, sd, h, rs, rh, q⟩ => ⟨c, sd, h, rs, rh, (ni.bind (R := Rel X.K) q).imp fun x H1 ⟨c1, d1, sd1, h1, rs1, rh1, r1, _, q1⟩ => q1 x c1 H1 (Ext.refl _ _) rh1 r1⟩
theorem s_if {sa sb : List Stmt} (hc : PT X a (lT X.K X.mg W ta)) (ha : PSs X sa (lS X.K X.mg W m)) (hb : PSs X sb (lS X.K X.mg W ms)) : PS X (.If a sa sb pos) (lS X.K X.mg W (mIf ta m ms)) :=
  gQ (ps_if hc ha hb) fun E s H ⟨c, sd, h, rs, rh, q⟩ => ⟨c, sd, h, rs, rh, (ni.bind (R := eqR) q).imp fun x H1 ⟨c1, d1, sd1, h1, rs1, rh1, r1, _, q1⟩ => by
    cases r1
    cases x with
    | true => exact ⟨c1, sd1, h1, rs1, rh1, q1⟩
    | false => exact ⟨c1, sd1, h1, rs1, rh1, q1⟩⟩
theorem fG {i : Nat} {x : Str} {p : Pos} (hN : X.N.Nodup) (ha : PE X a (lE X.K X.mg W ma)) (hi : X.N[i]? = some x := by rfl) (hx : Loc X.env.scope x := by first | exact Or.inl rfl | exact Or.inr rfl) (hs : swapsWith a (some (.Name x p)) pos.line X.env = pure false := by rfl)
    (hf : X.fn x = true ∨ X.env.scope.names.lookup x = some .local := by first | exact .inl rfl | exact .inr rfl | assumption) : PS X (.Assign [.Name x p] a pos) (lS X.K X.mg W (jX i ma)) :=
  gQ (ps_set hN hi hx ha hs hf) fun E s H ⟨c, sd, h, rs, rh, q⟩ => ⟨c, sd, h, rs, rh, (ni.bind (R := Rel X.K) q).imp fun x H1 ⟨c1, d1, sd1, h1, rs1, rh1, r1, _, q1⟩ => q1 _ c1 H1 (Ext.refl _ _) (rs1.set r1) rh1⟩
theorem HF {K : PySem.W.Frag} {mg : Str → Option Value} {i : Nat} {mf : M (List D)} (E : Ends) (s : L2.St) (H : Hp) : lS K mg W (Gk i mf) E s H → tAsg (lF K mg W mf) (gName i) E s H := fun ⟨c, sd, h, rs, rh, q⟩ => ⟨c, sd, h, rs, rh, by
    unfold Gk at q
    cases e1 : mf sd h with
    | ok ds sd1 h1 =>
      rw [e1] at q
      intro p vs c' H' x1 r1 r2 r3 hp
      refine q _ (c'.hide p) _ (x1.trans (Ext.hide hp)) ?_ (r2.hide hp)
      refine (r1.hide hp).Tr List.mem_cons_self (r2.out hp).2.1 upd_same (r3.car (Car.hide hp)) fun j as ej sj => ?_
      obtain ⟨q2, ws, e3, _, _, hq2, _⟩ := r1.sl j _ _ ej sj
      have e' : p = q2 := by injection e3 with e3; injection e3
      subst e'
      rw [hp] at hq2; cases hq2
    | exc x fs sd1 h1 => rw [e1] at q; exact fun cls dx c' H' x1 x2 x3 x4 => q s cls dx c' H' x1 x2 x3 x4
    | bad => rw [e1] at q; exact q⟩
theorem DN {i : Nat} {x : Str} {p : Pos} {mf : M (List D)} (hN : X.N.Nodup) (ha : PE X a (lF X.K X.mg W mf)) (hi : X.N[i]? = some x := by rfl) (hx : Loc X.env.scope x := by first | exact Or.inl rfl | exact Or.inr rfl) (hs : swapsWith a (some (.Name x p)) pos.line X.env = pure false := by rfl)
    (hf : X.fn x = true ∨ X.env.scope.names.lookup x = some .local := by first | exact .inl rfl | exact .inr rfl | assumption) : PS X (.Assign [.Name x p] a pos) (lS X.K X.mg W (Gk i mf)) :=
  gQ (ps_set hN hi hx ha hs hf) HF
theorem wX {i : Nat} (h : PSs X rest (lS X.K X.mg W ms)) : PSs X rest (lS X.K X.mg W (bU (BW i) ms)) :=
  yP h fun E s H ⟨c, sd, h, rs, rh, q⟩ => by
    unfold bU BW at q
    cases e1 : sd[i]? with
    | none => rw [e1] at q; exact q.elim
    | some y =>
      rw [e1] at q
      cases y with
      | no => exact q.elim
      | val d => exact q.elim
      | own xs =>
        have hi : i < s.length := by rw [← rs.len]; exact (List.getElem?_eq_some_iff.mp e1).1
        have es := List.getElem?_eq_getElem hi
        obtain ⟨p, vs, e2, hz, hn, hp, r⟩ := rs.sl i _ _ e1 es
        rw [e2] at es
        let c' : C := { c with z := c.z.filter fun a => decide (a ≠ p) }
        have car : Car c H c' H := ⟨fun a u h e => ⟨⟨h.1, h.2.1, fun q => h.2.2 (List.mem_filter.mp q).1⟩, e⟩, fun _ _ e => e⟩
        have Wj : c'.out p := ⟨fun q => (rh.rn p q).2 hz, hn, fun q => by have := (List.mem_filter.mp q).2; simp at this⟩
        have ext : Ext c H c' H := ⟨⟨[], by simp [c']⟩, rfl, fun a q => .inl (List.mem_filter.mp q).1, fun _ _ _ _ e => e, fun _ o e => ⟨o, e⟩⟩
        refine ⟨c', sd.set i (.val (.lst xs)), h, ⟨by rw [List.length_set]; exact rs.len, fun j y o f1 f2 => ?_, fun j k as bs q2 f1 f2 g1 g2 => ?_⟩, ⟨rh.len, rh.nd, fun a ha => ⟨(rh.rn a ha).1, fun q => (rh.rn a ha).2 (List.mem_filter.mp q).1⟩, fun a ha => rh.hid a (ha.imp id fun q => (List.mem_filter.mp q).1), fun j o a f1 f2 => (rh.obj j o a f1 f2).car car fun _ q => q⟩, ni.shift q ext⟩
        · by_cases hj : j = i
          · subst hj
            rw [List.getElem?_set_self (List.getElem?_eq_some_iff.mp e1).1] at f1
            cases f1
            rw [es] at f2
            cases f2
            exact ⟨.ref p, rfl, p, vs, rfl, Wj, hp, r.car car⟩
          · rw [List.getElem?_set_ne (Ne.symm hj)] at f1
            have t := rs.sl j y o f1 f2
            cases y with
            | no => trivial
            | val d =>
              obtain ⟨v, e3, r3⟩ := t
              exact ⟨v, e3, r3.car car⟩
            | own as =>
              obtain ⟨q2, us, e3, g1, g2, g3, r3⟩ := t
              subst e3
              have ne : q2 ≠ p := fun z => by
                subst z
                exact hj (rs.inj j i _ _ _ f1 e1 f2 es)
              exact ⟨q2, us, rfl, List.mem_filter.mpr ⟨g1, by simp [ne]⟩, g2, g3, r3.car car⟩
        · have back : ∀ (j : Nat) (as : List D), (sd.set i (.val (.lst xs)))[j]? = some (.own as) → sd[j]? = some (.own as) := fun j as e => by
            by_cases hj : j = i
            · subst hj
              rw [List.getElem?_set_self (List.getElem?_eq_some_iff.mp e1).1] at e
              cases e
            · rw [List.getElem?_set_ne (Ne.symm hj)] at e
              exact e
          exact rs.inj j k _ _ q2 (back j as f1) (back k bs f2) g1 g2
end
def Cy (K : PySem.W.Frag) (c : C) (H : Hp) (s : L2.St) (tg : List Nat) (Q : L2.St → Hp → Prop) : Res Unit → Prop
  | .ok _ sd h => ∀ s' c' H', Ext c H c' H' → bZ K c' H' sd s' → bO K c' H' h → s'.length = s.length → (∀ j, j ∉ tg → s'[j]? = s[j]?) → Q s' H'
  | _ => False
def lG (K : PySem.W.Frag) (tg : List Nat) (g : D → M Unit) : TG := fun v s H Q => ∃ c sd h d, bZ K c H sd s ∧ bO K c H h ∧ Rel K c H d v ∧ Cy K c H s tg Q (g d sd h)
def lGs (K : PySem.W.Frag) (tg : List Nat) (g : List D → M Unit) : TGs := fun vs s H Q => ∃ c sd h ds, bZ K c H sd s ∧ bO K c H h ∧ aK K c H ds vs ∧ Cy K c H s tg Q (g ds sd h)
def gN (i : Nat) : D → M Unit := fun d s h => .ok () (s.set i (.val d)) h
def gNl : List D → M Unit := fun ds s h => match ds with
  | [] => .ok () s h
  | _ => .bad
def gCn (g : D → M Unit) (r : List D → M Unit) : List D → M Unit := fun ds s h => match ds with
  | d :: ds => (g d s h).bind fun _ s h => r ds s h
  | [] => .bad
def gTp (n : Nat) (r : List D → M Unit) : D → M Unit := fun d s h => match d with
  | .tup ds => if ds.length = n then r ds s h else .bad
  | _ => .bad
section
variable {X : Cx} {pos : Pos} {a : Expr}
theorem Jg {t : Expr} {g g' : TG} (h : PG X t g) (i : ∀ v s H Q, g' v s H Q → g v s H Q) : PG X t g' := ⟨fun pins st s H v u Q I r q => h.run pins st s H v u Q I r (i v s H Q q)⟩
theorem DY {t : List Expr} {g g' : TGs} (h : PGs X t g) (i : ∀ v s H Q, g' v s H Q → g v s H Q) : PGs X t g' := ⟨fun pins st s H v u Q I r q => h.run pins st s H v u Q I r (i v s H Q q)⟩
theorem dJ {i : Nat} {x : Str} (hN : X.N.Nodup) (hi : X.N[i]? = some x := by rfl) (hx : Loc X.env.scope x := by first | exact Or.inl rfl | exact Or.inr rfl) (hf : X.fn x = true ∨ X.env.scope.names.lookup x = some .local := by first | exact .inl rfl | exact .inr rfl | assumption) : PG X (.Name x pos) (lG X.K [i] (gN i)) :=
  Jg (pg_name hN hi hx hf) fun v s H Q ⟨c, sd, h, d, rs, rh, r, q⟩ => q (s.set i (some v)) c H (Ext.refl _ _) (rs.set r) rh (by simp) fun j hj => List.getElem?_set_ne (fun e => hj (by simp [e]))
theorem Az {tg : List Nat} : PGs X [] (lGs X.K tg gNl) := DY pgs_nil fun vs s H Q ⟨c, sd, h, ds, rs, rh, r, q⟩ => by
  cases ds with
  | nil => exact ⟨r, q s c H (Ext.refl _ _) rs rh rfl fun _ _ => rfl⟩
  | cons d ds => exact q.elim
theorem lC {e : Expr} {es : List Expr} {tg ts : List Nat} {g : D → M Unit} {r : List D → M Unit} (h1 : PG X e (lG X.K tg g)) (h2 : PGs X es (lGs X.K ts r))
    (hs : (assignEach (e :: es) X.env).map (·.2) = assign e X.env :: (assignEach es X.env).map (·.2) := by rfl) : PGs X (e :: es) (lGs X.K (tg ++ ts) (gCn g r)) :=
  DY (pgs_cons h1 h2 hs) fun vs s H Q ⟨c, sd, h, ds, rs, rh, rl, q⟩ => by
    cases ds with
    | nil => exact q.elim
    | cons d ds =>
      obtain ⟨v, vr, e1, r1, r2⟩ := (show ∃ v r, vs = v :: r ∧ Rel X.K c H d v ∧ aK X.K c H ds r from rl)
      refine ⟨v, vr, e1, c, sd, h, d, rs, rh, r1, ?_⟩
      unfold gCn at q
      cases e2 : g d sd h with
      | ok u sd1 h1 =>
        have q' : Cy X.K c H s (tg ++ ts) Q ((g d sd h).bind fun _ s h => r ds s h) := q
        rw [e2] at q'
        intro s' c' H' x1 rs1 rh1 l1 k1
        refine ⟨c', sd1, h1, ds, rs1, rh1, r2.car x1.car, ?_⟩
        have q2 : Cy X.K c H s (tg ++ ts) Q (r ds sd1 h1) := q'
        cases e3 : r ds sd1 h1 with
        | ok u sd2 h2 =>
          rw [e3] at q2
          exact fun s2 c2 H2 x2 rs2 rh2 l2 k2 => q2 s2 c2 H2 (x1.trans x2) rs2 rh2 (l2.trans l1) fun j hj => (k2 j fun z => hj (List.mem_append_right _ z)).trans (k1 j fun z => hj (List.mem_append_left _ z))
        | exc x fs sd2 h2 => rw [e3] at q2; exact q2.elim
        | bad => rw [e3] at q2; exact q2.elim
      | exc x fs sd2 h2 =>
        have q' : Cy X.K c H s (tg ++ ts) Q ((g d sd h).bind fun _ s h => r ds s h) := q
        rw [e2] at q'; exact q'.elim
      | bad =>
        have q' : Cy X.K c H s (tg ++ ts) Q ((g d sd h).bind fun _ s h => r ds s h) := q
        rw [e2] at q'; exact q'.elim
theorem HY {es : List Expr} {k n : Nat} {tg : List Nat} {r : List D → M Unit} (hc : X.calm = true) (h : PGs X es (lGs X.K tg r))
    (hn : (assignEach es X.env).length = n := by rfl) (hst : (assignEach es X.env).findIdx? (·.1) = none := by rfl) : PG X (.Tuple es k pos) (lG X.K tg (gTp n r)) :=
  Jg (pg_tup hc h hn hst) fun v s H Q ⟨c, sd, h, d, rs, rh, r1, q⟩ => by
    cases d with
    | tup ds =>
      obtain ⟨p, vs, e1, t, r2⟩ := (show ∃ a vs, v = .ref a ∧ TupAt X.K c H a vs ∧ aK X.K c H ds vs from r1)
      have q' : Cy X.K c H s tg Q (if ds.length = n then r ds sd h else .bad) := q
      by_cases hl : ds.length = n
      · rw [if_pos hl] at q'
        exact ⟨p, vs, e1, t.sq, by rw [← r2.len]; exact hl, c, sd, h, ds, rs, rh, r2, q'⟩
      · rw [if_neg hl] at q'
        exact q'.elim
    | _ => exact q.elim
end
def Ep (a : M D) (g : D → M Unit) : M Fl := fun s h => (a s h).bind fun d s h => (g d s h).only fun s h => .ok .nx s h
theorem s_asg {X : Cx} {W : WX} {tg a : Expr} {ma : M D} {ts : List Nat} {g : D → M Unit} {pos : Pos} (ha : PE X a (lE X.K X.mg W ma)) (hg : PG X tg (lG X.K ts g)) (hs : swapsWithSole [tg] a pos.line X.env = pure false := by rfl) (hw : swappedStores [tg] a X.env = pure none := by rfl)
    (h1 : (assignEach [tg] X.env).map (·.2) = [assign tg X.env] := by rfl) : PS X (.Assign [tg] a pos) (lS X.K X.mg W (Ep ma g)) :=
  gQ (ps_asg ha hg hs hw h1) fun E s H ⟨c, sd, h, rs, rh, q⟩ => ⟨c, sd, h, rs, rh, (ni.bind (R := Rel X.K) q).imp fun x H1 ⟨c1, d1, sd1, h1, rs1, rh1, r1, _, q1⟩ => ⟨c1, sd1, h1, d1, rs1, rh1, r1, by
    cases e : g d1 sd1 h1 with
    | ok u sd2 h2 =>
      rw [e] at q1
      exact fun s' c' H' x1 x2 x3 _ _ => q1 s' c' H' x1 x2 x3
    | exc y fs sd2 h2 =>
      rw [e] at q1
      exact q1.elim
    | bad => rw [e] at q1; exact q1.elim⟩⟩
end Dm
end
section
namespace Dm
open PySem L2
def JD (K : PySem.W.Frag) (c0 : C) (H0 : Hp) (xs : List D) (J : It) : Prop := ∀ c H, Car c0 H0 c H → (∀ p, H p = none → c.out p) →
  (∀ (i : Nat) d, xs[i]? = some d → J.go i H ∧ ∀ x H', J.yld i H x H' → Grow H H' ∧ Rel K c H' d x) ∧ J.stop xs.length H
abbrev lI (K : PySem.W.Frag) (mg : Str → Option Value) (W : WX) (m : M (List D)) : TI := lift K mg W (JD K) m
def v7 (a : M D) : M (List D) := fun s h => (a s h).bind fun d s h => match d with
  | .tup xs => .ok xs s h
  | .lst xs => .ok xs s h
  | .ro xs => .ok xs s h
  | _ => .bad
def rg (lo : Int) (n : Nat) : List D := (List.range n).map fun k => D.int (lo + (k : Nat))
def small (i : Int) : Bool := decide (-100000 ≤ i) && decide (i ≤ 100000)
def Ek (a : M (List D)) : M (List D) := fun s h => (a s h).bind fun xs s h => match xs with
  | [.int j] => if small j then .ok (rg 0 j.toNat) s h else .bad
  | _ => .bad
def Wr (a : M (List D)) : M (List D) := fun s h => (a s h).bind fun xs s h => match xs with
  | [.int i, .int j] => if small i && small j then .ok (rg i (j - i).toNat) s h else .bad
  | _ => .bad
theorem zY {i : Int} (h : small i = true) : -100000 ≤ i ∧ i ≤ 100000 := by
  unfold small at h
  rw [Bool.and_eq_true] at h
  exact ⟨of_decide_eq_true h.1, of_decide_eq_true h.2⟩
theorem qj (lo : Int) (n : Nat) : (rg lo n).length = n := by simp [rg]
theorem DQ (lo : Int) (n i : Nat) (h : i < n) : (rg lo n)[i]? = some (.int (lo + (i : Nat))) := by simp [rg, h]
section
variable {X : Cx} {W : WX} {K : PySem.W.Frag} {mg : Str → Option Value} {tg a : Expr} {ma : M D} {ms : M (List D)} {pos p : Pos}
theorem Ac {e : Expr} {t t' : TI} (h : PI X tg e t) (i : ∀ s H Q, t' s H Q → t s H Q) : PI X tg e t' := ⟨fun pins st s H Q I q => h.run pins st s H Q I (i s H Q q)⟩
theorem Oh {e : Expr} {t t' : TI} (h : PI X tg e t) (h' : PI X tg e t') : PI X tg e (fun s H R => t s H R ∨ t' s H R) := ⟨fun pins st s H Q I q => q.elim (h.run pins st s H Q I) (h'.run pins st s H Q I)⟩
theorem Ez {c0 : C} {H0 : Hp} {q : Addr} {ds : List D} {vs : List V} (hl : ∀ c H, Car c0 H0 c H → SqL K H q vs) (r : aK K c0 H0 ds vs) : JD K c0 H0 ds (Itl K q) := fun c H x _ =>
  ⟨fun i d e => by
    obtain ⟨v, e2, _⟩ := r.get e
    refine ⟨⟨vs, v, hl c H x, e2⟩, fun y H' ⟨e3, h3⟩ => ?_⟩
    subst e3
    have e4 := h3 vs (hl c _ x)
    rw [e2] at e4
    cases e4
    obtain ⟨w, e5, r5⟩ := (r.car x).get e
    rw [e2] at e5
    cases e5
    exact ⟨fun _ _ z => z, r5⟩, ⟨vs, hl c H x, by rw [r.len]; exact Nat.le_refl _⟩⟩
theorem Qe {c0 : C} {H0 : Hp} {q : Addr} {ds : List D} {vs : List V} (hl : ∀ c H, Car c0 H0 c H → SqT K H q vs) (r : aK K c0 H0 ds vs) : JD K c0 H0 ds (Itt K q) := fun c H x _ =>
  ⟨fun i d e => by
    obtain ⟨v, e2, _⟩ := r.get e
    refine ⟨⟨vs, v, hl c H x, e2⟩, fun y H' ⟨e3, h3⟩ => ?_⟩
    subst e3
    have e4 := h3 vs (hl c _ x)
    rw [e2] at e4
    cases e4
    obtain ⟨w, e5, r5⟩ := (r.car x).get e
    rw [e2] at e5
    cases e5
    exact ⟨fun _ _ z => z, r5⟩, ⟨vs, hl c H x, by rw [r.len]; exact Nat.le_refl _⟩⟩
theorem Ut {c0 : C} {H0 : Hp} {lo : Int} {n : Nat} : JD K c0 H0 (rg lo n) (Itr lo n) := fun c H x _ =>
  ⟨fun i d e => by
    have hi : i < n := by have := (List.getElem?_eq_some_iff.mp e).1; rw [qj] at this; exact this
    rw [DQ lo n i hi] at e
    cases e
    exact ⟨hi, fun y H' ⟨e1, e2⟩ => by subst e1; exact ⟨fun _ _ z => z, e2⟩⟩, by rw [qj]; exact Nat.le_refl n⟩
theorem Fg (ha : PE X a (lE X.K X.mg W ma)) : PI X tg a (lI X.K X.mg W (v7 ma)) :=
  Ac (Oh (pi_list ha) (pi_tup ha)) fun s H Q ⟨c, sd, h, rs, rh, q⟩ => by
    unfold v7 at q
    cases e1 : ma sd h with
    | bad => rw [e1] at q; exact q.elim
    | exc x fs sd1 h1 => rw [e1] at q; exact .inl ⟨c, sd, h, rs, rh, by rw [e1]; exact q⟩
    | ok d sd1 h1 =>
      rw [e1] at q
      cases d with
      | tup xs =>
        refine .inr ⟨c, sd, h, rs, rh, ?_⟩
        rw [e1]
        intro v c' H' x1 r1 r2 ⟨pa, vs, e3, t, r3⟩
        refine ⟨pa, e3, ⟨vs, t.sq⟩, q _ c' H' x1 r1 r2 (Qe (fun c2 H2 x => ?_) r3)⟩
        rcases t with ⟨t1, t2⟩ | t
        · exact .inl (x.kn t1 t2).2.rd
        · exact .inr t.1
      | lst xs =>
        refine .inl ⟨c, sd, h, rs, rh, ?_⟩
        rw [e1]
        intro v c' H' x1 r1 r2 ⟨pa, vs, e3, t, t2, r3⟩
        exact ⟨pa, e3, ⟨vs, SqL.of t2⟩, q _ c' H' x1 r1 r2 (Ez (fun c2 H2 x => SqL.of (x.out pa _ t t2).2) r3)⟩
      | ro xs =>
        refine .inl ⟨c, sd, h, rs, rh, ?_⟩
        rw [e1]
        intro v c' H' x1 r1 r2 ⟨pa, vs, e3, t, r3⟩
        refine ⟨pa, e3, ⟨vs, t.sq⟩, q _ c' H' x1 r1 r2 (Ez (fun c2 H2 x => ?_) r3)⟩
        rcases t with ⟨t1, t2⟩ | t
        · exact .inl (x.rd t1 t2).2
        · exact .inr t
      | _ => exact q.elim
theorem zu (hm : X.mg "range" = none) (ha : PA X [a] (lA X.K X.mg W ms)) (hg : Gl X "range" := by rfl) (hs : starEach [a] X.env = [(false, eval a X.env)] := by rfl) : PI X tg (.Call (.Name "range" p) [a] [] pos) (lI X.K X.mg W (Ek ms)) :=
  Ac (pi_range1 hg hm ha hs) fun s H Q ⟨c, sd, h, rs, rh, q⟩ => ⟨c, sd, h, rs, rh, (Out.bind (R := aK X.K) q).imp fun x H1 ⟨c1, d1, sd1, h1, rs1, rh1, r1, _, q1⟩ => by
    cases d1 with
    | nil => exact q1.elim
    | cons d ds =>
      cases ds with
      | cons d2 ds => cases d <;> exact q1.elim
      | nil =>
        cases d with
        | int j =>
          obtain ⟨v, r, e, hv, hr⟩ := r1
          cases hv
          cases hr
          have q2 : Out X.K X.mg (JD X.K) c1 H1 s Q W (if small j then .ok (rg 0 j.toNat) sd1 h1 else .bad) := q1
          cases hj : small j with
          | false => rw [hj] at q2; exact q2.elim
          | true =>
            rw [hj] at q2
            have := zY hj
            exact ⟨j, e, by omega, by omega, q2 _ c1 H1 (Ext.refl _ _) rs1 rh1 Ut⟩
        | _ => exact q1.elim⟩
end
def loop (g : D → M Unit) (b : M Fl) : List D → M Fl
  | [], s, h => .ok .nx s h
  | x :: xs, s, h => (g x s h).only fun s h => (b s h).bind fun f s h => match f with
    | .nx => loop g b xs s h
    | .ct => loop g b xs s h
    | .bk => .ok .nx s h
    | .rt d => .ok (.rt d) s h
def El (it : M (List D)) (g : D → M Unit) (b : M Fl) : M Fl := fun s h => (it s h).bind fun xs s h => loop g b xs s h
theorem yM {X : Cx} {W : WX} {tg iter : Expr} {body : List Stmt} {ms : M (List D)} {ts : List Nat} {g : D → M Unit} {mb : M Fl} {pos : Pos} (hp : PassesOwn (model X.prog X.w) X.A X.env X.xe) (hc : X.calm = true) (hi : PI X tg iter (lI X.K X.mg W ms)) (hg : PG X tg (lG X.K ts g)) (hb : PSs X body (lS X.K X.mg W mb))
    (hs : ∀ x, foldedSetIterable iter X.env x = pure x := by intro _; rfl) : PS X (.For tg iter body [] pos) (lS X.K X.mg W (El ms g mb)) :=
  gQ (ps_for hp hc hi hg hb hs) fun E s H ⟨c, sd, h, rs, rh, q⟩ => ⟨c, sd, h, rs, rh, (ni.bind (R := JD X.K) q).imp fun J H0 ⟨c0, xs, sd0, h0, rs0, rh0, ok, _, q0⟩ => by
    refine ⟨fun i m s H => m = xs.length - i ∧ i ≤ xs.length ∧ ∃ c sd h, Ext c0 H0 c H ∧ bZ X.K c H sd s ∧ bO X.K c H h ∧ ni X.K X.mg c H E W (loop g mb (xs.drop i) sd h), ⟨xs.length, rfl, Nat.zero_le _, c0, sd0, h0, Ext.refl _ _, rs0, rh0, q0⟩, ?_⟩
    rintro i m s1 H1 ⟨rfl, hi1, c1, sd1, h1, x1, rs1, rh1, q1⟩
    obtain ⟨go, stop⟩ := ok c1 H1 x1.car fun _ e => rh1.out e
    by_cases hl : i < xs.length
    · obtain ⟨g1, g2⟩ := go i xs[i] (List.getElem?_eq_getElem hl)
      refine .inr ⟨g1, fun s' H' => ∃ c sd h, Ext c0 H0 c H' ∧ bZ X.K c H' sd s' ∧ bO X.K c H' h ∧ ni X.K X.mg c H' E W (loop g mb (xs.drop (i + 1)) sd h), fun s' H' n => ⟨xs.length - (i + 1), by omega, rfl, hl, n⟩, fun y H2 hy => ?_⟩
      obtain ⟨gr, r2⟩ := g2 y H2 hy
      rw [List.drop_eq_getElem_cons hl] at q1
      refine ⟨c1, sd1, h1, xs[i], rs1.grow gr, rh1.grow gr, r2, ?_⟩
      have q2 : ni X.K X.mg c1 H1 E W ((g xs[i] sd1 h1).only fun s h => (mb s h).bind fun f s h => match f with
        | .nx => loop g mb (xs.drop (i + 1)) s h
        | .ct => loop g mb (xs.drop (i + 1)) s h
        | .bk => .ok .nx s h
        | .rt d => .ok (.rt d) s h) := q1
      cases e : g xs[i] sd1 h1 with
      | bad => rw [e] at q2; exact q2.elim
      | exc x fs sd2 h2 => rw [e] at q2; exact q2.elim
      | ok u sd2 h2 =>
        rw [e] at q2
        intro s3 c3 H3 x3 rs3 rh3 _ _
        have x13 : Ext c1 H1 c3 H3 := (Ext.grow gr).trans x3
        refine ⟨c3, sd2, h2, rs3, rh3, ?_⟩
        have q3 : ni X.K X.mg c1 H1 E W ((mb sd2 h2).bind fun f s h => match f with
          | .nx => loop g mb (xs.drop (i + 1)) s h
          | .ct => loop g mb (xs.drop (i + 1)) s h
          | .bk => .ok .nx s h
          | .rt d => .ok (.rt d) s h) := q2
        cases e3 : mb sd2 h2 with
        | bad => rw [e3] at q3; exact q3.elim
        | exc x fs sd4 h4 => rw [e3] at q3; exact fun s' cls dx c' H' y1 y2 y3 y4 => q3 s' cls dx c' H' (x13.trans y1) y2 y3 y4
        | ok f sd4 h4 =>
          rw [e3] at q3
          cases f with
          | nx => exact fun s' c' H' y1 y2 y3 => ⟨c', sd4, h4, (x1.trans x13).trans y1, y2, y3, ni.shift (m := loop g mb (xs.drop (i + 1)) sd4 h4) q3 (x13.trans y1)⟩
          | ct => exact fun s' c' H' y1 y2 y3 => ⟨c', sd4, h4, (x1.trans x13).trans y1, y2, y3, ni.shift (m := loop g mb (xs.drop (i + 1)) sd4 h4) q3 (x13.trans y1)⟩
          | bk => exact fun s' c' H' y1 y2 y3 => q3 s' c' H' (x13.trans y1) y2 y3
          | rt d => exact fun v c' H' y1 y2 y3 => q3 v c' H' (x13.trans y1) y2 y3
    · have e : i = xs.length := by omega
      subst e
      rw [List.drop_length] at q1
      exact .inl ⟨stop, q1 s1 c1 H1 (Ext.refl _ _) rs1 rh1⟩⟩
def Gr (t : M Bool) (b : M Fl) : Nat → M Fl
  | 0, _, _ => .bad
  | n + 1, s, h => (t s h).bind fun k s h => bif k then (b s h).bind fun f s h => match f with
    | .nx => Gr t b n s h
    | .ct => Gr t b n s h
    | .bk => .ok .nx s h
    | .rt d => .ok (.rt d) s h
    else .ok .nx s h
def Pb (fuel : Sd → Hd → Nat) (t : M Bool) (b : M Fl) : M Fl := fun s h => Gr t b (fuel s h) s h
end Dm
end
section
namespace Dm
open PySem L2
def Res.bd {A B : Type} (m : Res A) (f : A → Sd → Hd → Res B) : Res B := match m with
  | .ok a s h => f a s h
  | _ => .bad
def fY (vs : List Nat) (g : D → M Unit) (t : M Bool) (e : M D) : List D → List D → M (List D)
  | [], acc, s, h => .ok acc s h
  | x :: xs, acc, s, h => (g x s h).only fun s h => (t s h).bd fun k s h => bif k then (e s h).bd fun d s h => if acc.length < 100000 then fY vs g t e xs (acc ++ [d]) (cW s vs) h else .bad
    else fY vs g t e xs acc (cW s vs) h
def nH (it : M (List D)) (vs : List Nat) (g : D → M Unit) (t : M Bool) (e : M D) : M (List D) := fun s h => (it s h).bind fun xs s0 h => (fY vs g t e xs [] (cW s0 vs) h).bd fun ys s1 h => .ok ys (iJ s0 s1 vs) h
def yC : M Bool := fun s h => .ok true s h
section
variable {K : PySem.W.Frag} {c c1 c2 : C} {H H1 H2 : Hp} {sd : Sd} {s : L2.St} {p : Addr} {o : HO} {h : Hd}
theorem yD {i : Nat} : ∀ {vs : List Nat}, i ∈ vs → i < s.length → (L2.wipe s vs)[i]? = some none
  | v :: vs, hi, hl => by
    unfold L2.wipe
    by_cases e : v = i
    · subst e
      rw [List.getElem?_set_self (by rw [wipe_length]; exact hl)]
    · rw [List.getElem?_set_ne e]
      exact yD (by rcases List.mem_cons.mp hi with z | z; exact absurd z.symm e; exact z) hl
theorem wG {a b : L2.St} {vs : List Nat} (hl : a.length = b.length) (h : ∀ j, j ∉ vs → a[j]? = b[j]?) : L2.wipe a vs = L2.wipe b vs := by
  apply List.ext_getElem?
  intro i
  by_cases hi : i ∈ vs
  · by_cases hb : i < b.length
    · rw [yD hi hb, yD hi (by omega)]
    · rw [List.getElem?_eq_none (by rw [wipe_length]; omega), List.getElem?_eq_none (by rw [wipe_length]; omega)]
  · rw [wipe_out hi, wipe_out hi, h i hi]
theorem Dc {vs : List Nat} : L2.wipe (L2.wipe s vs) vs = L2.wipe s vs := wG (wipe_length _ _) fun j hj => wipe_out hj
theorem rP.start (hp : H p = none) : rP p c H (c.lock p) (upd H p o) := ⟨⟨[], by simp [C.lock]⟩, rfl, fun a h => .inl h, fun a u _ _ e => aD hp a u e, fun a u e => ⟨u, aD hp a u e⟩⟩
theorem rP.step (a : rP p c H c1 H1) (b : Ext c1 H1 c2 H2) : rP p c H c2 H2 := by
  obtain ⟨l1, e1, f1⟩ := a.r
  obtain ⟨l2, e2, f2⟩ := b.r
  refine ⟨⟨l1 ++ l2, by rw [e2, e1, List.append_assoc], fun x hx => ?_⟩, b.n.trans a.n, fun x hx => ?_, fun x o hr hz e => ?_, fun x o e => ?_⟩
  · rcases List.mem_append.mp hx with h | h
    · exact f1 x h
    · exact kZ a.dom (f2 x h)
  · rcases b.z x hx with h | h
    · exact a.z x h
    · exact .inr (kZ a.dom h)
  · refine b.old x o ?_ ?_ (a.old x o hr hz e)
    · rw [e1]
      intro q
      rcases List.mem_append.mp q with q | q
      · exact hr q
      · rw [f1 x q] at e; cases e
    · intro q
      rcases a.z x q with q | q
      · exact hz q
      · rw [q] at e; cases e
  · obtain ⟨o1, e1⟩ := a.dom x o e
    exact b.dom x o1 e1
theorem rP.write (hp : H p = none) (a : rP p c H c1 H1) : rP p c H c1 (upd H1 p o) := ⟨a.r, a.n, a.z, fun x u h1 h2 e => by
    rw [upd_ne (fun z => by rw [z, hp] at e; cases e)]; exact a.old x u h1 h2 e, fun x u e => by
    obtain ⟨v, q⟩ := a.dom x u e
    exact ⟨v, by rw [upd_ne (fun z => by rw [z, hp] at e; cases e)]; exact q⟩⟩
def JB (H : Hp) (p : Addr) : Hp := fun b => if b = p then none else H b
theorem Fy : JB H p p = none := if_pos rfl
theorem nM {a : Addr} (h : a ≠ p) : JB H p a = H a := if_neg h
theorem Im (e : H p = some o) : upd (JB H p) p o = H := by
  funext a
  by_cases h : a = p
  · subst h; rw [upd_same, e]
  · rw [upd_ne h, nM h]
theorem rP.fin (hp : H p = none) (a : rP p c H c1 H1) : Ext c H { c1 with n := c.n } (JB H1 p) := ⟨a.r, rfl, a.z, fun x u h1 h2 e => by
    rw [nM (fun z => by rw [z, hp] at e; cases e)]; exact a.old x u h1 h2 e, fun x u e => by
    obtain ⟨v, q⟩ := a.dom x u e
    exact ⟨v, by rw [nM (fun z => by rw [z, hp] at e; cases e)]; exact q⟩⟩
theorem zB {n : List Addr} (hn : c1.n = p :: n) : Car c1 H1 { c1 with n := n } (JB H1 p) := ⟨fun a u h e => ⟨⟨h.1, fun q => h.2.1 (by rw [hn]; exact List.mem_cons_of_mem _ q), h.2.2⟩, by
    rw [nM (fun z => h.2.1 (by rw [hn, z]; exact List.mem_cons_self))]; exact e⟩, fun _ _ e => e⟩
theorem Ig {n : List Addr} (hn : c1.n = p :: n) (hnp : p ∉ n) (r : bO K c1 H1 h) (hz : p ∉ c1.z) : bO K { c1 with n := n } (JB H1 p) h := ⟨r.len, r.nd, fun a ha => ⟨fun q => (r.rn a ha).1 (by rw [hn]; exact List.mem_cons_of_mem _ q), (r.rn a ha).2⟩, fun a ha => by
    obtain ⟨u, e⟩ := r.hid a (ha.imp (fun q => by rw [hn]; exact List.mem_cons_of_mem _ q) id)
    refine ⟨u, ?_⟩
    rw [nM (fun z => by subst z; exact ha.elim hnp hz)]
    exact e, fun i o a e1 e2 => (r.obj i o a e1 e2).car (zB hn) fun u q => by
    rw [nM (fun z => (r.rn a (List.mem_of_getElem? e2)).1 (by rw [hn, z]; exact List.mem_cons_self))]; exact q⟩
theorem Ie {n : List Addr} (hn : c1.n = p :: n) (r : bZ K c1 H1 sd s) : bZ K { c1 with n := n } (JB H1 p) sd s := r.car (zB hn) fun q u h1 h2 e => ⟨h1, fun z => h2 (by rw [hn]; exact List.mem_cons_of_mem _ z), by
    rw [nM (fun z => h2 (by rw [hn, z]; exact List.mem_cons_self))]; exact e⟩
end
theorem Jm {n : Nat} (h : n < 100000) : n < sizeLine := Nat.lt_of_lt_of_le h (by decide)
section
variable {K : PySem.W.Frag} {mg : Str → Option Value}
theorem Jh {A B A' : Type} {R : C → Hp → A → B → Prop} {c : C} {H : Hp} {s : L2.St} {m : Res A} {f : A → Sd → Hd → Res A'} {P : Res A' → Prop} (hb : ¬ P .bad) (h : P (m.bd f)) :
    Out K mg R c H s (Then K mg R s fun a sd h' c1 H1 => Ext c H c1 H1 ∧ P (f a sd h')) W0 m := by
  cases m with
  | ok a sd h' => exact fun b c' H' x1 x2 x3 x4 => ⟨c', a, sd, h', x2, x3, x4, x1, h⟩
  | exc x fs sd h' => exact absurd h hb
  | bad => exact absurd h hb
theorem xW {W : WX} {ms : M (List D)} {vs ts : List Nat} {g : D → M Unit} {t : M Bool} {me : M D} (hts : ∀ i ∈ ts, i ∈ vs) (s : L2.St) (H : Hp) (Q : VK) :
    lF K mg W (nH ms vs g t me) s H Q → tLc (lI K mg W ms) (lG K ts g) (lT K mg W0 t) (lE K mg W0 me) vs s H Q := fun ⟨c, sd, h, rs, rh, q⟩ => ⟨c, sd, h, rs, rh, by
  unfold nH at q
  cases e1 : ms sd h with
  | bad => rw [e1] at q; exact q.elim
  | exc x fs sd1 h1 => rw [e1] at q; exact q
  | ok xs s0 h0 =>
    rw [e1] at q
    intro J c0 H0 x0 rs0 rh0 ok p hp
    let fin : Res (List D) → Prop := fun r => wF K mg c H s Q W (r.bd fun ys s1 h => .ok ys (iJ s0 s1 vs) h)
    have nb : ¬ fin .bad := fun z => z
    have Vk := rh0.out hp
    refine ⟨fun i m H1 => m = xs.length - i ∧ i ≤ xs.length ∧ ∃ c1 sd1 h1 acc ws, rP p c0 H0 c1 H1 ∧ p ∉ c1.z ∧ H1 p = some (.lst ws) ∧ aK K c1 H1 acc ws ∧ bZ K c1 H1 sd1 (L2.wipe s vs) ∧ bO K c1 H1 h1 ∧ fin (fY vs g t me (xs.drop i) acc sd1 h1),
      ⟨xs.length, rfl, Nat.zero_le _, c0.lock p, cW s0 vs, h0, [], [], rP.start hp, Vk.2.2, upd_same, rfl, (rs0.lock hp).wipe vs, rh0.lock hp, q⟩, ?_⟩
    rintro i m H1 ⟨rfl, hi1, c1, sd1, h1, acc, ws, x1, hz1, hp1, ra1, rs1, rh1, q1⟩
    obtain ⟨go, stop⟩ := ok c1 H1 (x1.car hp) fun _ e => rh1.out e
    have hpn : ∀ {c2 : C}, c2.n = p :: c0.n → p ∈ c2.n := fun e => by rw [e]; exact List.mem_cons_self
    have zok : ∀ {c2 : C} {H2 : Hp}, Ext c1 H1 c2 H2 → p ∉ c2.z := fun {c2 H2} x z => by
      rcases x.z p z with z | z
      · exact hz1 z
      · rw [hp1] at z; cases z
    by_cases hl : i < xs.length
    · obtain ⟨g1, g2⟩ := go i xs[i] (List.getElem?_eq_getElem hl)
      refine .inr ⟨g1, fun H' => ∃ c1 sd1 h1 acc ws, rP p c0 H0 c1 H' ∧ p ∉ c1.z ∧ H' p = some (.lst ws) ∧ aK K c1 H' acc ws ∧ bZ K c1 H' sd1 (L2.wipe s vs) ∧ bO K c1 H' h1 ∧ fin (fY vs g t me (xs.drop (i + 1)) acc sd1 h1), fun H' n => ⟨xs.length - (i + 1), by omega, rfl, hl, n⟩, fun y H2 hy => ?_⟩
      obtain ⟨gr, r2⟩ := g2 y H2 hy
      rw [List.drop_eq_getElem_cons hl] at q1
      refine ⟨c1, sd1, h1, xs[i], rs1.grow gr, rh1.grow gr, r2, ?_⟩
      have q2 : fin ((g xs[i] sd1 h1).only fun s h => (t s h).bd fun k s h => bif k then (me s h).bd fun d s h => if acc.length < 100000 then fY vs g t me (xs.drop (i + 1)) (acc ++ [d]) (cW s vs) h else .bad
        else fY vs g t me (xs.drop (i + 1)) acc (cW s vs) h) := q1
      cases e : g xs[i] sd1 h1 with
      | bad => rw [e] at q2; exact (nb q2).elim
      | exc x fs sd2 h2 => rw [e] at q2; exact (nb q2).elim
      | ok u sd2 h2 =>
        rw [e] at q2
        intro s3 c3 H3 x3 rs3 rh3 l3 k3
        have x13 : Ext c1 H1 c3 H3 := (Ext.grow gr).trans x3
        have ws3 : L2.wipe s3 vs = L2.wipe s vs := by
          rw [← Dc (s := s)]
          exact wG l3 fun j hj => k3 j fun z => hj (hts j z)
        refine ⟨ws3, c3, sd2, h2, rs3, rh3, ?_⟩
        refine (Jh (R := eqR) (P := fin) nb q2).imp fun k H4 ⟨c4, k4, sd4, h4, rs4, rh4, r4, x4, q4⟩ => ?_
        cases r4
        have x14 : Ext c1 H1 c4 H4 := x13.trans x4
        have hp4 : H4 p = some (.lst ws) := x14.old p _ (fun z => (rh1.rn p z).1 (hpn x1.n)) hz1 hp1
        cases k with
        | false =>
          refine ⟨c4, cW sd4 vs, h4, acc, ws, x1.step x14, zok x14, hp4, ra1.car x14.car, ?_, rh4, q4⟩
          rw [← ws3]
          exact rs4.wipe vs
        | true =>
          have q4' : fin ((me sd4 h4).bd fun d s h => if acc.length < 100000 then fY vs g t me (xs.drop (i + 1)) (acc ++ [d]) (cW s vs) h else .bad) := q4
          refine ⟨c4, sd4, h4, rs4, rh4, (Jh (R := Rel K) (P := fin) nb q4').imp fun y5 H5 ⟨c5, d5, sd5, h5, rs5, rh5, r5, x5, q5⟩ => ?_⟩
          have x15 : Ext c1 H1 c5 H5 := x14.trans x5
          have hp5 : H5 p = some (.lst ws) := x15.old p _ (fun z => (rh1.rn p z).1 (hpn x1.n)) hz1 hp1
          by_cases ha : acc.length < 100000
          · rw [if_pos ha] at q5
            have n5 : p ∈ c5.n := hpn (x15.n.trans x1.n)
            refine ⟨ws, hp5, Jm (by rw [← ra1.len]; exact ha), c5, cW sd5 vs, h5, acc ++ [d5], ws ++ [y5], (x1.step x15).write hp, zok x15, upd_same, ?_, ?_, rh5.rR n5, q5⟩
            · exact ((ra1.car x15.car).app (aK.one r5)).car (Car.rR n5)
            · rw [← ws3]
              exact (rs5.wipe vs).rR n5
          · rw [if_neg ha] at q5
            exact (nb q5).elim
    · have e : i = xs.length := by omega
      subst e
      rw [List.drop_length] at q1
      refine .inl ⟨stop, ?_⟩
      have q2 : wF K mg c H s Q W (.ok acc (iJ s0 sd1 vs) h1) := q1
      have rb := Ie x1.n (rs1.back rs0 (x1.car hp))
      have := q2 p ws _ (JB H1 p) (x0.trans (x1.fin hp)) rb (Ig x1.n Vk.2.1 rh1 hz1) (ra1.car (zB x1.n)) Fy
      rw [Im hp1] at this
      exact this⟩
end
section
variable {X : Cx} {W : WX}
theorem rW : PTs X [] (lT X.K X.mg W yC) := ⟨fun pins st s H Q I ⟨c, sd, h, rs, rh, q⟩ => (pts_nil (X := X)).run pins st s H Q I (q true c H (Ext.refl _ _) rs rh rfl)⟩
theorem IV {a : Expr} {t : M Bool} (h : PT X a (lT X.K X.mg W t)) : PTs X [a] (lT X.K X.mg W t) := pts_one h
theorem uo {elt tg iter : Expr} {ifs : List Expr} {scope : Scope} {own : List (Str × Nat)} {ts : List Nat} {pos : Pos} {ms : M (List D)} {g : D → M Unit} {t : M Bool} {me : M D} (hc : X.calm = true) (hN : X.N.Nodup) (hi : PI X tg iter (lI X.K X.mg W ms)) (ok : BlkOk X.N X.env.scope scope own)
    (hg : ∀ (s : Shared) (H : Hp) (C : Addr) (cl : List (Str × Addr)) (fp : List Addr), PG (X.blk s H scope (compEnvC scope cl C X.env) fp) tg (lG X.K ts g)) (ht : ∀ (s : Shared) (H : Hp) (C : Addr) (cl : List (Str × Addr)) (fp : List Addr), PTs (X.blk s H scope (compEnvC scope cl C X.env) fp) ifs (lT X.K X.mg W0 t))
    (he : ∀ (s : Shared) (H : Hp) (C : Addr) (cl : List (Str × Addr)) (fp : List Addr), PE (X.blk s H scope (compEnvC scope cl C X.env) fp) elt (lE X.K X.mg W0 me)) (hts : ∀ i ∈ ts, i ∈ own.map (·.2) := by decide) (hs : ∀ x, foldedSetIterable iter X.env x = pure x := by intro _; rfl) :
    PE X (.ListComp elt [⟨tg, iter, ifs, 0⟩] scope pos) (lF X.K X.mg W (nH ms (own.map (·.2)) g t me)) := aX (pe_lc hc hN hi ok hg ht he hs) (xW hts)
theorem Ey {K : PySem.W.Frag} {mg : Str → Option Value} {i : Nat} {mf : M (List D)} (E : Ends) (s : L2.St) (H : Hp) : lS K mg W (jX i (jf mf)) E s H → tAsg (lF K mg W mf) (gName i) E s H := fun ⟨c, sd, h, rs, rh, q⟩ => ⟨c, sd, h, rs, rh, by
    unfold jX jf at q
    cases e1 : mf sd h with
    | ok ds sd1 h1 =>
      rw [e1] at q
      intro p vs c' H' x1 r1 r2 r3 hp
      have g := aD (o := .lst vs) hp
      exact q _ c' _ (x1.trans (Ext.grow g)) ((r1.grow g).set ⟨p, vs, rfl, r2.out hp, upd_same, r3.car (Car.grow g)⟩) (r2.grow g)
    | exc x fs sd1 h1 => rw [e1] at q; exact fun cls dx c' H' x1 x2 x3 x4 => q s cls dx c' H' x1 x2 x3 x4
    | bad => rw [e1] at q; exact q⟩
theorem Dz {i : Nat} {y : Str} {py : Pos} {elt tg iter : Expr} {ifs : List Expr} {scope : Scope} {own : List (Str × Nat)} {ts : List Nat} {pos spos : Pos} {ms : M (List D)} {g : D → M Unit} {t : M Bool} {me : M D} (hc : X.calm = true) (hN : X.N.Nodup)
    (hsw : swapsWith (.ListComp elt [⟨tg, iter, ifs, 0⟩] scope pos) (some (.Name y py)) spos.line X.env = pure true) (hi : PI X tg iter (lI X.K X.mg W ms)) (ok : BlkOk X.N X.env.scope scope own)
    (hg : ∀ (s : Shared) (H : Hp) (C : Addr) (cl : List (Str × Addr)) (fp : List Addr), PG (X.blk s H scope (compEnvC scope cl C X.env) fp) tg (lG X.K ts g)) (ht : ∀ (s : Shared) (H : Hp) (C : Addr) (cl : List (Str × Addr)) (fp : List Addr), PTs (X.blk s H scope (compEnvC scope cl C X.env) fp) ifs (lT X.K X.mg W0 t))
    (he : ∀ (s : Shared) (H : Hp) (C : Addr) (cl : List (Str × Addr)) (fp : List Addr), PE (X.blk s H scope (compEnvC scope cl C X.env) fp) elt (lE X.K X.mg W0 me)) (hts : ∀ i ∈ ts, i ∈ own.map (·.2) := by decide) (hy : X.N[i]? = some y := by rfl) (hyl : X.env.scope.names.lookup y = some .local := by rfl) (hs : ∀ x, foldedSetIterable iter X.env x = pure x := by intro _; rfl) :
    PS X (.Assign [.Name y py] (.ListComp elt [⟨tg, iter, ifs, 0⟩] scope pos) spos) (lS X.K X.mg W (jX i (jf (nH ms (own.map (·.2)) g t me)))) :=
  gQ (ps_setLc hc hN hy hyl hsw hi ok hg ht he hs) fun E s H q => by
    have q2 := Ey E s H q
    exact xW hts s H _ q2
end
end Dm
end
section
namespace Dm
open PySem PySem.Spec PyProof.Rows L2
variable {gp : Prop}
def fB (n : Nat) (ds : List D) : Sd := ds.map .val ++ List.replicate (n - ds.length) .no
def fin : Res Fl → Res D
  | .ok (.rt d) _ h => .ok d [] h
  | .ok .nx _ h => .ok .non [] h
  | .exc x fs _ h => .exc x fs [] h
  | _ => .bad
def fnM (n : Nat) (b : M Fl) : MF := fun ds h => fin (b (fB n ds) h)
section
variable {K : PySem.W.Frag} {mg : Str → Option Value} {c c' : C} {H H' : Hp} {h : Hd} {sd : Sd} {s : L2.St}
theorem Di (x : Ext (C.sub c) H c' H') (hz : c'.z = []) : Ext c H (C.up c' c) H' := ⟨x.r, rfl, fun a q => .inl q, fun a o h1 _ e => x.old a o h1 (fun q => nomatch q) e, x.dom⟩
theorem Dj (x : Ext (C.sub c) H c' H') (hz : c'.z = []) : Car c' H' (C.up c' c) H' := ⟨fun a u h e => ⟨⟨h.1, fun q => h.2.1 (by rw [x.n]; exact List.mem_append_left _ q), fun q => h.2.1 (by rw [x.n]; exact List.mem_append_right _ q)⟩, e⟩, fun _ _ e => e⟩
theorem Dh (x : Ext (C.sub c) H c' H') (hz : c'.z = []) (r : bO K c' H' h) : bO K (C.up c' c) H' h := ⟨r.len, r.nd, fun a ha => ⟨fun q => (r.rn a ha).1 (by rw [x.n]; exact List.mem_append_left _ q), fun q => (r.rn a ha).1 (by rw [x.n]; exact List.mem_append_right _ q)⟩, fun a ha => by
    refine r.hid a (.inl ?_)
    rw [x.n]
    exact List.mem_append.mpr ha, fun i o a e1 e2 => (r.obj i o a e1 e2).car (Dj x hz) fun _ q => q⟩
theorem Dg {h0 : Hd} (x : Ext (C.sub c) H c' H') (hz : c'.z = []) (r0 : bO K c H h0) (r : bZ K c H sd s) : bZ K (C.up c' c) H' sd s := r.car (Di x hz).car fun q u h1 h2 e => ⟨h1, h2, x.old q u (fun z => (r0.rn q z).2 h1) (fun z => nomatch z) e⟩
theorem Ew {W : WX} {n : Nat} {mf : MF} {ms : M (List D)} (s : L2.St) (H : Hp) (Q : VK) (hn : ∀ sd h xs sd' h', ms sd h = .ok xs sd' h' → xs.length = n) : lE K mg W (bL mf ms) s H Q → lA K mg W ms s H (fun vs H1 => spM K mg n mf vs H1 Q (fun cls d H' => W cls d s H')) := fun ⟨c, sd, h, rs, rh, q⟩ =>
  ⟨c, sd, h, rs, rh, by
    unfold bL at q
    cases e1 : ms sd h with
    | bad => rw [e1] at q; exact q.elim
    | exc x fs sd1 h1 => rw [e1] at q; exact q
    | ok xs sd1 h1 =>
      rw [e1] at q
      intro vs c1 H1 x1 rs1 rh1 r1
      refine ⟨C.sub c1, h1, xs, rfl, rh1.sub, r1.car Car.sub, hn _ _ _ _ _ e1, ?_⟩
      have q1 : Out K mg (Rel K) c H s Q W (match mf xs h1 with
        | .ok d _ h => .ok d sd1 h
        | .exc x fs _ h => .exc x fs sd1 h
        | .bad => .bad) := q
      cases e2 : mf xs h1 with
      | bad => rw [e2] at q1; exact q1.elim
      | ok d sd2 h2 =>
        rw [e2] at q1
        intro v c' H' x2 hz rh2 r2
        exact q1 v (C.up c' c1) H' (x1.trans (Di x2 hz)) (Dg x2 hz rh1 rs1) (Dh x2 hz rh2) (r2.car (Dj x2 hz))
      | exc y fs sd2 h2 =>
        rw [e2] at q1
        intro cls dx c' H' x2 hz rh2 r2
        exact q1 cls dx (C.up c' c1) H' (x1.trans (Di x2 hz)) (Dg x2 hz rh1 rs1) (Dh x2 hz rh2) (r2.car (Dj x2 hz))⟩
end
theorem Cq.blk {X : Cx} {W : WX} {k : Nat} (q : Cq gp X W k) {s : Shared} {H : Hp} {scope : Scope} {cenv : Env} {fp : List Addr} : Cq gp (X.blk s H scope cenv fp) W0 k := ⟨Dk, q.gu, q.rm, q.cm, q.nd⟩
theorem Def.mk2 {P : Program} {w : World} {K : PySem.W.Frag} {mg : Str → Option Value} {base : Heap} {x qual : Str} {params : Arguments} {body : List Stmt} {scope : Scope} {dvs : List V} {kws : List (Str × V)} {f : Addr} {fd : FuncData} {ps : List Str} {k : Nat} {mf : MF}
    (F : FunD K x qual params body scope dvs kws f fd) (gx : mg x = some (.ref f)) (hb : Binds K fd ps []) (h : FOk gp P w K mg base k f fd ps mf) : Def gp P w K mg base x ps k mf := by
  refine ⟨⟨f, fd, gx, F.kp, hb, h⟩, ?_⟩
  obtain ⟨oc, od, dV, kV, doc, pm, an, cdv, ct, osl, e, lk, _⟩ := F.ex
  exact ⟨f, fd, oc, od, osl, gx, F.kp, lk, h⟩
class RD (ms : M (List D)) (n : outParam Nat) : Prop where
  al : ∀ sd h xs sd' h', ms sd h = .ok xs sd' h' → xs.length = n
instance : RD aN 0 := ⟨fun sd h xs sd' h' e => by cases e; rfl⟩
instance {a : M D} {ms : M (List D)} {n : Nat} [i : RD ms n] : RD (ak a ms) (n + 1) := ⟨fun sd h xs sd' h' e => by
  unfold ak at e
  cases e1 : a sd h with
  | bad => rw [e1] at e; cases e
  | exc x fs s1 h1 => rw [e1] at e; cases e
  | ok d s1 h1 =>
    rw [e1] at e
    have e' : ((ms s1 h1).bind fun xs s h => Res.ok (d :: xs) s h) = .ok xs sd' h' := e
    cases e2 : ms s1 h1 with
    | bad => rw [e2] at e'; cases e'
    | exc x fs s1 h1 => rw [e2] at e'; cases e'
    | ok ys s2 h2 =>
      rw [e2] at e'
      have e3 : Res.ok (d :: ys) s2 h2 = .ok xs sd' h' := e'
      cases e3
      rw [List.length_cons, i.al _ _ _ _ _ e2]⟩
section
variable {X : Cx} {W : WX} {k j : Nat} {x : Str} {ps : List Str} {mf : MF} {a : Expr} {es : List Expr} {ms : M (List D)} {p pos : Pos}
theorem Kh {f : Addr} {fd : FuncData} {pins : List (Addr × Obj)} {σ : L2.St} {H : Hp} {s : Shared} {Q : VK} {us : List Value} {vs : List V} (F : FOk gp X.prog X.w X.K X.mg X.base j f fd ps mf) (hb : Binds X.K fd ps []) (q : Cq gp X W k) (hj : j ≤ k)
    (I : Inv X pins σ H s) (r : Vals vs us) (h : spM X.K X.mg ps.length mf vs H Q (fun cls d H' => W cls d σ H')) : wpAny (model X.prog X.w) X.A (call (.ref f) us) (EP X pins σ Q) X.xe s := by
  have hl : us.length = ps.length := by
    obtain ⟨c, hh, ds, _, _, rl, e, _⟩ := h
    rw [← r.length, ← rl.len, e]
  have bt := hb s us I.kIn (by rw [List.append_nil]; exact hl)
  rw [List.append_nil] at bt
  refine wpAny_call (codeAny_mono (F.run X.A X.stack s H ⟨us, []⟩ us vs Q _ (q.rm.mono hj) q.gu I.env0 bt r h) fun res s' hq => ?_)
  cases res with
  | ok fl =>
    cases fl with
    | ret u => exact I.after hq
    | _ => exact hq.elim
  | error e => exact L2N.passAt q.tk σ pins H s e s' I hq
theorem bF [al : RD ms n] (F : Def gp X.prog X.w X.K X.mg X.base x ps j mf) (q : Cq gp X W k) (ha : PA X (a :: es) (lA X.K X.mg W ms)) (hn : n = ps.length := by rfl) (hj : j ≤ k := by decide) (hg : Gl X x := by rfl)
    (hdb : (x == ("__debug__" : Str)) = false := by decide) (he : starEach (a :: es) X.env = (false, eval a X.env) :: starEach es X.env := by rfl) (hpl : (backTo pos (starEach es X.env)).any (·.1) = false := by rfl) :
    PE X (.Call (.Name x p) (a :: es) [] pos) (lE X.K X.mg W (bL mf ms)) := by
  obtain ⟨f, fd, hm, hk, hb, F⟩ := F.ex
  refine ⟨fun pins s σ H Q I h => ?_⟩
  have h2 := Ew (n := ps.length) (mf := mf) σ H Q (fun sd hh xs sd' h' e => by rw [← hn]; exact al.al _ _ _ _ _ e) h
  refine wpAny_Call_Name_kw (ld_glob I hg hm ?_ hdb)
  refine PySem.W.callWith_K (h₀ := X.base) I.ok.mod.kin hk (thn (ha.run pos pins s σ H _ I h2) fun us s1 z => ?_) he hpl
  obtain ⟨vs, H1, I1, r, z⟩ := z
  exact ⟨I1.kIn, Kh F hb q hj I1 r z⟩
end
section
variable {P : Program} {w : World} {K : PySem.W.Frag} {mg : Str → Option Value} {base : Heap} {k : Nat} {f : Addr} {x qual : Str} {params : Arguments} {body : List Stmt} {scope : Scope} {N ps : List Str} {mb : M Fl} {fd : FuncData}
theorem Ds {c : C} {H : Hp} {ds : List D} {vs : List V} (r : aK K c H ds vs) : bZ K c H (fB N.length ds) (L2.start N vs) := by
  have len := r.len
  have T7 : ∀ (i : Nat) as, (fB N.length ds)[i]? ≠ some (.own as) := fun i as e => by
    have m : Sl.own as ∈ fB N.length ds := List.mem_of_getElem? e
    unfold fB at m
    rcases List.mem_append.mp m with m | m
    · obtain ⟨d, _, e⟩ := List.mem_map.mp m
      cases e
    · have e2 := List.eq_of_mem_replicate m
      cases e2
  refine ⟨by simp [fB, L2.start, len], fun i y o e1 e2 => ?_, fun i j as bs q e1 _ _ _ => absurd e1 (T7 i as)⟩
  unfold fB at e1
  unfold L2.start at e2
  by_cases hi : i < ds.length
  · rw [List.getElem?_append_left (by simpa using hi)] at e1
    rw [List.getElem?_append_left (by simp; omega)] at e2
    rw [List.getElem?_map] at e1 e2
    cases e3 : ds[i]? with
    | none => rw [e3] at e1; cases e1
    | some d =>
      rw [e3] at e1
      cases e1
      obtain ⟨v, e4, r4⟩ := r.get e3
      rw [e4] at e2
      cases e2
      exact ⟨v, rfl, r4⟩
  · rw [List.getElem?_append_right (by simp; omega)] at e1
    have m := List.eq_of_mem_replicate (List.mem_of_getElem? e1)
    subst m
    trivial
def Vf (K : PySem.W.Frag) (f : Addr) (cdv : Value) : Prop := ∃ (oc : Value) (od : Option Addr) (fd : FuncData) (osl : Array (Option Value)) (k : Addr), K.lookup f = some ⟨oc, od, .func fd, osl⟩ ∧ fd.code = cdv ∧ cdv = .ref k
theorem Mf (F : FunD K x qual params body scope [] [] f fd) (S : FnScope N ps scope)
    (hbody : ∀ (cdv : Value) (A : Around) (outer : List Env) (s : Shared) (H : Hp) (E : XK), Vf K f cdv → Cq gp (cxOf (L2N.CX P w) P w K mg base N qual scope f cdv A outer s H E) (fun cls d _ H' => E cls d H') k →
      PassesOwn (model P w) (A.deeper (envOfC qual scope s.heap.objs.size f cdv)) (envOfC qual scope s.heap.objs.size f cdv) (cxOf (L2N.CX P w) P w K mg base N qual scope f cdv A outer s H E).xe →
      PSs (cxOf (L2N.CX P w) P w K mg base N qual scope f cdv A outer s H E) body (lS K mg (fun cls d _ H' => E cls d H') mb)) : FOk gp P w K mg base (k + 1) f fd ps (fnM N.length mb) := by
  obtain ⟨oc, od, dV, kV, doc, pm, an, cdv, ct, osl, rfl, lk, hcd, _, _⟩ := F.ex
  refine ⟨fun A outer s H args us vs Q E hr gu e0 hb r hsp => ?_⟩
  obtain ⟨c, h, ds, hz, rh, rl, hn, o⟩ := hsp
  have hl : vs.length = ps.length := by rw [← rl.len, hn]
  have stays : ∀ b ob, base.get? b = some ob → s.heap.get? b = some ob := fun b ob e => (e0.bs b ob e).1
  have KX : K.In s.heap := e0.mod.kin.keeps stays
  have lim : s.heap.NoLimit := e0.mod.nolimit.keeps stays
  refine codeAny_call_function hr.depth (KX _ _ lk) rfl S.co S.gen rfl (PySem.W.codeRec_of KX hcd) (hb _ _ _ _ ?_)
  refine wpAny_newFunctionEnv_cells S.kind (fun y hy => ?_) fun env he s1 z => ?_
  · obtain ⟨n, v⟩ := y
    exact (S.par n (List.of_mem_zip hy).1).elim .inl fun q => .inr ⟨q, PySem.W.cellsFrom_some _ _ _ (.inl q)⟩
  · subst he
    refine ⟨lim.keeps z.toInCall.keep, codeAny_func ?_⟩
    have I := inv_start (CX := L2N.CX P w) (E := E) S hr.hd e0 hl r z
    have hx : (cxOf (L2N.CX P w) P w K mg base N qual scope f cdv A outer s H E).xe = fun e s' => wpAny (model P w) (A.deeper (envOfC qual scope s.heap.objs.size f cdv)) (leaving (envOfC qual scope s.heap.objs.size f cdv) e) (fun _ s'' => L2N.CX P w outer H s E e s'') (fun e' s'' => L2N.CX P w outer H s E e' s'') s' := rfl
    have B := hbody cdv A outer s H E (by
      obtain ⟨kc, ek⟩ := He.codeIn_ref hcd
      exact ⟨_, _, _, _, kc, lk, rfl, ek⟩) ⟨L2N.takes_of rfl rfl rfl rfl, gu, hr.deeper _, rfl, S.nd⟩ (passes_of (X := cxOf (L2N.CX P w) P w K mg base N qual scope f cdv A outer s H E) hx)
    have t : lS K mg (fun cls d _ H' => E cls d H') mb { nx := fun _ H' => Q .non H', rt := Q } (L2.start N vs) H := by
      refine ⟨c, fB N.length ds, h, Ds rl, rh, ?_⟩
      unfold fnM at o
      have drop : ∀ {c' : C} {H' : Hp}, Ext c H c' H' → Ext c H { c' with z := [] } H' := fun {c' H'} x => ⟨x.r, x.n, fun a q => (nomatch q), x.old, x.dom⟩
      have U6 : ∀ {c' : C} {H' : Hp}, Car c' H' { c' with z := [] } H' := fun {c' H'} => ⟨fun a u h e => ⟨⟨h.1, h.2.1, fun q => nomatch q⟩, e⟩, fun _ _ e => e⟩
      have dH : ∀ {c' : C} {H' : Hp} {h' : Hd}, bO K c' H' h' → bO K { c' with z := [] } H' h' := fun {c' H' h'} r => ⟨r.len, r.nd, fun a ha => ⟨(r.rn a ha).1, fun q => nomatch q⟩, fun a ha => r.hid a (ha.imp id fun q => (nomatch q)), fun i o a e1 e2 => (r.obj i o a e1 e2).car U6 fun _ q => q⟩
      cases e1 : mb (fB N.length ds) h with
      | bad => rw [e1] at o; exact o.elim
      | exc y fs sd' h' =>
        rw [e1] at o
        intro s' cls dx c' H' x1 x2 x3 x4
        exact o cls dx _ H' (drop x1) rfl (dH x3) (x4.car U6)
      | ok fl sd' h' =>
        rw [e1] at o
        cases fl with
        | nx => exact fun s' c' H' x1 x2 x3 => o .non _ H' (drop x1) rfl (dH x3) rfl
        | rt d => exact fun v c' H' x1 x2 x3 => o v _ H' (drop x1) rfl (dH x2) (x3.car U6)
        | bk => exact o.elim
        | ct => exact o.elim
    refine wpAny_mono (B.run [] s1 (L2.start N vs) H _ I t) (fun fl s' hs => ?_) fun e s' hs => hs
    cases fl with
    | ret u =>
      obtain ⟨v, σ', H', J, rv, q⟩ := hs
      exact ⟨v, H', J.os, J.bare, J.base, J.hok, rv, q⟩
    | next =>
      obtain ⟨σ', H', J, q⟩ := hs
      exact ⟨.non, H', J.os, J.bare, J.base, J.hok, rfl, q⟩
    | brk => obtain ⟨_, _, _, q⟩ := hs; exact q.elim
    | cont => obtain ⟨_, _, _, q⟩ := hs; exact q.elim
theorem Jx (F : FunD K x qual params body scope [] [] f fd) (S : FnScope N ps scope)
    (hbody : ∀ (cdv : Value) (A : Around) (outer : List Env) (s : Shared) (H : Hp) (E : XK), Cq gp (cxOf (L2N.CX P w) P w K mg base N qual scope f cdv A outer s H E) (fun cls d _ H' => E cls d H') k →
      PassesOwn (model P w) (A.deeper (envOfC qual scope s.heap.objs.size f cdv)) (envOfC qual scope s.heap.objs.size f cdv) (cxOf (L2N.CX P w) P w K mg base N qual scope f cdv A outer s H E).xe →
      PSs (cxOf (L2N.CX P w) P w K mg base N qual scope f cdv A outer s H E) body (lS K mg (fun cls d _ H' => E cls d H') mb)) : FOk gp P w K mg base (k + 1) f fd ps (fnM N.length mb) :=
  Mf F S fun cdv A outer s H E _ => hbody cdv A outer s H E
theorem gU (F : FunD K x x params body scope [] [] f fd) (gx : mg x = some (.ref f)) (S : FnScope N ps scope)
    (hb : ∀ (kV doc pm : Value) (an : Option Addr) (cdv ct : Value) (us : List Value), us.length = ps.length → bindArgs (PySem.W.fnOf x x params body scope .none kV doc pm an cdv ct) ⟨us, []⟩ = pure (ps.zip us))
    (hbody : ∀ (cdv : Value) (A : Around) (outer : List Env) (s : Shared) (H : Hp) (E : XK), Cq gp (cxOf (L2N.CX P w) P w K mg base N x scope f cdv A outer s H E) (fun cls d _ H' => E cls d H') k →
      PassesOwn (model P w) (A.deeper (envOfC x scope s.heap.objs.size f cdv)) (envOfC x scope s.heap.objs.size f cdv) (cxOf (L2N.CX P w) P w K mg base N x scope f cdv A outer s H E).xe →
      PSs (cxOf (L2N.CX P w) P w K mg base N x scope f cdv A outer s H E) body (lS K mg (fun cls d _ H' => E cls d H') mb)) : Def gp P w K mg base x ps (k + 1) (fnM N.length mb) :=
  .mk2 F gx (F.bindsN hb) (Jx F S hbody)
end
end Dm
end
section
namespace Dm
open PySem PySem.Spec PyProof.Rows L2
variable {gp : Prop}
def s64 (i : Int) : Bool := decide (-18446744073709551616 < i) && decide (i < 18446744073709551616)
theorem vL {i : Int} : s64 i = true ↔ -18446744073709551616 < i ∧ i < 18446744073709551616 := by
  unfold s64
  rw [Bool.and_eq_true, decide_eq_true_iff, decide_eq_true_iff]
def cP (_ : Hd) : D → D → Option D
  | .int i, .int j => some (.int (i + j))
  | .tup xs, .tup ys => if xs.length + ys.length ≤ 100000 then some (.tup (xs ++ ys)) else none
  | .lst xs, .lst ys => if xs.length + ys.length ≤ 100000 then some (.lst (xs ++ ys)) else none
  | .str x, .str y => if x.length + y.length ≤ 100000 then some (.str (x ++ y)) else none
  | _, _ => none
def J8 (_ : Hd) : D → D → Option D
  | .int i, .int j => some (.int (i - j))
  | _, _ => none
def pH (_ : Hd) : D → D → Option D
  | .int i, .int j => if s64 i || s64 j || (bnd i && bnd j) then some (.int (i * j)) else none
  | _, _ => none
def Jt (_ : Hd) : D → D → Option D
  | .int i, .int j => if decide (0 < j) && bnd j then some (.int (i / j)) else none
  | _, _ => none
def Gj (_ : Hd) : D → D → Option D
  | .int i, .int j => if decide (0 < j) then some (.int (i % j)) else none
  | _, _ => none
def yQ (_ : Hd) : D → D → Option D
  | .int i, .int j => if s64 i && decide (0 ≤ j) && decide (j ≤ 1000) then some (.int (i ^ j.toNat)) else none
  | _, _ => none
def Hh (_ : Hd) : D → Option D
  | .int i => some (.int (-i))
  | _ => none
def ltD (_ : Hd) : D → D → Option D
  | .int i, .int j => some (.bl (decide (i < j)))
  | _, _ => none
def leD (_ : Hd) : D → D → Option D
  | .int i, .int j => some (.bl (decide (i ≤ j)))
  | _, _ => none
def gtD (_ : Hd) : D → D → Option D
  | .int i, .int j => some (.bl (decide (j < i)))
  | _, _ => none
def geD (_ : Hd) : D → D → Option D
  | .int i, .int j => some (.bl (decide (j ≤ i)))
  | _, _ => none
section
variable {X : Cx}
theorem yR {f : Value → Value → Sem Value} {Cd : Int → Int → Prop} {g : Int → Int → V} {F : Hd → D → D → Option D} (ho : OpR X f (rI Cd g))
    (hF : ∀ h a b d, F h a b = some d → ∃ i j, a = .int i ∧ b = .int j ∧ Cd i j ∧ ∀ K c H, Rel K c H d (g i j)) : OpR X f (DOp X.K F) := nD ho fun x y H Q ⟨c, h, a, b, d, rh, ra, rb, e, q⟩ => by
  obtain ⟨i, j, rfl, rfl, hc, hr⟩ := hF h a b d e
  exact ⟨i, j, ra, rb, hc, q _ H (fun _ _ z => z) (hr _ _ _)⟩
theorem vN {f : Value → Value → Sem Value} {g : Int → Int → V} {F : Hd → D → D → Option D} (ho : OpR X f (rI0 g))
    (hF : ∀ h a b d, F h a b = some d → ∃ i j, a = .int i ∧ b = .int j ∧ ∀ K c H, Rel K c H d (g i j)) : OpR X f (DOp X.K F) := nD ho fun x y H Q ⟨c, h, a, b, d, rh, ra, rb, e, q⟩ => by
  obtain ⟨i, j, rfl, rfl, hr⟩ := hF h a b d e
  exact ⟨i, j, ra, rb, q _ H (fun _ _ z => z) (hr _ _ _)⟩
theorem Ky : OpR X (binaryOp .Sub) (DOp X.K J8) := vN op_sub fun h a b d e => by
  unfold J8 at e
  split at e <;> cases e
  exact ⟨_, _, rfl, rfl, fun _ _ _ => rfl⟩
theorem Vn : OpR X (compareOp .Lt) (DOp X.K ltD) := vN op_lt fun h a b d e => by
  unfold ltD at e
  split at e <;> cases e
  exact ⟨_, _, rfl, rfl, fun _ _ _ => rfl⟩
theorem Rf : OpR X (compareOp .Gt) (DOp X.K gtD) := vN op_gt fun h a b d e => by
  unfold gtD at e
  split at e <;> cases e
  exact ⟨_, _, rfl, rfl, fun _ _ _ => rfl⟩
theorem Vo : OpR X (compareOp .GtE) (DOp X.K geD) := vN op_ge fun h a b d e => by
  unfold geD at e
  split at e <;> cases e
  exact ⟨_, _, rfl, rfl, fun _ _ _ => rfl⟩
theorem G8 : OpR X (binaryOp .Mod) (DOp X.K Gj) := yR op_mod fun h a b d e => by
  unfold Gj at e
  split at e
  · split at e
    · rename_i hj
      cases e
      exact ⟨_, _, rfl, rfl, of_decide_eq_true hj, fun _ _ _ => rfl⟩
    · cases e
  · cases e
theorem Kz : OpR X (binaryOp .FloorDiv) (DOp X.K Jt) := yR op_fdivW fun h a b d e => by
  unfold Jt at e
  split at e
  · split at e
    · rename_i hj
      rw [Bool.and_eq_true] at hj
      cases e
      refine ⟨_, _, rfl, rfl, ⟨of_decide_eq_true hj.1, ?_⟩, fun _ _ _ => rfl⟩
      have := uH hj.2
      omega
    · cases e
  · cases e
theorem rA : OpR X (binaryOp .Mult) (DOp X.K pH) := nD ((op_mul (X := X)).or op_mulW) fun x y H Q ⟨c, h, a, b, d, rh, ra, rb, e, q⟩ => by
  unfold pH at e
  split at e
  · rename_i i j
    split at e
    · rename_i hj
      cases e
      have fin := q _ H (fun _ _ z => z) rfl
      cases h1 : s64 i with
      | true => exact .inl ⟨i, j, ra, rb, .inl (by have := vL.mp h1; omega), fin⟩
      | false =>
        cases h2 : s64 j with
        | true => exact .inl ⟨i, j, ra, rb, .inr (by have := vL.mp h2; omega), fin⟩
        | false =>
          rw [h1, h2] at hj
          simp only [Bool.or_self, Bool.false_or, Bool.and_eq_true] at hj
          refine .inr ⟨i, j, ra, rb, ?_, fin⟩
          have := uH hj.1
          have := uH hj.2
          unfold CMulW
          omega
    · cases e
  · cases e
theorem Ec : OpR X (binaryOp .Pow) (DOp X.K yQ) := yR op_pow fun h a b d e => by
  unfold yQ at e
  split at e
  · split at e
    · rename_i hj
      simp only [Bool.and_eq_true, decide_eq_true_eq] at hj
      cases e
      refine ⟨_, _, rfl, rfl, ⟨hj.1.2, by omega, ?_⟩, fun _ _ _ => rfl⟩
      have := vL.mp hj.1.1
      omega
    · cases e
  · cases e
theorem Ed : UnR X (unaryOp .USub) (DUn X.K Hh) := JQ un_neg fun x H Q ⟨c, h, a, d, rh, ra, e, q⟩ => by
  unfold Hh at e
  split at e
  · cases e
    exact ⟨_, ra, q _ H (fun _ _ z => z) rfl⟩
  · cases e
theorem Ku : OpR X (binaryOp .Add) (fun x y H Q => ∃ a b xs ys, x = .ref a ∧ y = .ref b ∧ SqT X.K H a xs ∧ SqT X.K H b ys ∧ xs.length + ys.length ≤ sizeLine ∧ (xs = [] → Q (.ref b) H) ∧ (xs ≠ [] → ys = [] → Q (.ref a) H) ∧
    (xs ≠ [] → ys ≠ [] → ∀ (p : Addr) (o : Obj), H p = none → o.dict = none → Q (.ref p) (upd H p (.frz o (.tup (xs ++ ys)))))) := by
  rintro pins s σ H x y v u Q I rx ry ⟨a, b, xs, ys, rfl, rfl, ha, hb, hz, q0, q1, q2⟩
  cases rx
  cases ry
  obtain ⟨its, r1, p1, _⟩ := I.tuple ha
  obtain ⟨its2, r2, p2, _⟩ := I.tuple hb
  by_cases hx : xs = []
  · subst hx
    cases r1
    exact cat_tup0 p1 p2 ⟨.ref b, H, I, rfl, q0 rfl⟩
  · refine HT.cat_tup p1 p2 (fun z => hx (r1.nil_iff.mp z)) (fun z => ⟨.ref a, H, I, rfl, q1 hx (r2.nil_iff.mp z)⟩) (fun z => ?_) (by rw [← r1.length, ← r2.length]; exact hz)
    refine ⟨.ref s.heap.objs.size, _, I.laid (t' := s.toks) (o := .frz _ (.tup (xs ++ ys))) (fun b ob q => Heap.get?_push_of_some _ q) (Nat.le_refl _) ⟨Heap.get?_push_size _ rfl, by rw [List.length_append]; exact hz, _, r1.append r2, IsTup.new _ _⟩, rfl, q2 hx (fun w => z (r2.nil_iff.mpr w)) _ _ (I.hok.fresh (Nat.le_refl _)) rfl⟩
theorem bY : OpR X (binaryOp .Add) (DOp X.K cP) := nD ((op_add (X := X)).or (Ku.or (op_cat.or op_add_str))) fun x y H Q ⟨c, h, a, b, d, rh, ra, rb, e, q⟩ => by
  unfold cP at e
  split at e
  · cases e
    exact .inl ⟨_, _, ra, rb, q _ H (fun _ _ z => z) rfl⟩
  · split at e
    · rename_i xs ys hl
      cases e
      obtain ⟨p1, v1, e1, t1, r1⟩ := ra
      obtain ⟨p2, v2, e2, t2, r2⟩ := rb
      refine .inr (.inl ⟨p1, p2, v1, v2, e1, e2, t1.sq, t2.sq, tH (by rw [← r1.len, ← r2.len]; exact hl), fun z => ?_, fun _ z => ?_, fun _ _ p o hp ho => ?_⟩)
      · subst z
        have l := r1.len
        cases xs with
        | nil => exact q _ H (fun _ _ z => z) ⟨p2, v2, rfl, t2, r2⟩
        | cons x xs => simp at l
      · subst z
        have l := r2.len
        cases ys with
        | nil => exact q _ H (fun _ _ z => z) ⟨p1, v1, rfl, t1, by rw [List.append_nil]; exact r1⟩
        | cons x xs => simp at l
      · have g := aD (o := .frz o (.tup (v1 ++ v2))) hp
        exact q _ _ g ⟨p, v1 ++ v2, rfl, .inl ⟨rh.out hp, o, upd_same, ho⟩, (r1.app r2).car (Car.grow g)⟩
    · cases e
  · split at e
    · rename_i xs ys hl
      cases e
      obtain ⟨p1, v1, e1, o1, t1, r1⟩ := ra
      obtain ⟨p2, v2, e2, o2, t2, r2⟩ := rb
      refine .inr (.inr (.inl ⟨p1, p2, v1, v2, e1, e2, t1, t2, tH (by rw [← r1.len, ← r2.len]; exact hl), fun p hp => ?_⟩))
      have g := aD (o := .lst (v1 ++ v2)) hp
      exact q _ _ g ⟨p, v1 ++ v2, rfl, rh.out hp, upd_same, (r1.app r2).car (Car.grow g)⟩
    · cases e
  · split at e
    · rename_i hl
      cases e
      exact .inr (.inr (.inr ⟨_, _, ra, rb, tH hl, q _ H (fun _ _ z => z) rfl⟩))
    · cases e
  · cases e
end
def eqB : D → D → Option Bool
  | .int i, .int j => some (decide (i = j))
  | .str x, .str y => some (decide (x = y))
  | .bl x, .bl y => some (decide (x = y))
  | .non, .non => some true
  | a, b => match a.py, b.py with
    | some d, some e => if SeqAt.shaped d && SeqAt.shaped e then some (PyData.eqv d e) else none
    | _, _ => none
def eqD (_ : Hd) (a b : D) : Option D := (eqB a b).map .bl
def neD (_ : Hd) (a b : D) : Option D := (eqB a b).map fun k => .bl !k
theorem yg {a b : D} {k : Bool} (h : eqB a b = some k) : (∃ i j, a = .int i ∧ b = .int j ∧ k = decide (i = j)) ∨ (∃ i j, a = .str i ∧ b = .str j ∧ k = decide (i = j)) ∨ (∃ i j, a = .bl i ∧ b = .bl j ∧ k = decide (i = j)) ∨ (a = .non ∧ b = .non ∧ k = true) ∨
    ∃ d e, a.py = some d ∧ b.py = some e ∧ SeqAt.shaped d = true ∧ SeqAt.shaped e = true ∧ k = PyData.eqv d e := by
  unfold eqB at h
  split at h
  · cases h; exact .inl ⟨_, _, rfl, rfl, rfl⟩
  · cases h; exact .inr (.inl ⟨_, _, rfl, rfl, rfl⟩)
  · cases h; exact .inr (.inr (.inl ⟨_, _, rfl, rfl, rfl⟩))
  · cases h; exact .inr (.inr (.inr (.inl ⟨rfl, rfl, rfl⟩)))
  · split at h
    · rename_i d e h1 h2
      split at h
      · rename_i hs
        rw [Bool.and_eq_true] at hs
        cases h
        exact .inr (.inr (.inr (.inr ⟨d, e, h1, h2, hs.1, hs.2, rfl⟩)))
      · cases h
    · cases h
section
variable {X : Cx} {W : WX} {k : Nat}
theorem T6 (hu0 : X.A.units + 64 < cLine) : OpR X (compareOp .Eq) (DOp X.K eqD) := nD ((op_eq (X := X)).or (op_eqD hu0)) fun x y H Q ⟨c, h, a, b, d, rh, ra, rb, e, q⟩ => by
  unfold eqD at e
  cases e1 : eqB a b with
  | none => rw [e1] at e; cases e
  | some k =>
    rw [e1] at e
    cases e
    have fin := q _ H (fun _ _ z => z) rfl
    rcases yg e1 with ⟨i, j, rfl, rfl, rfl⟩ | ⟨i, j, rfl, rfl, rfl⟩ | ⟨i, j, rfl, rfl, rfl⟩ | ⟨rfl, rfl, rfl⟩ | ⟨d, e, h1, h2, h3, h4, rfl⟩
    · cases ra; cases rb; exact .inl ⟨rfl, by simpa using fin⟩
    · cases ra; cases rb; exact .inl ⟨rfl, by simpa using fin⟩
    · cases ra; cases rb; exact .inl ⟨rfl, by simpa using fin⟩
    · cases ra; cases rb; exact .inl ⟨rfl, by simpa using fin⟩
    · exact .inr ⟨d, e, ra.dp h1, rb.dp h2, h3, h4, fin⟩
theorem Ov (hu0 : X.A.units + 64 < cLine) : OpR X (compareOp .NotEq) (DOp X.K neD) := nD ((op_ne (X := X)).or (op_neD hu0)) fun x y H Q ⟨c, h, a, b, d, rh, ra, rb, e, q⟩ => by
  unfold neD at e
  cases e1 : eqB a b with
  | none => rw [e1] at e; cases e
  | some k =>
    rw [e1] at e
    cases e
    have fin := q _ H (fun _ _ z => z) rfl
    rcases yg e1 with ⟨i, j, rfl, rfl, rfl⟩ | ⟨i, j, rfl, rfl, rfl⟩ | ⟨i, j, rfl, rfl, rfl⟩ | ⟨rfl, rfl, rfl⟩ | ⟨d, e, h1, h2, h3, h4, rfl⟩
    · cases ra; cases rb; exact .inl ⟨rfl, by simpa using fin⟩
    · cases ra; cases rb; exact .inl ⟨rfl, by simpa using fin⟩
    · cases ra; cases rb; exact .inl ⟨rfl, by simpa using fin⟩
    · cases ra; cases rb; exact .inl ⟨rfl, by simpa using fin⟩
    · exact .inr ⟨d, e, ra.dp h1, rb.dp h2, h3, h4, fin⟩
theorem Ow (q : Cq gp X W k) : OpR X (compareOp .NotEq) (DOp X.K neD) := Ov q.rm.units
end
def ixD (h : Hd) (a b : D) : Option D := match view h a, b with
  | .tup xs, .int i => atI xs i
  | .lst xs, .int i => atI xs i
  | .ro xs, .int i => atI xs i
  | _, _ => none
def Qh (_ : Hd) (a b : D) : Option D := match b with
  | .non => some (.bl (match a with | .non => true | _ => false))
  | _ => none
section
variable {K : PySem.W.Frag} {c : C} {H : Hp} {h : Hd}
theorem mj {a : D} {x : V} {xs : List D} (rh : bO K c H h) (r : Rel K c H a x) (e : view h a = .tup xs) : ∃ p vs, x = .ref p ∧ TupAt K c H p vs ∧ aK K c H xs vs := by
  cases a with
  | tup ys => cases e; exact r
  | ref i =>
    unfold view at e
    split at e <;> (try split at e) <;> first | cases e | (rename_i z; cases z; simp_all)
  | _ => cases e
theorem fW {a : D} {x : V} {xs : List D} (rh : bO K c H h) (r : Rel K c H a x) (e : view h a = .lst xs) : ∃ p vs, x = .ref p ∧ H p = some (.lst vs) ∧ aK K c H xs vs := by
  cases a with
  | lst ys =>
    cases e
    obtain ⟨p, vs, e1, _, e2, e3⟩ := r
    exact ⟨p, vs, e1, e2, e3⟩
  | ref i =>
    cases q : h[i]? with
    | none => simp [view, q] at e
    | some o =>
      cases o with
      | lst ys =>
        simp [view, q] at e
        subst e
        obtain ⟨p, e1, e2⟩ := r
        obtain ⟨vs, e3, e4⟩ := rh.obj i _ p q e2
        exact ⟨p, vs, e1, e3, e4⟩
      | _ => simp [view, q] at e
  | _ => cases e
theorem nu {a : D} {x : V} {xs : List D} (rh : bO K c H h) (r : Rel K c H a x) (e : view h a = .ro xs) : ∃ p vs, x = .ref p ∧ MP K c H p vs ∧ aK K c H xs vs := by
  cases a with
  | ro ys => cases e; exact r
  | ref i =>
    cases q : h[i]? with
    | none => simp [view, q] at e
    | some o => cases o <;> simp [view, q] at e
  | _ => cases e
end
section
variable {X : Cx}
theorem tD : IxR X (DOp X.K ixD) := zq ix_seq fun x y H Q ⟨c, h, a, b, d, rh, ra, rb, e, q⟩ => by
  unfold ixD at e
  split at e
  · rename_i xs i hv
    cases rb
    obtain ⟨p, vs, e1, t, r⟩ := mj rh ra hv
    obtain ⟨v, e2, r2⟩ := r.at e
    exact .inr (.inl ⟨p, vs, _, v, e1, rfl, t.sq, e2, q v H (fun _ _ z => z) r2⟩)
  · rename_i xs i hv
    cases rb
    obtain ⟨p, vs, e1, t, r⟩ := fW rh ra hv
    obtain ⟨v, e2, r2⟩ := r.at e
    exact .inl ⟨p, vs, _, v, e1, rfl, SqL.of t, e2, q v H (fun _ _ z => z) r2⟩
  · rename_i xs i hv
    cases rb
    obtain ⟨p, vs, e1, t, r⟩ := nu rh ra hv
    obtain ⟨v, e2, r2⟩ := r.at e
    exact .inl ⟨p, vs, _, v, e1, rfl, t.sq, e2, q v H (fun _ _ z => z) r2⟩
  · cases e
theorem Kl {K : PySem.W.Frag} {c : C} {H : Hp} {a : D} {x : V} (r : Rel K c H a x) : decide (x = .non) = (match a with | .non => true | _ => false) := by
  cases a with
  | non => cases r; rfl
  | bl b => cases r; rfl
  | int b => cases r; rfl
  | str b => cases r; rfl
  | tup xs => obtain ⟨p, vs, e, _⟩ := r; subst e; rfl
  | lst xs => obtain ⟨p, vs, e, _⟩ := r; subst e; rfl
  | ro xs => obtain ⟨p, vs, e, _⟩ := r; subst e; rfl
  | edt => obtain ⟨p, e, _⟩ := r; subst e; rfl
  | dtx k n => obtain ⟨p, e, _⟩ := r; subst e; rfl
  | ref i => obtain ⟨p, e, _⟩ := r; subst e; rfl
theorem Wk : OpR X (compareOp .Is) (DOp X.K Qh) := nD op_isN fun x y H Q ⟨c, h, a, b, d, rh, ra, rb, e, q⟩ => by
  unfold Qh at e
  split at e
  · cases e
    cases rb
    refine ⟨rfl, q _ H (fun _ _ z => z) ?_⟩
    rw [Kl ra]
    cases a <;> rfl
  · cases e
end
end Dm
end
section
namespace Dm
open PySem PySem.Spec PyProof.Rows L2
def pO (h : Hd) : List D → Option D
  | [a] => match view h a with
    | .tup xs => some (.int xs.length)
    | .lst xs => some (.int xs.length)
    | .ro xs => some (.int xs.length)
    | .str x => if x.length ≤ 100000 then some (.int x.length) else none
    | _ => none
  | _ => none
def intD (_ : Hd) : List D → Option D
  | [.int i] => some (.int i)
  | [.bl b] => some (.int (if b then 1 else 0))
  | _ => none
def intsOf : List D → Option (List Int)
  | [] => some []
  | .int i :: r => (intsOf r).map (i :: ·)
  | _ => none
def boolsOf : List D → Option (List Bool)
  | [] => some []
  | .bl i :: r => (boolsOf r).map (i :: ·)
  | _ => none
def uP (h : Hd) (a : D) : Option (List D) := match view h a with
  | .tup xs => some xs
  | .lst xs => some xs
  | .ro xs => some xs
  | _ => none
def BZ (h : Hd) (a : D) : Option (List D) := match view h a with
  | .lst xs => some xs
  | .ro xs => some xs
  | _ => none
def Hw (h : Hd) (a : D) : Option (List D) := match view h a with
  | .lst xs => some xs
  | .ro xs => some xs
  | .tup xs => some xs
  | _ => none
def Vq : List Int → Int
  | [] => 0
  | [x] => x
  | x :: y :: r => max x (Vq (y :: r))
def Vp : List Int → Int
  | [] => 0
  | [x] => x
  | x :: y :: r => min x (Vp (y :: r))
def maxD (h : Hd) : List D → Option D
  | [.int i, .int j] => some (.int (if j > i then j else i))
  | [a] => match (BZ h a).bind intsOf with
    | some (x :: r) => some (.int (Vq (x :: r)))
    | _ => none
  | _ => none
def minD (h : Hd) : List D → Option D
  | [.int i, .int j] => some (.int (if j < i then j else i))
  | [a] => match (BZ h a).bind intsOf with
    | some (x :: r) => some (.int (Vp (x :: r)))
    | _ => none
  | _ => none
def QV (h : Hd) : List D → Option D
  | [a] => ((BZ h a).bind boolsOf).map fun bs => .bl (bs.all id)
  | _ => none
def JV (h : Hd) : List D → Option D
  | [a] => (uP h a).map .tup
  | _ => none
section
variable {K : PySem.W.Frag} {c : C} {H : Hp} {h : Hd}
theorem yq : ∀ {ds : List D} {vs : List V} {ns : List Bool}, aK K c H ds vs → boolsOf ds = some ns → vs = ns.map V.bl
  | [], vs, ns, r, e => by cases r; simp [boolsOf] at e; subst e; rfl
  | d :: ds, vs, ns, r, e => by
    obtain ⟨v, vr, e1, h1, h2⟩ := (show ∃ v r, vs = v :: r ∧ Rel K c H d v ∧ aK K c H ds r from r)
    cases d with
    | bl i =>
      cases q : boolsOf ds with
      | none => simp [boolsOf, q] at e
      | some ms =>
        simp [boolsOf, q] at e
        subst e
        cases h1
        rw [e1, yq h2 q]
        rfl
    | _ => simp [boolsOf] at e
theorem Le {a : D} {x : V} {xs : List D} (rh : bO K c H h) (r : Rel K c H a x) (e : BZ h a = some xs) : ∃ p vs, x = .ref p ∧ SqL K H p vs ∧ aK K c H xs vs := by
  unfold BZ at e
  split at e
  · rename_i ys hv
    cases e
    obtain ⟨p, vs, e1, t, r2⟩ := fW rh r hv
    exact ⟨p, vs, e1, SqL.of t, r2⟩
  · rename_i ys hv
    cases e
    obtain ⟨p, vs, e1, t, r2⟩ := nu rh r hv
    exact ⟨p, vs, e1, t.sq, r2⟩
  · cases e
theorem Gi {a : D} {vs : List V} (r : aK K c H [a] vs) : ∃ v, vs = [v] ∧ Rel K c H a v := by
  obtain ⟨v, r, e, h1, h2⟩ := r
  cases h2
  exact ⟨v, e, h1⟩
end
section
variable {X : Cx}
theorem Gu {h : Hd} {a : D} {x : Str} (hv : view h a = .str x) : a = .str x := by
  cases a with
  | ref i =>
    cases q : h[i]? with
    | none => simp [view, q] at hv
    | some o => cases o <;> simp [view, q] at hv
  | str y => exact hv
  | _ => cases hv
theorem pX : CallR X (.builtin "len") (DCl X.K pO) := uF call_len fun x H Q ⟨c, h, as, d, rh, ra, e, q⟩ => by
  unfold pO at e
  split at e
  · obtain ⟨v, rfl, r⟩ := Gi ra
    have fin : ∀ v, Rel X.K c H d v → Q v H := fun v e2 => q v H (fun _ _ z => z) e2
    split at e
    · rename_i xs hv
      cases e
      obtain ⟨p, vs, e1, t, r2⟩ := mj rh r hv
      subst e1
      exact ⟨_, xs.length, rfl, .inr ⟨vs, t.sq, r2.len⟩, fin _ rfl⟩
    · rename_i xs hv
      cases e
      obtain ⟨p, vs, e1, t, r2⟩ := fW rh r hv
      subst e1
      exact ⟨_, xs.length, rfl, .inl ⟨vs, SqL.of t, r2.len⟩, fin _ rfl⟩
    · rename_i xs hv
      cases e
      obtain ⟨p, vs, e1, t, r2⟩ := nu rh r hv
      subst e1
      exact ⟨_, xs.length, rfl, .inl ⟨vs, t.sq, r2.len⟩, fin _ rfl⟩
    · rename_i x hv
      split at e
      · rename_i hl
        cases e
        have ha := Gu hv
        subst ha
        cases r
        exact ⟨_, x.length, rfl, ⟨tH hl, rfl⟩, fin _ rfl⟩
      · cases e
    · cases e
  · cases e
theorem Cu : CallR X (.type "int") (DCl X.K intD) := uF call_int1 fun x H Q ⟨c, h, as, d, rh, ra, e, q⟩ => by
  unfold intD at e
  split at e
  · cases e
    obtain ⟨v, rfl, r⟩ := Gi ra
    cases r
    exact .inl ⟨_, rfl, q _ H (fun _ _ z => z) rfl⟩
  · cases e
    obtain ⟨v, rfl, r⟩ := Gi ra
    cases r
    exact .inr ⟨_, rfl, q _ H (fun _ _ z => z) rfl⟩
  · cases e
theorem Lf {K : PySem.W.Frag} {c : C} {H : Hp} {h : Hd} {a : D} {x : V} {xs : List D} (rh : bO K c H h) (r : Rel K c H a x) (e : Hw h a = some xs) : ∃ p vs, x = .ref p ∧ (SqL K H p vs ∨ SqT K H p vs) ∧ aK K c H xs vs := by
  unfold Hw at e
  split at e
  · rename_i ys hv
    cases e
    obtain ⟨p, vs, e1, t, r2⟩ := fW rh r hv
    exact ⟨p, vs, e1, .inl (SqL.of t), r2⟩
  · rename_i ys hv
    cases e
    obtain ⟨p, vs, e1, t, r2⟩ := nu rh r hv
    exact ⟨p, vs, e1, .inl t.sq, r2⟩
  · rename_i ys hv
    cases e
    obtain ⟨p, vs, e1, t, r2⟩ := mj rh r hv
    exact ⟨p, vs, e1, .inr t.sq, r2⟩
  · cases e
theorem U8 (hc : X.calm = true) : CallR X (.builtin "all") (DCl X.K QV) := uF (cr_all hc) fun x H Q ⟨c, h, as, d, rh, ra, e, q⟩ => by
  unfold QV at e
  split at e
  · rename_i a
    obtain ⟨v, rfl, r⟩ := Gi ra
    cases e1 : BZ h a with
    | none => simp [e1] at e
    | some xs =>
      cases e2 : boolsOf xs with
      | none => simp [e1, e2] at e
      | some ns =>
        simp only [e1, e2, Option.bind_some, Option.map_some, Option.some.injEq] at e
        subst e
        obtain ⟨p, vs, f1, f2, f3⟩ := Le rh r e1
        subst f1
        rw [yq f3 e2] at f2
        exact ⟨p, ns, rfl, f2, q _ H (fun _ _ z => z) rfl⟩
  · cases e
theorem FP : CallR X (.type "tuple") (fun xs H Q => ∃ p ys, xs = [.ref p] ∧ ((SqL X.K H p ys ∧ ∀ (l : Addr) (o : Obj), H l = none → o.dict = none → Q (.ref l) (upd H l (.frz o (.tup ys)))) ∨ (SqT X.K H p ys ∧ Q (.ref p) H))) := by
  rintro pins s σ H xs us Q I r ⟨p, ys, rfl, h⟩
  obtain ⟨u, rfl, rx⟩ := vals1 r
  cases rx
  rcases h with ⟨hq, q⟩ | ⟨hq, q⟩
  · obtain ⟨its, r2, pl, hz⟩ := I.list hq
    have hlen := r2.length
    refine call_tuple_list pl.isList (fun h2 kp => ?_) (by simp only [List.size_toArray] <;> omega)
    have I1 : Inv X pins σ H { s with heap := h2 } := I.kept (t' := s.toks) kp
    exact ⟨.ref h2.objs.size, _, I1.laid (t' := s.toks) (o := .frz { cls := .type "tuple", data := .seq its.toArray } (.tup ys)) (fun b o e => Heap.get?_push_of_some _ e) (Nat.le_refl _) ⟨Heap.get?_push_size _ rfl, hz, its, r2, IsTup.new _ _⟩, rfl, q _ _ (I1.hok.fresh (Nat.le_refl _)) rfl⟩
  · obtain ⟨its, r2, pl, hz⟩ := I.tuple hq
    exact call_tuple_same pl ⟨.ref p, H, I, rfl, q⟩
theorem Mi : CallR X (.type "tuple") (DCl X.K JV) := uF FP fun x H Q ⟨c, h, as, d, rh, ra, e, q⟩ => by
  unfold JV at e
  split at e
  · rename_i a
    obtain ⟨v, rfl, r⟩ := Gi ra
    unfold uP at e
    have new : ∀ {xs : List D} {vs : List V}, aK X.K c H xs vs → d = .tup xs → ∀ (l : Addr) (o : Obj), H l = none → o.dict = none → Q (.ref l) (upd H l (.frz o (.tup vs))) := fun {xs vs} rl ed l o hl ho => by
      subst ed
      have g := aD (o := .frz o (.tup vs)) hl
      exact q _ _ g ⟨l, vs, rfl, .inl ⟨rh.out hl, o, upd_same, ho⟩, rl.car (Car.grow g)⟩
    split at e
    · rename_i xs hv
      simp at e
      subst e
      obtain ⟨p, vs, e1, t, r2⟩ := mj rh r hv
      subst e1
      exact ⟨p, vs, rfl, .inr ⟨t.sq, q _ H (fun _ _ z => z) ⟨p, vs, rfl, t, r2⟩⟩⟩
    · rename_i xs hv
      simp at e
      subst e
      obtain ⟨p, vs, e1, t, r2⟩ := fW rh r hv
      subst e1
      exact ⟨p, vs, rfl, .inl ⟨SqL.of t, new r2 rfl⟩⟩
    · rename_i xs hv
      simp at e
      subst e
      obtain ⟨p, vs, e1, t, r2⟩ := nu rh r hv
      subst e1
      exact ⟨p, vs, rfl, .inl ⟨t.sq, new r2 rfl⟩⟩
    · simp at e
  · cases e
end
end Dm
end
section
namespace Dm
open PySem PySem.Spec PyProof.Rows L2
def cut (xs : List D) (lo hi : Option Int) : List D := (xs.drop (HT.sIx xs.length 0 lo)).take (HT.sIx xs.length xs.length hi - HT.sIx xs.length 0 lo)
def slD (h : Hd) (a : D) (lo hi : Option Int) : Option D := match view h a with
  | .tup xs => some (.tup (cut xs lo hi))
  | .lst xs => some (.lst (cut xs lo hi))
  | .ro xs => some (.lst (cut xs lo hi))
  | _ => none
def mSl (a : M D) (l u : M (Option Int)) : M D := fun s h => (a s h).bind fun x s h => (l s h).bind fun lo s h => (u s h).bind fun hi s h => mOf (slD h x lo hi) s h
def DSl (K : PySem.W.Frag) : V → Option Int → Option Int → Hp → VK → Prop := fun x lo hi H Q => ∃ c h a d, bO K c H h ∧ Rel K c H a x ∧ slD h a lo hi = some d ∧ ∀ v H', Grow H H' → Rel K c H' d v → Q v H'
section
variable {K : PySem.W.Frag} {c : C} {H : Hp}
theorem aK.cut {ds : List D} {vs : List V} (r : aK K c H ds vs) (lo hi : Option Int) : aK K c H (cut ds lo hi) (cutV vs lo hi) := by
  unfold Dm.cut cutV
  rw [r.len]
  exact (r.drop _).take _
variable {X : Cx} {W : WX}
theorem Ka : SlR X (fun x lo hi H Q => ∃ a xs, x = .ref a ∧ SqT X.K H a xs ∧ (HT.sIx xs.length 0 lo = 0 ∧ HT.sIx xs.length xs.length hi = xs.length → Q (.ref a) H) ∧
    (¬ (HT.sIx xs.length 0 lo = 0 ∧ HT.sIx xs.length xs.length hi = xs.length) → ∀ (p : Addr) (o : Obj), H p = none → o.dict = none → Q (.ref p) (upd H p (.frz o (.tup (cutV xs lo hi)))))) := by
  rintro pins s σ H x v vl vu lo hi sl Q I rx hs pl pu ⟨a, xs, rfl, hx, q1, q2⟩
  cases rx
  obtain ⟨its, r, ht, hz⟩ := I.tuple hx
  have hlen : its.toArray.size = xs.length := by rw [List.size_toArray]; exact r.length.symm
  refine ⟨"tuple", _, PyProof.Rows.slot_tuple_getitem.lookup, ht.typeIs, ?_⟩
  by_cases hw : HT.sIx xs.length 0 lo = 0 ∧ HT.sIx xs.length xs.length hi = xs.length
  · exact getItem_tuple_whole ht hs pl pu (by rw [hlen]; exact hw) ⟨.ref a, H, I, rfl, q1 hw⟩
  · refine HT.getItem_tuple_cut ht hs pl pu (by rw [hlen]; exact hw) ?_ (by rw [hlen]; exact hz)
    rw [hlen]
    exact ⟨.ref s.heap.objs.size, _, I.laid (t' := s.toks) (o := .frz _ (.tup (cutV xs lo hi))) (fun b ob q => Heap.get?_push_of_some _ q) (Nat.le_refl _) ⟨Heap.get?_push_size _ rfl, Nat.le_trans (cutV_length xs lo hi) hz, _, (r.drop (HT.sIx xs.length 0 lo)).take (HT.sIx xs.length xs.length hi - HT.sIx xs.length 0 lo), IsTup.new _ _⟩, rfl, q2 hw _ _ (I.hok.fresh (Nat.le_refl _)) rfl⟩
theorem Vm : SlR X (DSl X.K) := by
  intro pins s σ H x v vl vu lo hi sl Q I rx hs pl pu ⟨c, h, a, d, rh, ra, e, q⟩
  have go := (Ka (X := X)).or (sl_list (X := X))
  refine go pins s σ H x v vl vu lo hi sl Q I rx hs pl pu ?_
  unfold slD at e
  split at e
  · rename_i xs hv
    cases e
    obtain ⟨p, vs, e1, t, r⟩ := mj rh ra hv
    refine .inl ⟨p, vs, e1, t.sq, fun w => ?_, fun w l o hl ho => ?_⟩
    · have e2 : cut xs lo hi = xs := by
        unfold cut
        rw [r.len, w.1, w.2]
        simp [← r.len]
      exact q _ H (fun _ _ z => z) ⟨p, vs, rfl, t, by rw [e2]; exact r⟩
    · have g := aD (o := .frz o (.tup (cutV vs lo hi))) hl
      exact q _ _ g ⟨l, _, rfl, .inl ⟨rh.out hl, o, upd_same, ho⟩, (r.cut lo hi).car (Car.grow g)⟩
  · rename_i xs hv
    cases e
    obtain ⟨p, vs, e1, t, r⟩ := fW rh ra hv
    refine .inr ⟨p, vs, e1, SqL.of t, fun l hl => ?_⟩
    have g := aD (o := .lst (cutV vs lo hi)) hl
    exact q _ _ g ⟨l, _, rfl, rh.out hl, upd_same, (r.cut lo hi).car (Car.grow g)⟩
  · rename_i xs hv
    cases e
    obtain ⟨p, vs, e1, t, r⟩ := nu rh ra hv
    refine .inr ⟨p, vs, e1, t.sq, fun l hl => ?_⟩
    have g := aD (o := .lst (cutV vs lo hi)) hl
    exact q _ _ g ⟨l, _, rfl, rh.out hl, upd_same, (r.cut lo hi).car (Car.grow g)⟩
  · cases e
theorem uZ {a : Expr} {lo hi : Option Expr} {ma : M D} {ml mh : M (Option Int)} {pos p2 : Pos} (ha : PE X a (lE X.K X.mg W ma)) (hl : PO X lo (lO X.K X.mg W ml)) (hu : PO X hi (lO X.K X.mg W mh)) : PE X (.Subscript a (.Slice lo hi none p2) pos) (lE X.K X.mg W (mSl ma ml mh)) :=
  aX (pe_slice Vm ha hl hu) fun s H Q ⟨c, sd, h, rs, rh, q⟩ => ⟨c, sd, h, rs, rh, (Out.bind (R := Rel X.K) q).imp fun x H1 ⟨c1, d1, sd1, h1, rs1, rh1, r1, _, q1⟩ =>
    ⟨c1, sd1, h1, rs1, rh1, (Out.bind (R := eqR) q1).imp fun l H2 ⟨c2, l2, sd2, h2, rs2, rh2, r2, x2, q2⟩ => by
      cases r2
      exact ⟨c2, sd2, h2, rs2, rh2, (Out.bind (R := eqR) q2).imp fun u H3 ⟨c3, u3, sd3, h3, rs3, rh3, r3, x3, q3⟩ => by
        cases r3
        unfold mOf at q3
        cases e : slD h3 d1 l u with
        | none => rw [e] at q3; exact q3.elim
        | some d =>
          rw [e] at q3
          exact ⟨c3, h3, d1, d, rh3, (r1.car x2.car).car x3.car, e, oE rs3 rh3 q3⟩⟩⟩⟩
end
def vY (a : M (List D)) : M (List D) := fun s h => (a s h).bind fun xs s h => match xs with
  | [x] => mOf (uP h x) s h
  | _ => .bad
def Hu (a : M D) : M (List D) := fun s h => (a s h).bind fun x s h => match x with
  | .int n => if small n then .ok (rg 0 n.toNat) s h else .bad
  | _ => .bad
def Ht (a b : M D) : M (List D) := fun s h => (a s h).bind fun x s h => (b s h).bind fun y s h => match x, y with
  | .int i, .int j => if small i && small j then .ok (rg i (j - i).toNat) s h else .bad
  | _, _ => .bad
def GP (xs : List D) (k : Nat) : List D := (List.replicate k xs).flatten
def Ph (a : M (List D)) (b : M D) : M (List D) := fun s h => (a s h).bind fun xs s h => (b s h).bind fun y s h => match y with
  | .int k => if small k && decide (xs.length * k.toNat ≤ 100000) then .ok (GP xs k.toNat) s h else .bad
  | _ => .bad
section
variable {K : PySem.W.Frag} {c : C} {H : Hp} {h : Hd}
theorem Kf {a : D} {x : V} {xs : List D} (rh : bO K c H h) (r : Rel K c H a x) (e : uP h a = some xs) : ∃ p vs, x = .ref p ∧ (SqL K H p vs ∨ SqT K H p vs) ∧ aK K c H xs vs := by
  unfold uP at e
  split at e
  · rename_i ys hv
    cases e
    obtain ⟨p, vs, e1, t, r2⟩ := mj rh r hv
    exact ⟨p, vs, e1, .inr t.sq, r2⟩
  · rename_i ys hv
    cases e
    obtain ⟨p, vs, e1, t, r2⟩ := fW rh r hv
    exact ⟨p, vs, e1, .inl (SqL.of t), r2⟩
  · rename_i ys hv
    cases e
    obtain ⟨p, vs, e1, t, r2⟩ := nu rh r hv
    exact ⟨p, vs, e1, .inl t.sq, r2⟩
  · cases e
theorem aK.rg {lo : Int} {n : Nat} : aK K c H (rg lo n) ((List.range n).map fun i => V.int (lo + (i : Nat))) := by
  unfold Dm.rg
  induction List.range n with
  | nil => rfl
  | cons x xs ih => exact ⟨_, _, rfl, rfl, ih⟩
theorem aK.rep {ds : List D} {vs : List V} (r : aK K c H ds vs) : ∀ k, aK K c H (GP ds k) (List.replicate k vs).flatten
  | 0 => rfl
  | k + 1 => by
    unfold GP
    rw [List.replicate_succ, List.replicate_succ, List.flatten_cons, List.flatten_cons]
    exact r.app (aK.rep r k)
variable {X : Cx} {W : WX} {a b : Expr} {mb : M D} {ms : M (List D)} {p pos : Pos}
theorem wF.bind {mg : Str → Option Value} {A B : Type} {R : C → Hp → A → B → Prop} {s : L2.St} {Q : VK} {m : Res A} {f : A → Sd → Hd → Res (List D)} (h : wF K mg c H s Q W (m.bind f)) :
    Out K mg R c H s (Then K mg R s fun a sd h' c1 H1 => Ext c H c1 H1 ∧ wF K mg c1 H1 s Q W (f a sd h')) W m := by
  cases m with
  | ok a sd h' => exact fun b c' H' x1 x2 x3 x4 => ⟨c', a, sd, h', x2, x3, x4, x1, by
      have h2 : wF K mg c H s Q W (f a sd h') := h
      cases e : f a sd h' with
      | bad => rw [e] at h2; exact h2
      | exc x fs sd2 h3 => rw [e] at h2; exact fun cls dx c2 H2 y1 y2 y3 y4 => h2 cls dx c2 H2 (x1.trans y1) y2 y3 y4
      | ok ds sd2 h3 => rw [e] at h2; exact fun p vs c2 H2 y1 y2 y3 y4 y5 => h2 p vs c2 H2 (x1.trans y1) y2 y3 y4 y5⟩
  | exc x fs sd h' => exact h
  | bad => exact h
theorem f_list (hm : X.mg "list" = none) (ha : PA X [a] (lA X.K X.mg W ms)) (hg : Gl X "list" := by rfl) (he : starEach [a] X.env = (false, eval a X.env) :: starEach [] X.env := by rfl) (hpl : (backTo pos (starEach [] X.env)).any (·.1) = false := by rfl) :
    PE X (.Call (.Name "list" p) [a] [] pos) (lF X.K X.mg W (vY ms)) :=
  aX (pe_callTy call_list_of hg hm (by decide +kernel) ha (by decide) (by decide) he hpl) fun s H Q ⟨c, sd, h, rs, rh, q⟩ => ⟨c, sd, h, rs, rh, (wF.bind (R := aK X.K) q).imp fun x H1 ⟨c1, d1, sd1, h1, rs1, rh1, r1, _, q1⟩ => by
    rcases d1 with _ | ⟨d, _ | ⟨d2, ds⟩⟩
    · exact q1.elim
    · obtain ⟨v, rfl, r⟩ := Gi r1
      have q2 : wF X.K X.mg c1 H1 s Q W (mOf (uP h1 d) sd1 h1) := q1
      unfold mOf at q2
      cases e : uP h1 d with
      | none => rw [e] at q2; exact q2.elim
      | some xs =>
        rw [e] at q2
        obtain ⟨p, vs, e1, t, r2⟩ := Kf rh1 r e
        subst e1
        exact ⟨p, vs, rfl, t, fun l hl => q2 l vs c1 H1 (Ext.refl _ _) rs1 rh1 r2 hl⟩
    · exact q1.elim⟩
theorem Uz {es : List Expr} {mf : M (List D)} (ha : PE X a (lF X.K X.mg W mf)) (hb : PE X b (lE X.K X.mg W mb)) : PE X (.BinOp a .Mult b pos) (lF X.K X.mg W (Ph mf mb)) :=
  aX (pe_op op_rep ha hb) fun s H Q ⟨c, sd, h, rs, rh, q⟩ => ⟨c, sd, h, rs, rh, by
    unfold Ph at q
    cases e1 : mf sd h with
    | bad => rw [e1] at q; exact q.elim
    | exc x fs sd1 h1 => rw [e1] at q; exact q
    | ok xs sd1 h1 =>
      rw [e1] at q
      intro l vs c1 H1 x1 rs1 rh1 rl1 hl
      have g := aD (o := .lst vs) hl
      refine ⟨c1, sd1, h1, rs1.grow g, rh1.grow g, ?_⟩
      have q1 : wF X.K X.mg c H s Q W ((mb sd1 h1).bind fun y s h => match y with
        | .int k => if small k && decide (xs.length * k.toNat ≤ 100000) then .ok (GP xs k.toNat) s h else .bad
        | _ => .bad) := q
      have xg : Ext c H c1 (upd H1 l (.lst vs)) := x1.trans (Ext.grow g)
      cases e2 : mb sd1 h1 with
      | bad => rw [e2] at q1; exact q1.elim
      | exc x fs sd2 h2 => rw [e2] at q1; exact fun cls dx c2 H2 y1 y2 y3 y4 => q1 cls dx c2 H2 (xg.trans y1) y2 y3 y4
      | ok d sd2 h2 =>
        rw [e2] at q1
        intro y c2 H2 x2 rs2 rh2 r2
        cases d with
        | int k =>
          have q2 : wF X.K X.mg c H s Q W (if small k && decide (xs.length * k.toNat ≤ 100000) then .ok (GP xs k.toNat) sd2 h2 else .bad) := q1
          cases hk : (small k && decide (xs.length * k.toNat ≤ 100000)) with
          | false => rw [hk] at q2; exact q2.elim
          | true =>
            rw [hk] at q2
            rw [Bool.and_eq_true] at hk
            have := zY hk.1
            have hz := of_decide_eq_true hk.2
            have hl2 : H2 l = some (.lst vs) := x2.old l _ (rh1.out hl).1 (rh1.out hl).2.2 upd_same
            have rl2 : aK X.K c2 H2 xs vs := (rl1.car (Car.grow g)).car x2.car
            exact ⟨l, k, vs, rfl, r2, hl2, by omega, by omega, tH (by rw [← rl1.len]; exact hz), fun p hp => q2 p _ c2 H2 (xg.trans x2) rs2 rh2 (rl2.rep _) hp⟩
        | _ => exact q1.elim⟩
end
end Dm
end
section
namespace Dm
open PySem PySem.Spec PyProof.Rows L2
def zf (i : Nat) (a : M D) : M D := fun s h => match ownAt s i with
  | none => .bad
  | some _ => (a s h).bind fun d s h => match ownAt s i with
    | none => .bad
    | some xs => if xs.length < 100000 then .ok .non (s.set i (.own (xs ++ [d]))) h else .bad
def vZ (i : Nat) : M D := fun s h => match ownAt s i with
  | none => .bad
  | some xs => .ok (.int xs.length) s h
def Pq (i : Nat) (a : M D) : M D := fun s h => match ownAt s i with
  | none => .bad
  | some _ => (a s h).bind fun d s h => match ownAt s i, d with
    | some xs, .int k => mOf (atI xs k) s h
    | _, _ => .bad
def Hr (i : Nat) (b e : M D) : M Fl := fun s h => (e s h).bind fun v s h => match ownAt s i with
  | none => .bad
  | some _ => (b s h).bind fun k s h => match ownAt s i, k with
    | some xs, .int k => match ixN xs.length k with
      | some j => .ok .nx (s.set i (.own (xs.set j v))) h
      | none => .bad
    | _, _ => .bad
def xR (a b e : M D) : M Fl := fun s h => (e s h).bind fun v s h => (a s h).bind fun o s h => (b s h).bind fun k s h => match o, k with
  | .ref i, .int k => match h[i]? with
    | some (.lst xs) => match ixN xs.length k with
      | some j => .ok .nx s (h.set i (.lst (xs.set j v)))
      | none => .bad
    | _ => .bad
  | _, _ => .bad
section
variable {K : PySem.W.Frag} {c : C} {H : Hp} {sd : Sd} {s : L2.St} {i : Nat} {xs : List D}
variable {X : Cx} {W : WX} {x : Str} {pos p apos cpos : Pos} {a b : Expr} {ma mb me : M D}
theorem Jv {e : Expr} (he : PE X e (lE X.K X.mg W me)) (hN : X.N[i]? = some x := by rfl) (hv : Vis X.env.scope x := by first | exact Or.inl rfl | exact Or.inr (Or.inl rfl) | exact Or.inr (Or.inr rfl)) (hd : (x == ("__debug__" : Str)) = false := by decide) (hcd : (x == ("__classdict__" : Str)) = false := by decide)
    (hbase : attributeBase (.Name x p) "append" X.env (eval (.Name x p) X.env) = eval (.Name x p) X.env := by rfl)
    (hfew : ((backTo cpos (starEach [e] X.env)).all (fun x => !x.1) && (backToKw cpos (keywordEach [] X.env)).all (fun x => x.1.isSome) && decide ([e].length + ([] : List Keyword).length + (if ([] : List Keyword).isEmpty then 0 else 1) < 30)) = true := by rfl)
    (hline : (apos.endLine == cpos.line) = true := by rfl) (hs : starEach [e] X.env = (false, eval e X.env) :: starEach [] X.env := by rfl) (hplain : (backTo cpos (starEach [] X.env)).any (·.1) = false := by rfl) :
    PE X (.Call (.Attribute (.Name x p) "append" apos) [e] [] cpos) (lE X.K X.mg W (zf i me)) :=
  aX (pe_bm PySem.F.plainAttrs_list PySem.F.slot_list_append PySem.F.type_list_append mt_append (pe_var hN hv hd hcd) (pa_cons he pa_nil hs) hbase hfew hline hs hplain) fun s H Q ⟨c, sd, h, rs, rh, q⟩ => by
    unfold zf at q
    cases e1 : ownAt sd i with
    | none => rw [e1] at q; exact q.elim
    | some xs =>
      rw [e1] at q
      obtain ⟨p1, vs, e2, h1, h2, h3, h4⟩ := rs.own e1
      refine ⟨.ref p1, e2, .inl ⟨rfl, vs, SqL.of h3⟩, c, sd, h, rs, rh, (Out.bind (R := Rel X.K) q).imp fun y H1 ⟨c1, d1, sd1, h1, rs1, rh1, r1, _, q1⟩ => ?_⟩
      cases e3 : ownAt sd1 i with
      | none => rw [e3] at q1; exact q1.elim
      | some ys =>
        rw [e3] at q1
        have q2 : Out X.K X.mg (Rel X.K) c1 H1 s Q W (if ys.length < 100000 then .ok .non (sd1.set i (.own (ys ++ [d1]))) h1 else .bad) := q1
        by_cases hl : ys.length < 100000
        · rw [if_pos hl] at q2
          obtain ⟨p2, ws, f2, g1, g2, g3, g4⟩ := rs1.own e3
          have ep : p2 = p1 := by rw [e2] at f2; injection f2 with f2; injection f2 with f2; injection f2 with f2; exact f2.symm
          subst ep
          refine ⟨p2, ws, y, rfl, rfl, g3, Jm (by rw [← g4.len]; exact hl), ?_⟩
          exact q2 _ c1 _ (Ext.write (.inr g1)) (rs1.IK (sV.mp e3) f2 (g4.app (aK.one r1))) (rh1.write g1) rfl
        · rw [if_neg hl] at q2
          exact q2.elim
theorem Bh (hm : X.mg "len" = none) (hN : X.N[i]? = some x := by rfl) (hv : Vis X.env.scope x := by first | exact Or.inl rfl | exact Or.inr (Or.inl rfl) | exact Or.inr (Or.inr rfl)) (hd : (x == ("__debug__" : Str)) = false := by decide) (hcd : (x == ("__classdict__" : Str)) = false := by decide)
    (hg : Gl X "len" := by rfl) (he : starEach [.Name x p] X.env = (false, eval (.Name x p) X.env) :: starEach [] X.env := by rfl) (hpl : (backTo pos (starEach [] X.env)).any (·.1) = false := by rfl) : PE X (.Call (.Name "len" apos) [.Name x p] [] pos) (lE X.K X.mg W (vZ i)) :=
  aX (pe_callB call_len_seq hg hm PySem.boot_len (pa_cons (pe_var hN hv hd hcd) pa_nil he) (by decide) (by decide) he hpl) fun s H Q ⟨c, sd, h, rs, rh, q⟩ => by
    unfold vZ at q
    cases e1 : ownAt sd i with
    | none => rw [e1] at q; exact q.elim
    | some xs =>
      rw [e1] at q
      obtain ⟨p1, vs, e2, h1, h2, h3, h4⟩ := rs.own e1
      refine ⟨.ref p1, e2, p1, vs, rfl, .inl (SqL.of h3), ?_⟩
      rw [← h4.len]
      exact q _ c H (Ext.refl _ _) rs rh rfl
theorem U0 (hb : PE X b (lE X.K X.mg W mb)) (hN : X.N[i]? = some x := by rfl) (hv : Vis X.env.scope x := by first | exact Or.inl rfl | exact Or.inr (Or.inl rfl) | exact Or.inr (Or.inr rfl)) (hd : (x == ("__debug__" : Str)) = false := by decide) (hcd : (x == ("__classdict__" : Str)) = false := by decide)
    (hs : PlainIx b := by exact fun _ _ => rfl) : PE X (.Subscript (.Name x p) b pos) (lE X.K X.mg W (Pq i mb)) :=
  aX (pe_ix ix_list (pe_var hN hv hd hcd) hb hs) fun s H Q ⟨c, sd, h, rs, rh, q⟩ => by
    unfold Pq at q
    cases e1 : ownAt sd i with
    | none => rw [e1] at q; exact q.elim
    | some xs =>
      rw [e1] at q
      obtain ⟨p1, vs, e2, _, _, h3, h4⟩ := rs.own e1
      refine ⟨.ref p1, e2, c, sd, h, rs, rh, (Out.bind (R := Rel X.K) q).imp fun y H1 ⟨c1, d1, sd1, h1, rs1, rh1, r1, _, q1⟩ => ?_⟩
      cases e3 : ownAt sd1 i with
      | none => rw [e3] at q1; cases d1 <;> exact q1.elim
      | some ys =>
        rw [e3] at q1
        cases d1 with
        | int k =>
          cases r1
          obtain ⟨p2, ws, f2, g1, g2, g3, g4⟩ := rs1.own e3
          have ep : p2 = p1 := by rw [e2] at f2; injection f2 with f2; injection f2 with f2; injection f2 with f2; exact f2.symm
          subst ep
          have q2 : Out X.K X.mg (Rel X.K) c1 H1 s Q W (mOf (atI ys k) sd1 h1) := q1
          unfold mOf at q2
          cases e4 : atI ys k with
          | none => rw [e4] at q2; exact q2.elim
          | some d =>
            rw [e4] at q2
            obtain ⟨v, e5, r5⟩ := g4.at e4
            exact ⟨p2, ws, k, v, rfl, rfl, SqL.of g3, e5, q2 v c1 H1 (Ext.refl _ _) rs1 rh1 r5⟩
        | _ => exact q1.elim
theorem Jb {e : Expr} (he : PE X e (lE X.K X.mg W me)) (hb : PE X b (lE X.K X.mg W mb)) (hN : X.N[i]? = some x := by rfl) (hv : Vis X.env.scope x := by first | exact Or.inl rfl | exact Or.inr (Or.inl rfl) | exact Or.inr (Or.inr rfl)) (hd : (x == ("__debug__" : Str)) = false := by decide) (hcd : (x == ("__classdict__" : Str)) = false := by decide)
    (ha : ∀ v, assign (.Subscript (.Name x p) b apos) X.env v = (do
      let ov ← holding [v] (eval (.Name x p) X.env)
      let iv ← holding [v, ov] (eval b X.env)
      standAt apos
      holding [v, ov, iv] (setItem ov iv v)
      release [v, ov, iv] []) := by intro _; rfl) (hs : swapsWithSole [.Subscript (.Name x p) b apos] e pos.line X.env = pure false := by rfl) (hw : swappedStores [.Subscript (.Name x p) b apos] e X.env = pure none := by rfl)
    (h1 : (assignEach [.Subscript (.Name x p) b apos] X.env).map (·.2) = [assign (.Subscript (.Name x p) b apos) X.env] := by rfl) : PS X (.Assign [.Subscript (.Name x p) b apos] e pos) (lS X.K X.mg W (Hr i mb me)) :=
  gQ (ps_asg he (pg_sub (pe_var hN hv hd hcd) hb set_list ha) hs hw h1) fun E s H ⟨c, sd, h, rs, rh, q⟩ => ⟨c, sd, h, rs, rh, (ni.bind (R := Rel X.K) q).imp fun y H0 ⟨c0, d0, sd0, h0, rs0, rh0, r0, _, q0⟩ => by
    cases e1 : ownAt sd0 i with
    | none => rw [e1] at q0; exact q0.elim
    | some xs =>
      rw [e1] at q0
      obtain ⟨p1, vs, e2, _, _, h3, h4⟩ := rs0.own e1
      refine ⟨.ref p1, e2, c0, sd0, h0, rs0, rh0, (ni.bind (R := Rel X.K) q0).imp fun z H1 ⟨c1, d1, sd1, h1, rs1, rh1, r1, x1, q1⟩ => ?_⟩
      cases e3 : ownAt sd1 i with
      | none => rw [e3] at q1; cases d1 <;> exact q1.elim
      | some ys =>
        rw [e3] at q1
        cases d1 with
        | int k =>
          cases r1
          obtain ⟨p2, ws, f2, g1, g2, g3, g4⟩ := rs1.own e3
          have ep : p2 = p1 := by rw [e2] at f2; injection f2 with f2; injection f2 with f2; injection f2 with f2; exact f2.symm
          subst ep
          cases e4 : ixN ys.length k with
          | none => simp only [e4] at q1; exact q1.elim
          | some j =>
            simp only [e4] at q1
            refine ⟨p2, ws, k, j, rfl, rfl, g3, by rw [← g4.len]; exact e4, ?_⟩
            exact q1 s c1 _ (Ext.write (.inr g1)) (rs1.IK (sV.mp e3) f2 (g4.set (r0.car x1.car) j)) (rh1.write g1)
        | _ => exact q1.elim⟩
theorem Dy {e : Expr} (he : PE X e (lE X.K X.mg W me)) (ho : PE X a (lE X.K X.mg W ma)) (hb : PE X b (lE X.K X.mg W mb))
    (ha : ∀ v, assign (.Subscript a b apos) X.env v = (do
      let ov ← holding [v] (eval a X.env)
      let iv ← holding [v, ov] (eval b X.env)
      standAt apos
      holding [v, ov, iv] (setItem ov iv v)
      release [v, ov, iv] []) := by intro _; rfl) (hs : swapsWithSole [.Subscript a b apos] e pos.line X.env = pure false := by rfl) (hw : swappedStores [.Subscript a b apos] e X.env = pure none := by rfl)
    (h1 : (assignEach [.Subscript a b apos] X.env).map (·.2) = [assign (.Subscript a b apos) X.env] := by rfl) : PS X (.Assign [.Subscript a b apos] e pos) (lS X.K X.mg W (xR ma mb me)) :=
  gQ (ps_asg he (pg_sub ho hb set_list ha) hs hw h1) fun E s H ⟨c, sd, h, rs, rh, q⟩ => ⟨c, sd, h, rs, rh, (ni.bind (R := Rel X.K) q).imp fun y H0 ⟨c0, d0, sd0, h0, rs0, rh0, r0, _, q0⟩ =>
    ⟨c0, sd0, h0, rs0, rh0, (ni.bind (R := Rel X.K) q0).imp fun o H1 ⟨c1, d1, sd1, h1, rs1, rh1, r1, x1, q1⟩ =>
      ⟨c1, sd1, h1, rs1, rh1, (ni.bind (R := Rel X.K) q1).imp fun z H2 ⟨c2, d2, sd2, h2, rs2, rh2, r2, x2, q2⟩ => by
      cases d1 with
      | ref i =>
        cases d2 with
        | int k =>
          cases r2
          cases e3 : h2[i]? with
          | none => simp only [e3] at q2; exact q2.elim
          | some ob =>
            cases ob with
            | lst xs =>
              simp only [e3] at q2
              obtain ⟨p1, e4, e5⟩ := r1.car x2.car
              subst e4
              obtain ⟨vs, e6, r6⟩ := rh2.obj i _ p1 e3 e5
              cases e7 : ixN xs.length k with
              | none => simp only [e7] at q2; exact q2.elim
              | some j =>
                simp only [e7] at q2
                refine ⟨p1, vs, k, j, rfl, rfl, e6, by rw [← r6.len]; exact e7, ?_⟩
                have hm := List.mem_of_getElem? e5
                exact q2 s c2 _ (Ext.write (.inl hm)) (rs2.rQ hm rh2) (rh2.rQ e5 (r6.set ((r0.car x1.car).car x2.car) j))
            | _ => simp only [e3] at q2; exact q2.elim
        | _ => exact q2.elim
      | _ => cases d2 <;> exact q2.elim⟩⟩⟩
end
end Dm
end
section
namespace Dm
open PySem PySem.Spec PyProof.Rows L2
def Ve (K : PySem.W.Frag) (mg : Str → Option Value) (c : C) (H : Hp) (s : L2.St) (Q : List V → Hp → Prop) (W : WX) : Res (List Sl) → Prop
  | .ok xs sd h => ∀ vs c' H', Ext c H c' H' → bZ K c' H' sd s → bO K c' H' h → RelM K c' H' sd s xs vs → Q vs H'
  | .exc x fs sd h => ∀ cls dx c' H', Ext c H c' H' → bZ K c' H' sd s → bO K c' H' h → ExR K mg c' H' x fs cls dx → W cls dx s H'
  | .bad => False
def lM (K : PySem.W.Frag) (mg : Str → Option Value) (W : WX) (m : M (List Sl)) : TA := fun s H Q => ∃ c sd h, bZ K c H sd s ∧ bO K c H h ∧ Ve K mg c H s Q W (m sd h)
def mPn : M (List Sl) := fun s h => .ok [] s h
def mPv (a : M D) (r : M (List Sl)) : M (List Sl) := fun s h => (a s h).bind fun d s h => (r s h).bind fun xs s h => .ok (.val d :: xs) s h
def mPo (a : M (List D)) (r : M (List Sl)) : M (List Sl) := fun s h => (a s h).bind fun ds s h => (r s h).bind fun xs s h => .ok (.own ds :: xs) s h
section
variable {K : PySem.W.Frag} {c : C} {H : Hp} {sd : Sd} {s : L2.St}
theorem mF {p : Addr} {n : List Addr} (hn : c.n = p :: n) : Car c H ⟨c.r, n, p :: c.z⟩ H := ⟨fun a u h e => ⟨⟨h.1, fun q => h.2.1 (by rw [hn]; exact List.mem_cons_of_mem _ q), fun q => by
    rcases List.mem_cons.mp q with q | q
    · exact h.2.1 (by rw [hn, q]; exact List.mem_cons_self)
    · exact h.2.2 q⟩, e⟩, fun _ _ e => e⟩
theorem vW {p : Addr} {n : List Addr} (hn : c.n = p :: n) (q : Addr) (u : HO) (h1 : q ∈ c.z) (h2 : q ∉ c.n) (e : H q = some u) : q ∈ (⟨c.r, n, p :: c.z⟩ : C).z ∧ q ∉ (⟨c.r, n, p :: c.z⟩ : C).n ∧ H q = some u := ⟨List.mem_cons_of_mem _ h1, fun z => h2 (by rw [hn]; exact List.mem_cons_of_mem _ z), e⟩
theorem xO {p : Addr} {n : List Addr} {h : Hd} (hn : c.n = p :: n) (r : bO K c H h) : bO K ⟨c.r, n, p :: c.z⟩ H h := ⟨r.len, r.nd, fun a ha => ⟨fun q => (r.rn a ha).1 (by rw [hn]; exact List.mem_cons_of_mem _ q), fun q => by
    rcases List.mem_cons.mp q with q | q
    · exact (r.rn a ha).1 (by rw [hn, q]; exact List.mem_cons_self)
    · exact (r.rn a ha).2 q⟩, fun a ha => by
    rcases ha with q | q
    · exact r.hid a (.inl (by rw [hn]; exact List.mem_cons_of_mem _ q))
    · rcases List.mem_cons.mp q with q | q
      · exact r.hid a (.inl (by rw [hn, q]; exact List.mem_cons_self))
      · exact r.hid a (.inr q), fun i o a e1 e2 => (r.obj i o a e1 e2).car (mF hn) fun _ q => q⟩
variable {X : Cx} {W : WX} {a : Expr} {es : List Expr} {ma : M D} {mf : M (List D)} {ms : M (List Sl)}
theorem xq : PA X [] (lM X.K X.mg W mPn) := sU pa_nil fun s H Q ⟨c, sd, h, rs, rh, q⟩ => q [] c H (Ext.refl _ _) rs rh rfl
theorem mH (ha : PE X a (lE X.K X.mg W ma)) (hr : PA X es (lM X.K X.mg W ms)) (hs : starEach (a :: es) X.env = (false, eval a X.env) :: starEach es X.env := by rfl) : PA X (a :: es) (lM X.K X.mg W (mPv ma ms)) :=
  sU (pa_cons ha hr hs) fun s H Q ⟨c, sd, h, rs, rh, q⟩ => ⟨c, sd, h, rs, rh, by
    unfold mPv at q
    cases e1 : ma sd h with
    | bad => rw [e1] at q; exact q.elim
    | exc x fs sd1 h1 => rw [e1] at q; exact q
    | ok d sd1 h1 =>
      rw [e1] at q
      intro v c1 H1 x1 rs1 rh1 r1
      refine ⟨c1, sd1, h1, rs1, rh1, ?_⟩
      have q1 : Ve X.K X.mg c H s Q W ((ms sd1 h1).bind fun xs s h => .ok (.val d :: xs) s h) := q
      cases e2 : ms sd1 h1 with
      | bad => rw [e2] at q1; exact q1.elim
      | exc x fs sd2 h2 => rw [e2] at q1; exact fun cls dx c2 H2 y1 y2 y3 y4 => q1 cls dx c2 H2 (x1.trans y1) y2 y3 y4
      | ok xs sd2 h2 =>
        rw [e2] at q1
        intro vs c2 H2 x2 rs2 rh2 r2
        exact q1 (v :: vs) c2 H2 (x1.trans x2) rs2 rh2 ⟨v, vs, rfl, ⟨v, rfl, r1.car x2.car⟩, fun ds p e => (by cases e), r2⟩⟩
theorem TV (ha : PE X a (lF X.K X.mg W mf)) (hr : PA X es (lM X.K X.mg W ms)) (hs : starEach (a :: es) X.env = (false, eval a X.env) :: starEach es X.env := by rfl) : PA X (a :: es) (lM X.K X.mg W (mPo mf ms)) :=
  sU (pa_cons ha hr hs) fun s H Q ⟨c, sd, h, rs, rh, q⟩ => ⟨c, sd, h, rs, rh, by
    unfold mPo at q
    cases e1 : mf sd h with
    | bad => rw [e1] at q; exact q.elim
    | exc x fs sd1 h1 => rw [e1] at q; exact q
    | ok ds sd1 h1 =>
      rw [e1] at q
      intro p vs c1 H1 x1 rs1 rh1 r1 hp
      refine ⟨c1.lock p, sd1, h1, rs1.lock hp, rh1.lock hp, ?_⟩
      have q1 : Ve X.K X.mg c H s Q W ((ms sd1 h1).bind fun xs s h => .ok (.own ds :: xs) s h) := q
      have fin : ∀ {c2 : C} {H2 : Hp}, Ext (c1.lock p) (upd H1 p (.lst vs)) c2 H2 → Ext c H ⟨c2.r, c1.n, p :: c2.z⟩ H2 := fun {c2 H2} x2 => by
        have hpc : H p = none := kZ x1.dom hp
        have xl : rP p c1 H1 c2 H2 := (rP.start hp).step x2
        refine x1.trans ⟨xl.r, rfl, fun a ha => ?_, xl.old, xl.dom⟩
        rcases List.mem_cons.mp ha with e | e
        · subst e; exact .inr hp
        · exact xl.z a e
      cases e2 : ms sd1 h1 with
      | bad => rw [e2] at q1; exact q1.elim
      | exc x fs sd2 h2 =>
        rw [e2] at q1
        intro cls dx c2 H2 y1 y2 y3 y4
        have hn : c2.n = p :: c1.n := y1.n
        exact q1 cls dx _ H2 (fin y1) (y2.car (mF hn) (vW hn)) (xO hn y3) (y4.car (mF hn))
      | ok xs sd2 h2 =>
        rw [e2] at q1
        intro ws c2 H2 y1 y2 y3 y4
        have hn : c2.n = p :: c1.n := y1.n
        have hpn : p ∈ c2.n := by rw [hn]; exact List.mem_cons_self
        have out := rh1.out hp
        have hp2 : H2 p = some (.lst vs) := y1.old p _ out.1 out.2.2 upd_same
        refine q1 (.ref p :: ws) _ H2 (fin y1) (y2.car (mF hn) (vW hn)) (xO hn y3) ⟨.ref p, ws, rfl, ⟨p, vs, rfl, List.mem_cons_self, out.2.1, hp2, ((r1.car (Car.lock hp)).car y1.car).car (mF hn)⟩, fun _ p' _ e => ?_, y4.car (mF hn) (vW hn)⟩
        cases e
        refine ⟨fun j as ej sj => ?_, ?_⟩
        · obtain ⟨p3, us, e3, g1, g2, _⟩ := y2.sl j _ _ ej sj
          have : p = p3 := by injection e3 with e3; injection e3
          subst this
          exact g2 hpn
        · have ap : ∀ {zs : List Sl} {us : List V}, RelM X.K c2 H2 sd2 s zs us → Apart p zs us := fun {zs} => by
            induction zs with
            | nil => intro us _ j as e; simp at e
            | cons z zs ih =>
              intro us ⟨v, r, e, f1, f2, f3⟩ j as ej vj
              subst e
              cases j with
              | zero =>
                simp at ej vj
                subst ej; subst vj
                obtain ⟨p3, us, e3, g1, g2, _⟩ := f1
                have : p = p3 := by injection e3 with e3; injection e3
                subst this
                exact g2 hpn
              | succ j => exact ih f3 j as (by simpa using ej) (by simpa using vj)
          exact ap y4⟩
theorem bZ.setM {i : Nat} {x : Sl} {v : V} (r : bZ K c H sd s) (rx : Cv K c H x (some v)) (no : ∀ ds p, x = .own ds → v = .ref p → QX sd s p) : bZ K c H (sd.set i x) (s.set i (some v)) := by
  cases x with
  | no => exact r.none (some v)
  | val d =>
    obtain ⟨w, e, rw'⟩ := rx
    cases e
    exact r.set rw'
  | own ds =>
    obtain ⟨p, vs, e, h1, h2, h3, h4⟩ := rx
    cases e
    exact r.Tr h1 h2 h3 h4 (no ds p rfl rfl)
def iZ : List Nat → List Sl → Sd → Sd
  | i :: is, x :: xs, s => iZ is xs (s.set i x)
  | _, _, s => s
def vH : List Nat → List V → L2.St → L2.St
  | i :: is, x :: xs, s => vH is xs (s.set i (some x))
  | _, _, s => s
theorem bZ.iZ : ∀ {is : List Nat} {xs : List Sl} {vs : List V} {sd : Sd} {s : L2.St}, is.Nodup → bZ K c H sd s → RelM K c H sd s xs vs → bZ K c H (Dm.iZ is xs sd) (vH is vs s)
  | [], xs, vs, sd, s, _, r, m => by
    cases xs <;> cases vs <;> exact r
  | i :: is, [], vs, sd, s, _, r, m => by cases m; exact r
  | i :: is, x :: xs, vs, sd, s, nd, r, ⟨v, vr, e, h1, h2, h3⟩ => by
    subst e
    show bZ K c H (Dm.iZ is xs (sd.set i x)) (vH is vr (s.set i (some v)))
    refine bZ.iZ (List.nodup_cons.mp nd).2 (r.setM h1 fun ds p e1 e2 => (h2 ds p e1 e2).1) ?_
    have go : ∀ {zs : List Sl} {us : List V}, RelM K c H sd s zs us → (∀ ds p, x = .own ds → v = .ref p → Apart p zs us) → RelM K c H (sd.set i x) (s.set i (some v)) zs us := fun {zs} => by
      induction zs with
      | nil => intro us m _; exact m
      | cons z zs ih =>
        intro us ⟨w, ur, e, f1, f2, f3⟩ ap
        subst e
        refine ⟨w, ur, rfl, f1, fun ds p e1 e2 => ⟨fun j as ej sj => ?_, (f2 ds p e1 e2).2⟩, ih f3 fun ds p e1 e2 j as ej => by
          have := ap ds p e1 e2 (j + 1) as (by simpa using ej)
          simpa using this⟩
        by_cases hj : j = i
        · subst hj
          have hl : j < s.length := by have := (List.getElem?_eq_some_iff.mp sj).1; simpa using this
          rw [List.getElem?_set_self (by rw [r.len]; exact hl)] at ej
          rw [List.getElem?_set_self hl] at sj
          have hx : x = .own as := by injection ej
          have hv : v = .ref p := by injection sj with sj; injection sj
          have := ap as p hx hv 0 ds (by simp [e1])
          exact this (by simp [e2])
        · rw [List.getElem?_set_ne (Ne.symm hj)] at ej sj
          exact (f2 ds p e1 e2).1 j as ej sj
    exact go h3 fun ds p e1 e2 => (h2 ds p e1 e2).2
def Ai (is : List Nat) (m : M (List Sl)) : M Fl := fun s h => (m s h).bind fun xs s h => if xs.length = is.length then .ok .nx (iZ is xs s) h else .bad
theorem Ao {mg : Str → Option Value} {is : List Nat} (nd : is.Nodup) (E : Ends) (s : L2.St) (H : Hp) : lS K mg W (Ai is ms) E s H → lM K mg W ms s H (fun vs H1 => vs.length = is.length ∧ ∀ H2, Grow H1 H2 → E.nx (vH is vs s) H2) := fun ⟨c, sd, h, rs, rh, q⟩ => ⟨c, sd, h, rs, rh, by
    unfold Ai at q
    cases e1 : ms sd h with
    | bad => rw [e1] at q; exact q.elim
    | exc x fs sd1 h1 => rw [e1] at q; exact fun cls dx c2 H2 y1 y2 y3 y4 => q s cls dx c2 H2 y1 y2 y3 y4
    | ok xs sd1 h1 =>
      rw [e1] at q
      intro vs c1 H1 x1 rs1 rh1 r1
      have q1 : ni K mg c H E W (if xs.length = is.length then .ok .nx (iZ is xs sd1) h1 else .bad) := q
      by_cases hl : xs.length = is.length
      · rw [if_pos hl] at q1
        refine ⟨by rw [← r1.len]; exact hl, fun H2 g => ?_⟩
        exact q1 _ c1 H2 (x1.trans (Ext.grow g)) ((rs1.iZ nd r1).grow g) (rh1.grow g)
      · rw [if_neg hl] at q1
        exact q1.elim⟩
theorem sH {i j : Nat} {x y : Str} {a b : Expr} {px py pt pos pt2 : Pos} {kt k2 : Nat} (hc : X.calm = true) (hN : X.N.Nodup) (ha : PA X [a, b] (lM X.K X.mg W ms)) (hij : i ≠ j := by decide) (hi : X.N[i]? = some x := by rfl) (hj : X.N[j]? = some y := by rfl)
    (hx : X.env.scope.names.lookup x = some .local := by rfl) (hy : X.env.scope.names.lookup y = some .local := by rfl) (hw : swappedStores [.Tuple [.Name x px, .Name y py] kt pt] (.Tuple [a, b] k2 pt2) X.env = pure (some [x, y]) := by rfl)
    (hs : swapsWithSole [.Tuple [.Name x px, .Name y py] kt pt] (.Tuple [a, b] k2 pt2) pos.line X.env = pure false := by rfl) : PS X (.Assign [.Tuple [.Name x px, .Name y py] kt pt] (.Tuple [a, b] k2 pt2) pos) (lS X.K X.mg W (Ai [i, j] ms)) :=
  gQ (ps_par hc hN hi hj hij hx hy ha hw hs) fun E s H q => by
    obtain ⟨c, sd, h, rs, rh, o⟩ := Ao (by simp [hij]) E s H q
    refine ⟨c, sd, h, rs, rh, ?_⟩
    cases e1 : ms sd h with
    | bad => rw [e1] at o; exact o.elim
    | exc x fs sd1 h1 => rw [e1] at o; exact o
    | ok xs sd1 h1 =>
      rw [e1] at o
      intro vs c1 H1 x1 rs1 rh1 r1
      obtain ⟨l, n⟩ := o vs c1 H1 x1 rs1 rh1 r1
      match vs, l with
      | [v, w], _ => exact ⟨v, w, rfl, n H1 fun _ _ z => z⟩
theorem Oe {i j l : Nat} {x y z : Str} {a b e : Expr} {px py pz pt pos pt2 : Pos} {kt k2 : Nat} (hc : X.calm = true) (hN : X.N.Nodup) (ha : PA X [a, b, e] (lM X.K X.mg W ms)) (hij : i ≠ j := by decide) (hil : i ≠ l := by decide) (hjl : j ≠ l := by decide) (hi : X.N[i]? = some x := by rfl) (hj : X.N[j]? = some y := by rfl) (hl : X.N[l]? = some z := by rfl)
    (hx : X.env.scope.names.lookup x = some .local := by rfl) (hy : X.env.scope.names.lookup y = some .local := by rfl) (hz : X.env.scope.names.lookup z = some .local := by rfl) (hw : swappedStores [.Tuple [.Name x px, .Name y py, .Name z pz] kt pt] (.Tuple [a, b, e] k2 pt2) X.env = pure (some [x, y, z]) := by rfl)
    (hs : swapsWithSole [.Tuple [.Name x px, .Name y py, .Name z pz] kt pt] (.Tuple [a, b, e] k2 pt2) pos.line X.env = pure false := by rfl) : PS X (.Assign [.Tuple [.Name x px, .Name y py, .Name z pz] kt pt] (.Tuple [a, b, e] k2 pt2) pos) (lS X.K X.mg W (Ai [i, j, l] ms)) :=
  gQ (ps_par3 hc hN hi hj hl hij hil hjl hx hy hz ha hw hs) fun E s H q => by
    obtain ⟨c, sd, h, rs, rh, o⟩ := Ao (by simp [hij, hil, hjl]) E s H q
    refine ⟨c, sd, h, rs, rh, ?_⟩
    cases e1 : ms sd h with
    | bad => rw [e1] at o; exact o.elim
    | exc x fs sd1 h1 => rw [e1] at o; exact o
    | ok xs sd1 h1 =>
      rw [e1] at o
      intro vs c1 H1 x1 rs1 rh1 r1
      obtain ⟨l, n⟩ := o vs c1 H1 x1 rs1 rh1 r1
      match vs, l with
      | [v, w, u], _ => exact ⟨v, w, u, rfl, n H1 fun _ _ z => z⟩
end
section
variable {P : Program} {w : World} {K : PySem.W.Frag} {mg mb : Str → Option Value}
theorem Og {c : C} {H : Hp} (ns : List Int) : aK K c H (ns.map D.int) (ns.map V.int) := by
  induction ns with
  | nil => rfl
  | cons n ns ih => exact ⟨_, _, rfl, rfl, ih⟩
theorem G7 {H : Hp} {a : Addr} {ns : List Int} (hS : SqL K H a (ns.map V.int)) : Rel K ⟨[], [], []⟩ H (.ro (ns.map D.int)) (.ref a) := by
  refine ⟨a, _, rfl, ?_, Og ns⟩
  rcases hS with h | h
  · exact .inl ⟨⟨fun q => (nomatch q), fun q => (nomatch q), fun q => (nomatch q)⟩, h⟩
  · exact .inr h
def Q5 (s : Shared) (r : Result) (t : Shared) : Prop := r = .ok (.ret (.bool true)) ∧ OldK s.heap t.heap ∧ t.os = s.os ∧ AllBare t.gens
theorem Lk {k : Nat} {fa a : Addr} {fd : FuncData} {x : Str} {mf : MF} {s : Shared} {vs : List Value} {ns : List Int} {hd : Hd}
    (KX : K.In s.heap) (hns : s.heap.Ns mainGlobals mg) (hb : s.heap.Ns builtinsNs mb) (hbb : ∀ y : Str, y ≠ "__name__" → mb y = bootBuiltins y) (lim : s.heap.NoLimit) (hg : s.gens = #[])
    (ha : s.heap.get? a = some { cls := .type "list", data := .seq vs.toArray }) (hi : IntsAre vs ns) (hl : ns.length ≤ sizeLine) (hr : Room k callerA)
    (F : ∀ base : Heap, K.In base → base.Ns mainGlobals mg → FOk True P w K mg base k fa fd [x] mf) (bind : ∀ (t : Shared) (u : Value), BindsTo t fd ⟨[u], []⟩ [(x, u)])
    (ok : mf [.ro (ns.map D.int)] [] = .ok (.bl true) [] hd) : codeAny (model P w) callerA (.call (.ref fa) ⟨[.ref a], []⟩) (Q5 s) s := by
  have main : ∀ H : Hp, (∀ b u, H b = some u → b = a ∧ K.lookup a = none ∧ ∃ ob ys, u = .frz ob (.lst ys)) → SqL K H a (ns.map V.int) → HOk P w H s.heap → codeAny (model P w) callerA (.call (.ref fa) ⟨[.ref a], []⟩) (Q5 s) s := by
    intro H only sq hok
    have free : ∀ {b : Addr} {o : Obj}, s.heap.get? b = some o → (∀ ys n, o.data ≠ .seq ys n) → H b = none := fun {b o} e nd => by
      cases q : H b with
      | none => rfl
      | some u =>
        obtain ⟨e1, _⟩ := only b u q
        rw [e1, ha] at e
        cases e
        exact (nd _ _ rfl).elim
    have nsB : ∀ {b : Addr} {m : Str → Option Value}, s.heap.Ns b m → (hidT s.heap H).Ns b m := fun {b m} z => by
      obtain ⟨o, es, ep, e, d, r⟩ := z
      exact ⟨o, es, ep, hidT_get e (free e fun ys n z => by rw [d] at z; cases z), d, r⟩
    have inB : K.In (hidT s.heap H) := fun b o e => by
      refine hidT_get (KX b o e) ?_
      cases q : H b with
      | none => rfl
      | some u =>
        obtain ⟨e1, e2, _⟩ := only b u q
        rw [e1, e2] at e
        cases e
    have md : Mod K mg (hidT s.heap H) := ⟨inB, nsB hns, ⟨mb, nsB hb, hbb⟩, by obtain ⟨mc, z1, z2⟩ := lim; exact ⟨mc, nsB z1, z2⟩⟩
    have en : Env0 P w K mg (hidT s.heap H) callerA [] s H :=
      { frames := rfl, mod := md, bs := fun b o e => of_hidT e, bsz := Nat.le_of_eq (hidT_size _ _), funs := trivial, frf := fun b hb => (nomatch hb), hok := hok, bare := .of_eq hg }
    have sp : spM K mg 1 mf [.ref a] H (fun v _ => v = .bl true) (fun _ _ _ => False) := by
      refine ⟨⟨[], [], []⟩, [], [.ro (ns.map D.int)], rfl, ⟨rfl, List.nodup_nil, fun a z => (nomatch z), fun a z => z.elim (fun q => (nomatch q)) fun q => (nomatch q), fun i o a e => by simp at e⟩, aK.one (G7 sq), rfl, ?_⟩
      rw [ok]
      exact fun v c' H' _ _ _ r => r
    refine codeAny_mono ((F _ inB (nsB hns)).run callerA [] s H ⟨[.ref a], []⟩ [.ref a] [.ref a] _ _ hr (fun _ => rfl) en (bind s (.ref a)) (.cons rfl .nil) sp) fun r t ht => ?_
    cases r with
    | error e =>
      obtain ⟨_, _, _, _, _, _, _, _, _, _, _, _, z⟩ := ht
      exact z.elim
    | ok fl =>
      cases fl with
      | ret u =>
        obtain ⟨v, H', os, bare, un, hok', rv, qv⟩ := ht
        have qv' : v = .bl true := qv
        subst qv'
        have eu : u = Value.bool true := rv
        subst eu
        refine ⟨rfl, OldK.of_keep fun b o e => ?_, os, bare⟩
        cases q : H b with
        | none => exact un.keep b o e q (fun z => (nomatch z)) (fun z => (nomatch z))
        | some u =>
          obtain ⟨_, _, ob, ys, z⟩ := only b u q
          subst z
          have f1 := (hok b _ q).1
          have f2 := (hok' b _ (un.frzs b ob _ q)).1
          rw [e] at f1
          cases f1
          exact f2
      | next => exact ht.elim
      | brk => exact ht.elim
      | cont => exact ht.elim
  have rv := vals_ints hi
  have ln := hi.length
  cases hk : K.lookup a with
  | some o =>
    have e := KX a o hk
    rw [ha] at e
    cases e
    refine main (fun _ => none) (fun b u z => (nomatch z)) (.inr ⟨_, vs.toArray, _, hk, rfl, rfl, rfl, ?_, ?_⟩) fun b u z => (nomatch z)
    · rw [List.size_toArray, ln]; exact hl
    · simpa using rv
  | none =>
    let ob : Obj := { cls := .type "list", data := .seq vs.toArray }
    let H : Hp := fun b => if b = a then some (.frz ob (.lst (ns.map V.int))) else none
    have Ha : H a = some (.frz ob (.lst (ns.map V.int))) := if_pos rfl
    have Hb : ∀ b u, H b = some u → b = a ∧ u = .frz ob (.lst (ns.map V.int)) := fun b u z => by
      by_cases hb : b = a
      · subst hb
        rw [Ha] at z
        cases z
        exact ⟨rfl, rfl⟩
      · have z2 : H b = none := if_neg hb
        rw [z2] at z
        cases z
    refine main H (fun b u z => ⟨(Hb b u z).1, hk, ob, _, (Hb b u z).2⟩) (.inl (.inr ⟨ob, Ha⟩)) fun b u z => ?_
    obtain ⟨e1, e2⟩ := Hb b u z
    subst e1; subst e2
    exact ⟨ha, by rw [List.length_map]; exact hl, vs, _, rv, ha⟩
end
theorem Ln {l : PySem.W.OpenLaw} {n k : Nat} {q : Program} {loose : List Str} {XP : (Str → Option Value) → Heap → Prop} {YP : World → Heap → Prop} {d : DefRec} {x : Str}
    (hn : l.most = some n) (hn2 : n ≤ sizeLine) (hdf : d.params.defaults = []) (hr : Room k callerA)
    (F : ∀ (w : World) (mg : Str → Option Value) (fa : Addr) (h : Heap), YP w h → h.Ns mainGlobals mg → mg d.name = some (.ref fa) → ∃ (K : PySem.W.Frag) (fd : FuncData) (mf : MF), K.In h ∧
      (∀ (t : Shared) (u : Value), BindsTo t fd ⟨[u], []⟩ [(x, u)]) ∧ (∀ ns : List Int, ns.length ≤ n → ∃ hd, mf [.ro (ns.map D.int)] [] = .ok (.bl true) [] hd) ∧
      ∀ base : Heap, K.In base → base.Ns mainGlobals mg → FOk True l.prog w K mg base k fa fd [x] mf) :
    PySem.W.WalkO q loose XP YP l.row.toRowW d [] (fun f vs => PySem.call f vs) := by
  refine Att.attach_call hn hdf fun w s0 s1 mg mb fa o pm cd doc a vs ns G Y _ _ _ hmg hobj hints hlen hg => ?_
  obtain ⟨K, fd, mf, KX, hb, hmf, hF⟩ := F w mg fa _ Y G.T.g hmg
  obtain ⟨hd, ok⟩ := hmf ns hlen
  exact Lk KX G.T.g G.T.b G.T.builtins G.T.nolimit hg hobj hints (Nat.le_trans hlen hn2) hr hF hb ok
end Dm
end
section
namespace Dm
open PySem L2
section
variable {A B : Type} {s : Sd} {h : Hd} {a b e : M D} {t u : M Bool} {m n : M Fl} {ms : M (List D)} {i : Nat} {d : D}
@[simp] theorem nO {x : A} {f : A → Sd → Hd → Res B} : (Res.ok x s h).bind f = f x s h := Eq.trans rfl rfl
@[simp] theorem Rz {y : Str} {fs : List (Str × D)} {f : A → Sd → Hd → Res B} : (Res.exc y fs s h : Res A).bind f = .exc y fs s h := Eq.trans rfl rfl
@[simp] theorem RB {f : A → Sd → Hd → Res B} : (Res.bad : Res A).bind f = .bad := Eq.trans rfl rfl
@[simp] theorem U9 {x : A} {f : A → Sd → Hd → Res B} : (Res.ok x s h).bd f = f x s h := Eq.trans rfl rfl
@[simp] theorem Eb {f : Sd → Hd → Res B} : (Res.ok () s h).only f = f s h := Eq.trans rfl rfl
@[simp] theorem En : mC d s h = .ok d s h := Eq.trans rfl rfl
@[simp] theorem pJ : aC i s h = (match s[i]? with | some (.val d) => .ok d s h | _ => .bad) := Eq.trans rfl rfl
@[simp] theorem mG {x : A} : mOf (some x) s h = .ok x s h := Eq.trans rfl rfl
@[simp] theorem Vr {f : Hd → D → Option D} : mUn f a s h = (a s h).bind fun x s h => mOf (f h x) s h := Eq.trans rfl rfl
@[simp] theorem pK {f : Hd → D → D → Option D} : aG f a b s h = (a s h).bind fun x s h => (b s h).bind fun y s h => mOf (f h x y) s h := Eq.trans rfl rfl
@[simp] theorem vX : aN s h = .ok [] s h := Eq.trans rfl rfl
@[simp] theorem rH : ak a ms s h = (a s h).bind fun x s h => (ms s h).bind fun xs s h => .ok (x :: xs) s h := Eq.trans rfl rfl
@[simp] theorem T9 : qp ms s h = (ms s h).bind fun xs s h => if xs.length ≤ 100000 then .ok (.tup xs) s h else .bad := Eq.trans rfl rfl
@[simp] theorem rG : bf a s h = (a s h).bind fun x s h => match x with | .bl b => .ok b s h | _ => .bad := Eq.trans rfl rfl
@[simp] theorem La : Py t u s h = (t s h).bind fun x s h => bif x then u s h else .ok false s h := Eq.trans rfl rfl
@[simp] theorem Vw : mOr t u s h = (t s h).bind fun x s h => bif x then .ok true s h else u s h := Eq.trans rfl rfl
@[simp] theorem Uj : Pj t s h = (t s h).bind fun x s h => .ok (!x) s h := Eq.trans rfl rfl
@[simp] theorem Ak {x y : M A} : mIf t x y s h = (t s h).bind fun k s h => bif k then x s h else y s h := Eq.trans rfl rfl
@[simp] theorem Ru {f : MF} : bL f ms s h = (ms s h).bind fun xs s h => match f xs h with | .ok d _ h => .ok d s h | .exc x fs _ h => .exc x fs s h | .bad => .bad := Eq.trans rfl rfl
@[simp] theorem Am {f : Hd → List D → Option D} : mCB f ms s h = (ms s h).bind fun xs s h => mOf (f h xs) s h := Eq.trans rfl rfl
@[simp] theorem Uk : uX s h = .ok none s h := Eq.trans rfl rfl
@[simp] theorem Ri : dW a s h = (a s h).bind fun x s h => match x with | .int i => .ok (some i) s h | _ => .bad := Eq.trans rfl rfl
@[simp] theorem KZ : jf ms s h = (ms s h).bind fun xs s h => .ok (.lst xs) s h := Eq.trans rfl rfl
@[simp] theorem Ul : Pn ms s h = (ms s h).bind fun xs s h => .ok (.ref h.length) s (h ++ [.lst xs]) := Eq.trans rfl rfl
@[simp] theorem K7 : uM ms s h = (ms s h).bind fun xs s h => if xs.length ≤ 100000 then .ok xs s h else .bad := Eq.trans rfl rfl
@[simp] theorem Jk : mNx s h = .ok .nx s h := Eq.trans rfl rfl
@[simp] theorem yZ : bU m n s h = (m s h).bind fun f s h => match f with | .nx => n s h | f => .ok f s h := Eq.trans rfl rfl
@[simp] theorem Rp : Em a s h = (a s h).bind fun _ s h => .ok .nx s h := Eq.trans rfl rfl
@[simp] theorem K6 : lg a s h = (a s h).bind fun d s h => .ok (.rt d) s h := Eq.trans rfl rfl
@[simp] theorem Eo : jX i a s h = (a s h).bind fun d s h => .ok .nx (s.set i (.val d)) h := Eq.trans rfl rfl
@[simp] theorem Uh : Gk i ms s h = (ms s h).bind fun xs s h => .ok .nx (s.set i (.own xs)) h := Eq.trans rfl rfl
@[simp] theorem Um : BW i s h = (match s[i]? with | some (.own xs) => .ok .nx (s.set i (.val (.lst xs))) h | _ => .bad) := Eq.trans rfl rfl
@[simp] theorem Wv : gN i d s h = .ok () (s.set i (.val d)) h := Eq.trans rfl rfl
@[simp] theorem Rv {g : D → M Unit} : Ep a g s h = (a s h).bind fun d s h => (g d s h).only fun s h => .ok .nx s h := Eq.trans rfl rfl
@[simp] theorem Rk : v7 a s h = (a s h).bind fun d s h => match d with | .tup xs => .ok xs s h | .lst xs => .ok xs s h | .ro xs => .ok xs s h | _ => .bad := Eq.trans rfl rfl
@[simp] theorem Ud : Ek ms s h = (ms s h).bind fun xs s h => match xs with | [.int j] => if small j then .ok (rg 0 j.toNat) s h else .bad | _ => .bad := Eq.trans rfl rfl
@[simp] theorem Uc : Wr ms s h = (ms s h).bind fun xs s h => match xs with | [.int i, .int j] => if small i && small j then .ok (rg i (j - i).toNat) s h else .bad | _ => .bad := Eq.trans rfl rfl
@[simp] theorem Uo {g : D → M Unit} : El ms g m s h = (ms s h).bind fun xs s h => loop g m xs s h := Eq.trans rfl rfl
@[simp] theorem Rq {vs : List Nat} {g : D → M Unit} : nH ms vs g t e s h = (ms s h).bind fun xs s0 h => (fY vs g t e xs [] (cW s0 vs) h).bd fun ys s1 h => .ok ys (iJ s0 s1 vs) h := Eq.trans rfl rfl
@[simp] theorem KY : yC s h = .ok true s h := Eq.trans rfl rfl
@[simp] theorem Pa {fu : Sd → Hd → Nat} : Pb fu t m s h = Gr t m (fu s h) s h := Eq.trans rfl rfl
@[simp] theorem Vs {l u : M (Option Int)} : mSl a l u s h = (a s h).bind fun x s h => (l s h).bind fun lo s h => (u s h).bind fun hi s h => mOf (slD h x lo hi) s h := Eq.trans rfl rfl
@[simp] theorem MJ : vY ms s h = (ms s h).bind fun xs s h => match xs with | [x] => mOf (uP h x) s h | _ => .bad := Eq.trans rfl rfl
@[simp] theorem K9 : Hu a s h = (a s h).bind fun x s h => match x with | .int n => if small n then .ok (rg 0 n.toNat) s h else .bad | _ => .bad := Eq.trans rfl rfl
@[simp] theorem K8 : Ht a b s h = (a s h).bind fun x s h => (b s h).bind fun y s h => match x, y with | .int i, .int j => if small i && small j then .ok (rg i (j - i).toNat) s h else .bad | _, _ => .bad := Eq.trans rfl rfl
@[simp] theorem Ue : Ph ms b s h = (ms s h).bind fun xs s h => (b s h).bind fun y s h => match y with | .int k => if small k && decide (xs.length * k.toNat ≤ 100000) then .ok (GP xs k.toNat) s h else .bad | _ => .bad := Eq.trans rfl rfl
@[simp] theorem Rx : zf i a s h = (match ownAt s i with | none => .bad | some _ => (a s h).bind fun d s h => match ownAt s i with | none => .bad | some xs => if xs.length < 100000 then .ok .non (s.set i (.own (xs ++ [d]))) h else .bad) := Eq.trans rfl rfl
@[simp] theorem Rj : vZ i s h = (match ownAt s i with | none => .bad | some xs => .ok (.int xs.length) s h) := Eq.trans rfl rfl
@[simp] theorem Vv : mPn s h = .ok [] s h := Eq.trans rfl rfl
@[simp] theorem Vt {r : M (List Sl)} : mPv a r s h = (a s h).bind fun d s h => (r s h).bind fun xs s h => .ok (.val d :: xs) s h := Eq.trans rfl rfl
@[simp] theorem Vu {r : M (List Sl)} : mPo ms r s h = (ms s h).bind fun ds s h => (r s h).bind fun xs s h => .ok (.own ds :: xs) s h := Eq.trans rfl rfl
@[simp] theorem Ug {is : List Nat} {r : M (List Sl)} : Ai is r s h = (r s h).bind fun xs s h => if xs.length = is.length then .ok .nx (iZ is xs s) h else .bad := Eq.trans rfl rfl
@[simp] theorem Bx {s : Sd} : iZ [] [] s = s := Eq.trans rfl rfl
@[simp] theorem yI {is : List Nat} {x : Sl} {xs : List Sl} {s : Sd} : iZ (i :: is) (x :: xs) s = iZ is xs (s.set i x) := Eq.trans rfl rfl
@[simp] theorem Rh : xR a b e s h = (e s h).bind fun v s h => (a s h).bind fun o s h => (b s h).bind fun k s h => match o, k with
  | .ref i, .int k => (match h[i]? with
    | some (.lst xs) => (match ixN xs.length k with
      | some j => .ok .nx s (h.set i (.lst (xs.set j v)))
      | none => .bad)
    | _ => .bad)
  | _, _ => .bad := Eq.trans rfl rfl
@[simp] theorem VD {k : Nat} {ds : List D} : fnM k m ds h = fin (m (fB k ds) h) := Eq.trans rfl rfl
@[simp] theorem VF : fin (.ok (.rt d) s h) = .ok d [] h := Eq.trans rfl rfl
@[simp] theorem VG : fin (.ok .nx s h) = .ok .non [] h := Eq.trans rfl rfl
@[simp] theorem Ra : ownAt s i = (match s[i]? with | some (.own xs) => some xs | _ => none) := Eq.trans rfl rfl
end
theorem ig {m n : M Fl} {s s1 : Sd} {h h1 : Hd} (e : m s h = .ok .nx s1 h1) : bU m n s h = n s1 h1 := by
  rw [yZ, e]
  rfl
theorem Oa {m n : M Fl} {s s1 : Sd} {h h1 : Hd} {d : D} (e : m s h = .ok (.rt d) s1 h1) : bU m n s h = .ok (.rt d) s1 h1 := by
  rw [yZ, e]
  rfl
theorem DP {i : Int} (h1 : -18446744073709551616 < i) (h2 : i < 18446744073709551616) : s64 i = true := vL.mpr ⟨h1, h2⟩
@[simp] theorem add_int {h : Hd} {i j : Int} : cP h (.int i) (.int j) = some (.int (i + j)) := Eq.trans rfl rfl
@[simp] theorem sub_int {h : Hd} {i j : Int} : J8 h (.int i) (.int j) = some (.int (i - j)) := Eq.trans rfl rfl
@[simp] theorem lt_int {h : Hd} {i j : Int} : ltD h (.int i) (.int j) = some (.bl (decide (i < j))) := Eq.trans rfl rfl
@[simp] theorem le_int {h : Hd} {i j : Int} : leD h (.int i) (.int j) = some (.bl (decide (i ≤ j))) := Eq.trans rfl rfl
@[simp] theorem gt_int {h : Hd} {i j : Int} : gtD h (.int i) (.int j) = some (.bl (decide (j < i))) := Eq.trans rfl rfl
@[simp] theorem ge_int {h : Hd} {i j : Int} : geD h (.int i) (.int j) = some (.bl (decide (j ≤ i))) := Eq.trans rfl rfl
@[simp] theorem eq_int {h : Hd} {i j : Int} : eqD h (.int i) (.int j) = some (.bl (decide (i = j))) := Eq.trans rfl rfl
@[simp] theorem ne_int {h : Hd} {i j : Int} : neD h (.int i) (.int j) = some (.bl (!decide (i = j))) := Eq.trans rfl rfl
@[simp] theorem eq_str {h : Hd} {i j : Str} : eqD h (.str i) (.str j) = some (.bl (decide (i = j))) := Eq.trans rfl rfl
@[simp] theorem ne_str {h : Hd} {i j : Str} : neD h (.str i) (.str j) = some (.bl (!decide (i = j))) := Eq.trans rfl rfl
@[simp] theorem neg_int {h : Hd} {i : Int} : Hh h (.int i) = some (.int (-i)) := Eq.trans rfl rfl
theorem yW {h : Hd} {i j : Int} (hi : s64 i = true) : pH h (.int i) (.int j) = some (.int (i * j)) := by simp [pH, hi]
theorem mul_r {h : Hd} {i j : Int} (hi : s64 j = true) : pH h (.int i) (.int j) = some (.int (i * j)) := by simp [pH, hi]
theorem Hq {h : Hd} {i j : Int} (hj : 0 < j) : Gj h (.int i) (.int j) = some (.int (i % j)) := by simp [Gj, hj]
theorem Qq {h : Hd} {i j : Int} (hj : 0 < j) (hb : bnd j = true) : Jt h (.int i) (.int j) = some (.int (i / j)) := by simp [Jt, hj, hb]
theorem GX {h : Hd} {i j : Int} (hi : s64 i = true) (h0 : 0 ≤ j) (h1 : j ≤ 1000) : yQ h (.int i) (.int j) = some (.int (i ^ j.toNat)) := by simp [yQ, hi, h0, h1]
theorem vG {i : Int} (h0 : -100000 ≤ i) (h1 : i ≤ 100000) : small i = true := by simp [small, h0, h1]
@[simp] theorem Df {h : Hd} {xs : List D} : view h (.lst xs) = .lst xs := Eq.trans rfl rfl
@[simp] theorem Dd {h : Hd} {xs : List D} : view h (.tup xs) = .tup xs := Eq.trans rfl rfl
@[simp] theorem Gv {h : Hd} {xs : List D} : view h (.ro xs) = .ro xs := Eq.trans rfl rfl
@[simp] theorem Q8 {h : Hd} {i : Nat} {xs : List D} (e : h[i]? = some (.lst xs)) : view h (.ref i) = .lst xs := by simp [view, e]
@[simp] theorem int_int {h : Hd} {i : Int} : intD h [.int i] = some (.int i) := Eq.trans rfl rfl
@[simp] theorem Qi {h : Hd} {b : Bool} : intD h [.bl b] = some (.int (if b then 1 else 0)) := Eq.trans rfl rfl
@[simp] theorem zm {h : Hd} {xs : List D} : pO h [.lst xs] = some (.int xs.length) := Eq.trans rfl rfl
@[simp] theorem Lg {h : Hd} {xs : List D} : pO h [.tup xs] = some (.int xs.length) := Eq.trans rfl rfl
@[simp] theorem Jo {h : Hd} {xs : List D} {i : Int} : ixD h (.lst xs) (.int i) = atI xs i := Eq.trans rfl rfl
@[simp] theorem ix_tup {h : Hd} {xs : List D} {i : Int} : ixD h (.tup xs) (.int i) = atI xs i := Eq.trans rfl rfl
@[simp] theorem JT {h : Hd} {xs : List D} : JV h [.lst xs] = some (.tup xs) := Eq.trans rfl rfl
@[simp] theorem JR {h : Hd} {xs : List D} : JV h [.tup xs] = some (.tup xs) := Eq.trans rfl rfl
@[simp] theorem KR {h : Hd} {i j : Int} : maxD h [.int i, .int j] = some (.int (if j > i then j else i)) := Eq.trans rfl rfl
@[simp] theorem KQ {h : Hd} {i j : Int} : minD h [.int i, .int j] = some (.int (if j < i then j else i)) := Eq.trans rfl rfl
theorem jT {xs : List D} {i : Int} {d : D} (h0 : 0 ≤ i) (h1 : xs[i.toNat]? = some d) : atI xs i = some d := by
  have e : ((i.toNat : Nat) : Int) = i := by omega
  rw [← e]
  exact atI_nat h1
theorem Mq {ns : List Int} {i : Int} (h0 : 0 ≤ i) (h1 : i < ns.length) : atI (ns.map D.int) i = some (.int (ns.getD i.toNat 0)) := by
  refine jT h0 ?_
  have hl : i.toNat < ns.length := by omega
  simp [List.getElem?_map, List.getD_eq_getElem?_getD, hl]
theorem Es {g : D → M Unit} {b : M Fl} : ∀ {xs : List D} {s : Sd} {h : Hd} (I : Nat → Sd → Hd → Prop), I 0 s h →
    (∀ (i : Nat) x s h, xs[i]? = some x → I i s h → ∃ s1 h1 s2 h2, g x s h = .ok () s1 h1 ∧ b s1 h1 = .ok .nx s2 h2 ∧ I (i + 1) s2 h2) → ∃ s' h', loop g b xs s h = .ok .nx s' h' ∧ I xs.length s' h'
  | [], s, h, I, h0, _ => ⟨s, h, rfl, h0⟩
  | x :: xs, s, h, I, h0, st => by
    obtain ⟨s1, h1, s2, h2, e1, e2, i1⟩ := st 0 x s h rfl h0
    obtain ⟨s', h', e3, i3⟩ := Es (xs := xs) (s := s2) (h := h2) (fun i => I (i + 1)) i1 fun i y s h e => st (i + 1) y s h (by simpa using e)
    refine ⟨s', h', ?_, by simpa using i3⟩
    unfold loop
    rw [e1, Eb, e2]
    exact e3
theorem Io {vs : List Nat} {g : D → M Unit} {e : M D} {xs : List D} {s : Sd} {h : Hd} (I : Nat → List D → Hd → Prop) (h0 : I 0 [] h) (hl : xs.length ≤ 1000)
    (st : ∀ (i : Nat) x acc h, xs[i]? = some x → acc.length = i → I i acc h → ∃ s1 d s2 h2, g x s h = .ok () s1 h ∧ e s1 h = .ok d s2 h2 ∧ cW s2 vs = s ∧ I (i + 1) (acc ++ [d]) h2) :
    ∃ ys h', fY vs g yC e xs [] s h = .ok ys s h' ∧ ys.length = xs.length ∧ I xs.length ys h' := by
  have go : ∀ (k : Nat) (zs : List D) (acc : List D) (h : Hd), xs.drop k = zs → k ≤ xs.length → acc.length = k → I k acc h → ∃ ys h', fY vs g yC e zs acc s h = .ok ys s h' ∧ ys.length = xs.length ∧ I xs.length ys h' := by
    intro k zs
    induction zs generalizing k with
    | nil =>
      intro acc h hd hk ha hi
      have ek : k = xs.length := by
        have := List.drop_eq_nil_iff.mp hd
        omega
      subst ek
      exact ⟨acc, h, rfl, ha, hi⟩
    | cons z zs ih =>
      intro acc h hd hk ha hi
      have hlt : k < xs.length := by
        have := congrArg List.length hd
        simp at this
        omega
      have ez : xs[k]? = some z := by
        have e2 := List.drop_eq_getElem_cons hlt
        rw [hd] at e2
        injection e2 with e2 e3
        rw [e2]
        exact List.getElem?_eq_getElem hlt
      have ed : xs.drop (k + 1) = zs := by
        have e2 := List.drop_eq_getElem_cons hlt
        rw [hd] at e2
        injection e2 with e2 e3
        exact e3.symm
      obtain ⟨s1, d, s2, h2, f1, f2, f3, f4⟩ := st k z acc h ez ha hi
      obtain ⟨ys, h', r1, r2, r3⟩ := ih (k + 1) (acc ++ [d]) h2 ed hlt (by simp [ha]) f4
      refine ⟨ys, h', ?_, r2, r3⟩
      unfold fY
      rw [f1, Eb]
      simp only [KY, U9, cond_true, f2]
      rw [if_pos (by omega), f3]
      exact r1
  exact go 0 xs [] h rfl (Nat.zero_le _) rfl h0
end Dm
end
section
namespace Dm
open PySem PySem.Spec PyProof.Rows L2
theorem tE (l : Addr) (items : Array Value) (n : Nat) (dct : Option Addr) (sl : Array (Option Value)) :
    Meets (Builtin.«enumerate.__new__» ⟨[.type "enumerate", .ref l], []⟩) (fun _ R s => s.heap.get? l = some { cls := .type "tuple", dict := dct, data := .seq items n, slots := sl } ∧
      R (.ok (.ret (.ref (s.heap.push { cls := .type "tuple_iterator", data := .fields #[.ref l, .int 0 0] }).objs.size)))
        { s with heap := (s.heap.push { cls := .type "tuple_iterator", data := .fields #[.ref l, .int 0 0] }).push { cls := .type "enumerate", data := .fields #[.none, .bool false, .ref s.heap.objs.size, rawInt 0, .none, .none] } }) :=
  .of_wp fun prog w A R s h => by
    obtain ⟨hp, g, d, tk, os⟩ := s
    obtain ⟨hl, h⟩ := h
    have hsub := sub_enumerate
    have hT : Heap.IsTuple (Shared.heap ⟨hp, g, d, tk, os⟩) l items := ⟨_, hl, rfl, n, rfl⟩
    wp_walk using AutoSeq1.wpAny_loadPart' hl
    refine wpAny_stack_any fun st => wpAny_pure ?_
    split
    · rename_i c _ _ _ _ _
      cases (c == Value.type "enumerate")
      · wp_walk using AutoSeq1.wpAny_loadPart' hl, wpAny_pyIter_tuple hT
        exact ⟨_, rfl, h⟩
      · wp_walk using AutoSeq1.wpAny_loadPart' hl, wpAny_pyIter_tuple hT
        exact ⟨_, rfl, h⟩
    · wp_walk using AutoSeq1.wpAny_loadPart' hl, wpAny_pyIter_tuple hT
      exact ⟨_, rfl, h⟩
theorem uG {prog : Program} {w : World} {A : Around} {E : Value → Shared → Prop} {s : Shared} {l : Addr} {items : Array Value} {Q : Value → Shared → Prop} (hL : s.heap.IsTuple l items)
    (h : ∀ h', IsEnum h' (s.heap.objs.size + 1) s.heap.objs.size 0 .none → h'.IsTupleIter s.heap.objs.size l 0 → h'.objs.size = s.heap.objs.size + 2 →
      (∀ b o, s.heap.get? b = some o → h'.get? b = some o) → Q (.ref (s.heap.objs.size + 1)) { s with heap := h' }) :
    wpAny (model prog w) A (call (.type "enumerate") [.ref l]) Q E s := by
  obtain ⟨⟨c, dct, dt, sl⟩, hl, hc, n, hd⟩ := hL
  replace hc : c = .type "tuple" := hc
  replace hd : dt = .seq items n := hd
  subst hc hd
  refine callType_new F.called_enumerate (by decide) (F.typeCall_enumerate_1 _) (F.newCall_enumerate_1 _) (fun obj => F.args_object_init_2 obj _) F.entry_enumerate_new
    (tE l items n dct sl) ⟨hl, ?_⟩
  have hz : (s.heap.push { cls := .type "tuple_iterator", data := .fields #[.ref l, .int 0 0] }).objs.size = s.heap.objs.size + 1 := Heap.size_push ..
  show _ ∧ _
  rw [hz]
  have he : IsEnum ((s.heap.push { cls := .type "tuple_iterator", data := .fields #[.ref l, .int 0 0] }).push
      { cls := .type "enumerate", data := .fields #[.none, .bool false, .ref s.heap.objs.size, rawInt 0, .none, .none] }) (s.heap.objs.size + 1) s.heap.objs.size 0 .none := by
    have := Heap.get?_push_size (s.heap.push { cls := .type "tuple_iterator", data := .fields #[.ref l, .int 0 0] })
      (o := { cls := .type "enumerate", data := .fields #[.none, .bool false, .ref s.heap.objs.size, rawInt 0, .none, .none] }) rfl
    rw [hz] at this
    exact this
  refine ⟨⟨_, he, rfl⟩, h _ he ⟨_, Heap.get?_push_of_some _ (Heap.get?_push_size _ rfl), rfl, rfl⟩ (by rw [Heap.size_push, hz]) fun b o x => Heap.get?_push_of_some _ (Heap.get?_push_of_some _ x)⟩
theorem uW {prog : Program} {w : World} {A : Around} {E : Value → Shared → Prop} {s : Shared} {e it l : Addr} {i : Nat} {items : Array Value} {old : Value} {Q : Option Value → Shared → Prop} (hh : A.handled = none)
    (he : IsEnum s.heap e it i old) (hit : s.heap.IsTupleIter it l i) (hl : s.heap.IsTuple l items) (hx : items[i]? = none)
    (hQ : ∀ h', Heap.ExtBut it s.heap h' → Q none { s with heap := h' }) : wpAny (model prog w) A (pyNext (.ref e)) Q E s := by
  have ty : s.TypeIs (.ref e) "enumerate" := ⟨_, he, rfl⟩
  unfold pyNext
  refine wpAny_bind (wpAny_attempt (wpAny_callSpecial?_slot (name := Str.ofString "__next__") ty F.slot_enumerate_next
    (wpAny_call_entry F.slot_enumerate_next ty F.entry_enumerate_next ?_ (F.args_enumerate_next_1 _))))
  show wpAny _ _ (field (.ref e) 2 >>= _) _ _ s
  refine wpAny_bind (wpAny_field he rfl (x := .ref it) rfl (wpAny_bind (wpAny_nextOf_tuple_end hh hit hl hx fun h2 x he2 hx2 => ?_)))
  obtain ⟨o, ho, hc⟩ := hx2
  exact wpAny_bind (wpAny_isInstance (T := "StopIteration") (b := true) ⟨o, ho, hc⟩ isSubtype_stop (wpAny_pure (hQ _ he2)))
def ItT (K : PySem.W.Frag) (a : Addr) : It :=
  ⟨fun i H => ∃ (xs : List V) (x : V), SqT K H a xs ∧ xs[i]? = some x, fun i H v H' => ∃ (T : Addr) (o : Obj) (x : V), v = .ref T ∧ H T = none ∧ o.dict = none ∧ H' = upd H T (.frz o (.tup [.int (i : Nat), x])) ∧ ∀ xs, SqT K H a xs → xs[i]? = some x, fun i H => ∃ xs : List V, SqT K H a xs ∧ xs.length ≤ i⟩
theorem Bu {P : Program} {w : World} {K : PySem.W.Frag} {elts : List Expr} {kk : Nat} {tpos : Pos} (a e it : Addr) (hai : a ≠ it) (hae : e ≠ a) :
    Turn P w K (.Tuple elts kk tpos) (ItT K a) [e, it] e (fun i h => (∃ old, IsEnum h e it ((i : Nat) : Int) old) ∧ h.IsTupleIter it a i ∧ e ≠ it) where
  mem := by simp
  obj := fun i h st b hb => by
    obtain ⟨⟨old, he⟩, ⟨o, ho, hc, hd⟩, _⟩ := st
    have e' : b = e ∨ b = it := by simpa using hb
    rcases e' with z | z
    · rw [z]; exact ⟨_, he, fun v q => nomatch q⟩
    · rw [z]; exact ⟨o, ho, fun v q => by rw [hd] at q; cases q⟩
  keep := fun i h h' st k => let ⟨⟨old, he⟩, hi, hne⟩ := st; ⟨⟨old, k e (by simp) _ he⟩, hi.at fun o q => k it (by simp) o q, hne⟩
  item := by
    intro X hP hw hK hc i pins s σ H E I hf st hg
    subst hP hw hK
    obtain ⟨⟨old, he⟩, hit, hne⟩ := st
    obtain ⟨xs, x, hq, hx⟩ := hg
    obtain ⟨its, rv, p, hz⟩ := I.tuple hq
    obtain ⟨u, hu, ru⟩ := rv.get hx
    have hp : s.heap.IsTuple a its.toArray := p
    have hel : e < s.heap.objs.size := Heap.lt_size he
    have hil : it < s.heap.objs.size := by obtain ⟨_, q, _⟩ := hit; exact Heap.lt_size q
    have hlt : i < its.toArray.size := by simpa using (List.getElem?_eq_some_iff.mp hu).1
    refine wpAny_pyNext_enum_itemD (Draws.tuple (A := X.A.in1) (I.ok.hd hc) it a hai its.toArray) he ⟨hit, hp⟩ hlt hne (by simp [hne, hae]) fun y h' tk hy ho hit' hT hsz hk => ?_
    have ey : y = u := by
      rw [show its.toArray[i]? = its[i]? from by simp] at hy
      rw [hu] at hy
      cases hy
      rfl
    subst ey
    refine ⟨_, rfl, wpAny_letOwnedTupleGo_enum (s := { s with heap := h', toks := tk + 1 }) ho fun h'' he' sb => ?_⟩
    have hT2 : h''.get? s.heap.objs.size = some { cls := .type "tuple", data := .seq #[.int i tk, y] } := (sb.2 _ (Nat.ne_of_gt hel)).trans hT
    have new : ObjOk X.prog X.w (upd H s.heap.objs.size (.frz { cls := .type "tuple", data := .seq #[.int i tk, y] } (.tup [.int (i : Nat), x]))) h'' s.heap.objs.size (.frz { cls := .type "tuple", data := .seq #[.int i tk, y] } (.tup [.int (i : Nat), x])) :=
      ⟨hT2, by show 2 ≤ sizeLine; decide, [.int i tk, y], .cons ⟨_, rfl⟩ (.cons ru .nil), ⟨_, hT2, rfl, _, rfl⟩⟩
    have I1 : Inv X pins σ (upd H s.heap.objs.size (.frz { cls := .type "tuple", data := .seq #[.int i tk, y] } (.tup [.int (i : Nat), x]))) { s with heap := h'', toks := tk + 1 } :=
      I.turnedNew (ch := [e, it]) (fun b ob hb q => (sb.2 b (fun z => hb (by simp [z]))).trans (hk b ob (fun z => hb (by simp [z])) (fun z => hb (by simp [z])) q)) hf (Nat.le_refl _) new
    refine ⟨.ref s.heap.objs.size, _, I1, rfl, ⟨_, _, x, rfl, I.hok.fresh (Nat.le_refl _), rfl, rfl, fun ys hy => by rw [I.tuple_inj hy hq]; exact hx⟩, ⟨⟨y, ?_⟩, hit'.1.at fun o q => (sb.2 it (Ne.symm hne)).trans q, hne⟩, fun b hb => ?_⟩
    · have e1 : ((i + 1 : Nat) : Int) = (i : Int) + 1 := by omega
      rw [e1]; exact he'
    · have hb' : b < s.heap.objs.size := by
        have e' : b = e ∨ b = it := by simpa using hb
        rcases e' with z | z
        · rw [z]; exact hel
        · rw [z]; exact hil
      rw [upd_ne (Nat.ne_of_lt hb')]
      exact (hf b hb).1
  done := by
    intro X hP hw hK hc i pins s σ H E I hf st hg
    subst hP hw hK
    obtain ⟨⟨old, he⟩, hit, hne⟩ := st
    obtain ⟨xs, hq, hx⟩ := hg
    obtain ⟨its, rv, p, hz⟩ := I.tuple hq
    have hp : s.heap.IsTuple a its.toArray := p
    obtain ⟨f0, f1, f2, f3, f4, f5⟩ := hf it (by simp)
    have hl := rv.length
    exact uW (I.ok.hd hc) he hit hp (by simp; omega) fun h' eb => ⟨rfl, I.turned (t' := s.toks) (fun b o hb q => eb b o hb q) f0 f1 f3 f4 f5⟩
  self := fun A i s Q E st h => let ⟨⟨_, he⟩, _⟩ := st; wpAny_pyIter_enum he h
theorem GZ {X : Cx} {e : Expr} {ta : TA} {p pos tpos : Pos} {elts : List Expr} {kk : Nat} (hg : Gl X "enumerate") (hm : X.mg "enumerate" = none) (ha : PA X [e] ta) (hs : starEach [e] X.env = [(false, eval e X.env)] := by rfl) :
    PI X (.Tuple elts kk tpos) (.Call (.Name "enumerate" p) [e] [] pos) (fun σ H R => ta σ H fun vs H1 => ∃ a xs, vs = [.ref a] ∧ SqT X.K H1 a xs ∧ R (ItT X.K a) H1) := by
  refine ⟨fun pins s σ H R I h => ?_⟩
  refine Call_ (ld_blt I hg hm boot_enumerate (PyProof.Rows.callWith_type1 (thn (ha.run pos pins s σ H _ I h) fun us s1 ⟨vs, H1, I1, r1, q1⟩ => ?_) hs rfl))
  obtain ⟨a, xs, ex, hq, q⟩ := q1
  subst ex
  cases r1 with
  | cons r rr =>
    cases rr
    cases r
    obtain ⟨its, rv, pt, hz⟩ := I1.tuple hq
    have hT : s1.heap.IsTuple a its.toArray := pt
    have ha : a < s1.heap.objs.size := by obtain ⟨_, q, _⟩ := pt; exact Heap.lt_size q
    refine uG hT fun h2 he hit hsz hk => wpAny_pyIter_enum he ?_
    have I2 : Inv X pins σ H1 { s1 with heap := h2 } := I1.kept (t' := s1.toks) hk
    refine ⟨s1.heap.objs.size + 1, [s1.heap.objs.size + 1, s1.heap.objs.size], _, _, H1, rfl, I2, Bu a (s1.heap.objs.size + 1) s1.heap.objs.size (Nat.ne_of_lt ha) (Nat.ne_of_gt (Nat.lt_succ_of_lt ha)), ⟨⟨.none, he⟩, hit, Nat.succ_ne_self _⟩, fun b hb => ?_, q⟩
    have e2 : b = s1.heap.objs.size + 1 ∨ b = s1.heap.objs.size := by simpa using hb
    have hle : s1.heap.objs.size ≤ b := by
      rcases e2 with z | z <;> rw [z]
      · exact Nat.le_succ _
      · exact Nat.le_refl _
    exact I1.fpOk hle (I1.hok.fresh hle)
def ItL (K : PySem.W.Frag) (a : Addr) : It :=
  ⟨fun i H => ∃ (xs : List V) (x : V), SqL K H a xs ∧ xs[i]? = some x, fun i H v H' => ∃ (T : Addr) (o : Obj) (x : V), v = .ref T ∧ H T = none ∧ o.dict = none ∧ H' = upd H T (.frz o (.tup [.int (i : Nat), x])) ∧ ∀ xs, SqL K H a xs → xs[i]? = some x, fun i H => ∃ xs : List V, SqL K H a xs ∧ xs.length ≤ i⟩
theorem Bv {P : Program} {w : World} {K : PySem.W.Frag} {elts : List Expr} {kk : Nat} {tpos : Pos} (a e it : Addr) (hai : a ≠ it) (hae : e ≠ a) :
    Turn P w K (.Tuple elts kk tpos) (ItL K a) [e, it] e (fun i h => (∃ old, IsEnum h e it ((i : Nat) : Int) old) ∧ h.IsListIter it a i ∧ e ≠ it) where
  mem := by simp
  obj := fun i h st b hb => by
    obtain ⟨⟨old, he⟩, ⟨o, ho, hc, hd⟩, _⟩ := st
    have e' : b = e ∨ b = it := by simpa using hb
    rcases e' with z | z
    · rw [z]; exact ⟨_, he, fun v q => nomatch q⟩
    · rw [z]; exact ⟨o, ho, fun v q => by rw [hd] at q; cases q⟩
  keep := fun i h h' st k => let ⟨⟨old, he⟩, hi, hne⟩ := st; ⟨⟨old, k e (by simp) _ he⟩, hi.at fun o q => k it (by simp) o q, hne⟩
  item := by
    intro X hP hw hK hc i pins s σ H E I hf st hg
    subst hP hw hK
    obtain ⟨⟨old, he⟩, hit, hne⟩ := st
    obtain ⟨xs, x, hq, hx⟩ := hg
    obtain ⟨its, rv, p, hz⟩ := I.list hq
    obtain ⟨u, hu, ru⟩ := rv.get hx
    have hp : s.heap.IsList a its.toArray := p.isList
    have hel : e < s.heap.objs.size := Heap.lt_size he
    have hil : it < s.heap.objs.size := by obtain ⟨_, q, _⟩ := hit; exact Heap.lt_size q
    refine wpAny_pyNext_enum_item he hit hp (x := u) (by simpa using hu) hne fun h' ho hit' hT hsz hk => ?_
    refine ⟨_, rfl, wpAny_letOwnedTupleGo_enum (s := { s with heap := h', toks := s.toks + 1 }) ho fun h'' he' sb => ?_⟩
    have hT2 : h''.get? s.heap.objs.size = some { cls := .type "tuple", data := .seq #[.int i s.toks, u] } := (sb.2 _ (Nat.ne_of_gt hel)).trans hT
    have new : ObjOk X.prog X.w (upd H s.heap.objs.size (.frz { cls := .type "tuple", data := .seq #[.int i s.toks, u] } (.tup [.int (i : Nat), x]))) h'' s.heap.objs.size (.frz { cls := .type "tuple", data := .seq #[.int i s.toks, u] } (.tup [.int (i : Nat), x])) :=
      ⟨hT2, by show 2 ≤ sizeLine; decide, [.int i s.toks, u], .cons ⟨_, rfl⟩ (.cons ru .nil), ⟨_, hT2, rfl, _, rfl⟩⟩
    have I1 : Inv X pins σ (upd H s.heap.objs.size (.frz { cls := .type "tuple", data := .seq #[.int i s.toks, u] } (.tup [.int (i : Nat), x]))) { s with heap := h'', toks := s.toks + 1 } :=
      I.turnedNew (ch := [e, it]) (fun b ob hb q => (sb.2 b (fun z => hb (by simp [z]))).trans (hk b ob (fun z => hb (by simp [z])) (fun z => hb (by simp [z])) q)) hf (Nat.le_refl _) new
    refine ⟨.ref s.heap.objs.size, _, I1, rfl, ⟨_, _, x, rfl, I.hok.fresh (Nat.le_refl _), rfl, rfl, fun ys hy => by rw [I.list_inj hy hq]; exact hx⟩, ⟨⟨u, ?_⟩, hit'.at fun o q => (sb.2 it (Ne.symm hne)).trans q, hne⟩, fun b hb => ?_⟩
    · have e1 : ((i + 1 : Nat) : Int) = (i : Int) + 1 := by omega
      rw [e1]; exact he'
    · have hb' : b < s.heap.objs.size := by
        have e' : b = e ∨ b = it := by simpa using hb
        rcases e' with z | z
        · rw [z]; exact hel
        · rw [z]; exact hil
      rw [upd_ne (Nat.ne_of_lt hb')]
      exact (hf b hb).1
  done := by
    intro X hP hw hK hc i pins s σ H E I hf st hg
    subst hP hw hK
    obtain ⟨⟨old, he⟩, hit, hne⟩ := st
    obtain ⟨xs, hq, hx⟩ := hg
    obtain ⟨its, rv, p, hz⟩ := I.list hq
    have hp : s.heap.IsList a its.toArray := p.isList
    obtain ⟨f0, f1, f2, f3, f4, f5⟩ := hf it (by simp)
    have hl := rv.length
    exact wpAny_pyNext_enum_end (I.ok.hd hc) he hit hp (by simp; omega) fun h' eb => ⟨rfl, I.turned (t' := s.toks) (fun b o hb q => eb b o hb q) f0 f1 f3 f4 f5⟩
  self := fun A i s Q E st h => let ⟨⟨_, he⟩, _⟩ := st; wpAny_pyIter_enum he h
theorem G3 {X : Cx} {e : Expr} {ta : TA} {p pos tpos : Pos} {elts : List Expr} {kk : Nat} (hg : Gl X "enumerate") (hm : X.mg "enumerate" = none) (ha : PA X [e] ta) (hs : starEach [e] X.env = [(false, eval e X.env)] := by rfl) :
    PI X (.Tuple elts kk tpos) (.Call (.Name "enumerate" p) [e] [] pos) (fun σ H R => ta σ H fun vs H1 => ∃ a xs, vs = [.ref a] ∧ SqL X.K H1 a xs ∧ R (ItL X.K a) H1) := by
  refine ⟨fun pins s σ H R I h => ?_⟩
  refine Call_ (ld_blt I hg hm boot_enumerate (PyProof.Rows.callWith_type1 (thn (ha.run pos pins s σ H _ I h) fun us s1 ⟨vs, H1, I1, r1, q1⟩ => ?_) hs rfl))
  obtain ⟨a, xs, ex, hq, q⟩ := q1
  subst ex
  cases r1 with
  | cons r rr =>
    cases rr
    cases r
    obtain ⟨its, rv, pt, hz⟩ := I1.list hq
    have hT : s1.heap.IsList a its.toArray := pt.isList
    have ha : a < s1.heap.objs.size := pt.lt
    refine call_enumerate_list hT fun h2 he hit hsz hk => wpAny_pyIter_enum he ?_
    have I2 : Inv X pins σ H1 { s1 with heap := h2 } := I1.kept (t' := s1.toks) hk
    refine ⟨s1.heap.objs.size + 1, [s1.heap.objs.size + 1, s1.heap.objs.size], _, _, H1, rfl, I2, Bv a (s1.heap.objs.size + 1) s1.heap.objs.size (Nat.ne_of_lt ha) (Nat.ne_of_gt (Nat.lt_succ_of_lt ha)), ⟨⟨.none, he⟩, hit, Nat.succ_ne_self _⟩, fun b hb => ?_, q⟩
    have e2 : b = s1.heap.objs.size + 1 ∨ b = s1.heap.objs.size := by simpa using hb
    have hle : s1.heap.objs.size ≤ b := by
      rcases e2 with z | z <;> rw [z]
      · exact Nat.le_succ _
      · exact Nat.le_refl _
    exact I1.fpOk hle (I1.hok.fresh hle)
def uw : Nat → List D → List D
  | _, [] => []
  | k, x :: xs => .tup [.int (k : Int), x] :: uw (k + 1) xs
theorem lD : ∀ (k : Nat) (xs : List D), (uw k xs).length = xs.length
  | _, [] => rfl
  | k, x :: xs => congrArg (· + 1) (lD (k + 1) xs)
theorem lH : ∀ (k : Nat) (xs : List D) (i : Nat) (d : D), (uw k xs)[i]? = some d → ∃ x, xs[i]? = some x ∧ d = .tup [.int ((k + i : Nat) : Int), x]
  | _, [], i, d, h => by simp [uw] at h
  | k, x :: xs, 0, d, h => ⟨x, rfl, by cases h; rfl⟩
  | k, x :: xs, i + 1, d, h => by
    obtain ⟨y, e1, e2⟩ := lH (k + 1) xs i d h
    exact ⟨y, e1, by rw [e2, show k + 1 + i = k + (i + 1) by omega]⟩
def BX (ms : M (List D)) : M (List D) := fun s h => (ms s h).bind fun ds s h => match ds with
  | [.tup xs] => .ok (uw 0 xs) s h
  | [.lst xs] => .ok (uw 0 xs) s h
  | _ => .bad
theorem HJ {K : PySem.W.Frag} {c0 : C} {H0 : Hp} {q : Addr} {ds : List D} {vs : List V} (hl : ∀ c H, Car c0 H0 c H → SqT K H q vs) (r : aK K c0 H0 ds vs) : JD K c0 H0 (uw 0 ds) (ItT K q) := fun c H x fr =>
  ⟨fun i d e => by
    obtain ⟨y, e1, rfl⟩ := lH 0 ds i d e
    obtain ⟨v, e2, rv⟩ := (r.car x).get e1
    refine ⟨⟨vs, v, hl c H x, e2⟩, fun z H' ⟨T, o, w, ez, hT, ho, eH, hw⟩ => ?_⟩
    have e4 := hw vs (hl c H x)
    rw [e2] at e4
    cases e4
    subst ez eH
    have g := aD (o := .frz o (.tup [.int (i : Nat), v])) hT
    exact ⟨g, T, _, rfl, .inl ⟨fr T hT, o, upd_same, ho⟩, ⟨_, _, rfl, by simp [Rel], _, _, rfl, rv.car (Car.grow g), rfl⟩⟩, ⟨vs, hl c H x, by rw [lD, r.len]; exact Nat.le_refl _⟩⟩
theorem HS {K : PySem.W.Frag} {c0 : C} {H0 : Hp} {q : Addr} {ds : List D} {vs : List V} (hl : ∀ c H, Car c0 H0 c H → SqL K H q vs) (r : aK K c0 H0 ds vs) : JD K c0 H0 (uw 0 ds) (ItL K q) := fun c H x fr =>
  ⟨fun i d e => by
    obtain ⟨y, e1, rfl⟩ := lH 0 ds i d e
    obtain ⟨v, e2, rv⟩ := (r.car x).get e1
    refine ⟨⟨vs, v, hl c H x, e2⟩, fun z H' ⟨T, o, w, ez, hT, ho, eH, hw⟩ => ?_⟩
    have e4 := hw vs (hl c H x)
    rw [e2] at e4
    cases e4
    subst ez eH
    have g := aD (o := .frz o (.tup [.int (i : Nat), v])) hT
    exact ⟨g, T, _, rfl, .inl ⟨fr T hT, o, upd_same, ho⟩, ⟨_, _, rfl, by simp [Rel], _, _, rfl, rv.car (Car.grow g), rfl⟩⟩, ⟨vs, hl c H x, by rw [lD, r.len]; exact Nat.le_refl _⟩⟩
theorem Jr {X : Cx} {W : WX} {a : Expr} {ms : M (List D)} {p pos tpos : Pos} {elts : List Expr} {kk : Nat} (hm : X.mg "enumerate" = none) (ha : PA X [a] (lA X.K X.mg W ms)) (hg : Gl X "enumerate" := by rfl) (hs : starEach [a] X.env = [(false, eval a X.env)] := by rfl) :
    PI X (.Tuple elts kk tpos) (.Call (.Name "enumerate" p) [a] [] pos) (lI X.K X.mg W (BX ms)) :=
  Ac (Oh (G3 hg hm ha hs) (GZ hg hm ha hs)) fun s H Q ⟨c, sd, h, rs, rh, q⟩ => by
    unfold BX at q
    cases e1 : ms sd h with
    | bad => rw [e1] at q; exact q.elim
    | exc x fs sd1 h1 => rw [e1] at q; exact .inl ⟨c, sd, h, rs, rh, by rw [e1]; exact q⟩
    | ok ds sd1 h1 =>
      rw [e1] at q
      rcases ds with _ | ⟨d, _ | ⟨d2, ds⟩⟩
      · exact q.elim
      · cases d with
        | tup xs =>
          refine .inr ⟨c, sd, h, rs, rh, ?_⟩
          rw [e1]
          intro v c2 H2 x1 r1 r2 rl
          obtain ⟨v1, vr, rfl, ⟨pa, vs, rfl, t, r3⟩, rr⟩ := rl
          cases rr
          refine ⟨pa, vs, rfl, t.sq, q _ c2 H2 x1 r1 r2 (HJ (fun c3 H3 x => ?_) r3)⟩
          rcases t with ⟨t1, t2⟩ | t
          · exact .inl (x.kn t1 t2).2.rd
          · exact .inr t.1
        | lst xs =>
          refine .inl ⟨c, sd, h, rs, rh, ?_⟩
          rw [e1]
          intro v c2 H2 x1 r1 r2 rl
          obtain ⟨v1, vr, rfl, ⟨pa, vs, rfl, t, t2, r3⟩, rr⟩ := rl
          cases rr
          exact ⟨pa, vs, rfl, SqL.of t2, q _ c2 H2 x1 r1 r2 (HS (fun c3 H3 x => SqL.of (x.out pa _ t t2).2) r3)⟩
        | _ => exact q.elim
      · cases d <;> exact q.elim
@[simp] theorem Ro {ms : M (List D)} {s : Sd} {h : Hd} : BX ms s h = (ms s h).bind fun ds s h => match ds with
  | [.tup xs] => .ok (uw 0 xs) s h
  | [.lst xs] => .ok (uw 0 xs) s h
  | _ => .bad := Eq.trans rfl rfl
end Dm
end
section
namespace Dm
open PySem L2
def Bo (vs : List Nat) (g : D → M Unit) (t : M Bool) (ms1 : M (List D)) (vs1 : List Nat) (g1 : D → M Unit) (t1 : M Bool) (e : M D) : List D → List D → Sd → Hd → Res (List D)
  | [], acc, s, h => .ok acc s h
  | x :: xs, acc, s, h => (g x s h).only fun s h => (t s h).bd fun k s h => bif k then (ms1 s h).bd fun ys s h => (fY vs1 g1 t1 e ys acc (cW s vs1) h).bd fun acc s h => Bo vs g t ms1 vs1 g1 t1 e xs acc (cW s vs) h
      else Bo vs g t ms1 vs1 g1 t1 e xs acc (cW s vs) h
def Px (ms : M (List D)) (vs : List Nat) (g : D → M Unit) (t : M Bool) (ms1 : M (List D)) (vs1 : List Nat) (g1 : D → M Unit) (t1 : M Bool) (e : M D) : M (List D) := fun s h =>
  (ms s h).bind fun xs s0 h => (Bo vs g t ms1 vs1 g1 t1 e xs [] (cW s0 vs) h).bd fun ys s1 h => .ok ys (iJ s0 s1 vs) h
@[simp] theorem Pu {ms ms1 : M (List D)} {vs vs1 : List Nat} {g g1 : D → M Unit} {t t1 : M Bool} {e : M D} {s : Sd} {h : Hd} : Px ms vs g t ms1 vs1 g1 t1 e s h = (ms s h).bind fun xs s0 h => (Bo vs g t ms1 vs1 g1 t1 e xs [] (cW s0 vs) h).bd fun ys s1 h => .ok ys (iJ s0 s1 vs) h := Eq.trans rfl rfl
end Dm
end
section
namespace Dm
open PySem PySem.Spec PyProof.Rows L2
def Ur (neg : Bool) (i : Nat) (b : M D) : M D := fun s h => match ownAt s i with
  | none => .bad
  | some _ => (b s h).bind fun d s h => match ownAt s i with
    | none => .bad
    | some xs => match D.pyL xs, d.py with
      | some es, some e => if SeqAt.shaped (.list es) && SeqAt.shaped e then .ok (.bl (if neg then !PyData.eqv (.list es) e else PyData.eqv (.list es) e)) s h else .bad
      | _, _ => .bad
def Uq (i : Nat) (a : M D) : M D := fun s h => match ownAt s i with
  | none => .bad
  | some _ => (a s h).bind fun d s h => match ownAt s i, d with
    | some xs, .lst ys => if xs.length + ys.length ≤ 100000 then .ok .non (s.set i (.own (xs ++ ys))) h else .bad
    | _, _ => .bad
@[simp] theorem Rr {neg : Bool} {i : Nat} {b : M D} {s : Sd} {h : Hd} : Ur neg i b s h = (match ownAt s i with
  | none => .bad
  | some _ => (b s h).bind fun d s h => match ownAt s i with
    | none => .bad
    | some xs => match D.pyL xs, d.py with
      | some es, some e => if SeqAt.shaped (.list es) && SeqAt.shaped e then .ok (.bl (if neg then !PyData.eqv (.list es) e else PyData.eqv (.list es) e)) s h else .bad
      | _, _ => .bad) := Eq.trans rfl rfl
@[simp] theorem Rm {i : Nat} {a : M D} {s : Sd} {h : Hd} : Uq i a s h = (match ownAt s i with
  | none => .bad
  | some _ => (a s h).bind fun d s h => match ownAt s i, d with
    | some xs, .lst ys => if xs.length + ys.length ≤ 100000 then .ok .non (s.set i (.own (xs ++ ys))) h else .bad
    | _, _ => .bad) := Eq.trans rfl rfl
end Dm
end
section
namespace Dm
open PySem PySem.Spec PyProof.Rows L2
def tyN : D → Option String
  | .non => some "NoneType"
  | .bl _ => some "bool"
  | .int _ => some "int"
  | .str _ => some "str"
  | .tup _ => some "tuple"
  | .lst _ => some "list"
  | .ro _ => some "list"
  | .edt => some "dict"
  | .dtx _ _ => some "dict"
  | .ref _ => none
def Vx (T : String) (_ : Hd) (d : D) : Option D := (tyN d).bind fun n => (kitB n T).map .bl
theorem Rel.ty {K : PySem.W.Frag} {c : C} {H : Hp} {d : D} {v : V} {n : String} (r : Rel K c H d v) (e : tyN d = some n) : TyX K H v (.type n) := by
  cases d with
  | non => cases e; cases r; exact .base .non
  | bl b => cases e; cases r; exact .base (.bl b)
  | int i => cases e; cases r; exact .base (.int i)
  | str x => cases e; cases r; exact .base (.str x)
  | tup xs =>
    cases e
    obtain ⟨a, vs, rfl, t, _⟩ := r
    rcases t with ⟨_, o, t, _⟩ | ⟨⟨o, its, m, hk, hc, _⟩, _⟩
    · exact .fTuple t
    · exact .kTuple hk hc
  | lst xs =>
    cases e
    obtain ⟨a, vs, rfl, _, t, _⟩ := r
    exact .base (.lst t)
  | ro xs =>
    cases e
    obtain ⟨a, vs, rfl, t, _⟩ := r
    rcases t with ⟨_, t⟩ | ⟨o, its, m, hk, hc, _⟩
    · rcases t with t | ⟨o, t⟩
      · exact .base (.lst t)
      · exact .base (.frz t)
    · exact .kList hk hc
  | edt =>
    cases e
    obtain ⟨a, rfl, _, t⟩ := r
    exact .base (.dK t)
  | dtx k n =>
    cases e
    obtain ⟨a, rfl, _, t⟩ := r
    exact .base (.dK t)
  | ref i => cases e
end Dm
end
section
namespace Dm
open PySem PySem.Spec PyProof.Rows L2
def Vh (xs : List D) (d : D) : Option D := match d with
  | .int k => (intsOf xs).bind fun ns => if k ∈ ns then some (.int (ns.idxOf k : Nat)) else none
  | _ => none
def Wo (a : M D) (ms : M (List D)) : M D := fun s h => (a s h).bind fun o s h => match o with
  | .tup xs => (ms s h).bind fun ds s h => match ds with
    | [d] => mOf (Vh xs d) s h
    | _ => .bad
  | _ => .bad
@[simp] theorem Ua {a : M D} {ms : M (List D)} {s : Sd} {h : Hd} : Wo a ms s h = (a s h).bind fun o s h => match o with
  | .tup xs => (ms s h).bind fun ds s h => match ds with
    | [d] => mOf (Vh xs d) s h
    | _ => .bad
  | _ => .bad := Eq.trans rfl rfl
end Dm
end
section
namespace Dm
open PySem PySem.Spec PyProof.Rows L2
open PySem.Builtin.ObjectAttr
section
open PySem.Builtin PySem.Builtin.ObjectAttr PySem.HandSPX
variable {prog : Program} {w : World} {A : Around} {R : Result → Shared → Prop} {hp : Heap} {g : Array GenState} {d : Drawn} {t : Nat} {os : OsState}
section
variable {K : PySem.W.Frag} {name : Str} {tk : Tok} {v : Value} {x C dx : Addr} {fv : Array Value} {cd : ClassData} {m0 : Str → Option Value} {nl : List Str}
theorem Vl {ox : Obj} {od : Option Obj} {Q : Fin → Shared → Prop} {E : Value → Shared → Prop} (X : K.In hp) (I : PySem.W.InstAt hp x ox C od) (hcd : PySem.W.clsIn K C = some cd) (m : Mv cd.mro) (ha : PySem.W.findIn K (.ref C) name = some none)
    (hq : wpAny (model prog w) A (storeInOwnDict (.ref x) (.ref C) (.str name tk) name v false) Q E ⟨hp, g, d, t, os⟩) : wpAny (model prog w) A (Builtin.«object.__setattr__» ⟨[.ref x, .str name tk, v], []⟩) Q E ⟨hp, g, d, t, os⟩ := by
  have lm : PySem.W.Looks (model prog w) hp (mroOf (.ref C)) cd.mro := (PySem.W.looks_clsIn X hcd).andThen .now
  have ln : PySem.W.Looks (model prog w) hp (storeTaker? none) none := .now
  rw [PySem.W.osa_eq, refuse_eq]
  refine wpAny_bind (wpAny_bind (I.type.at (wpAny_bind (lm.at ?_))))
  rw [m.pass]
  exact wpAny_pure (wpAny_bind (I.type.at (wpAny_bind ((PySem.W.looks_findIn X ha).at (wpAny_bind (ln.at hq))))))
theorem Vi {ox : Obj} {od : Option Obj} (X : K.In hp) (I : PySem.W.InstAt hp x ox C od) (hcd : PySem.W.clsIn K C = some cd) (m : Mv cd.mro) : PySem.W.Looks (model prog w) hp (isInstance (.ref x) (.type "object")) true :=
  I.type.andThen (PySem.W.looks_mroIn X (by unfold PySem.W.mroIn; rw [hcd, Option.bind_some, if_neg (by rw [m.ne]; decide), m.ob]))
theorem Ke (X : K.In hp) (hx : hp.get? x = some { cls := .ref C, data := .fields fv }) (hcd : PySem.W.clsIn K C = some cd) (m : Mv cd.mro) (hh : cd.hasDict = true) (ha : PySem.W.findIn K (.ref C) name = some none)
    (hq : ∀ h' tk' dx, (∀ b o, b ≠ x → hp.get? b = some o → h'.get? b = some o) → hp.objs.size ≤ dx → dx ≠ x → h'.get? x = some { cls := .ref C, dict := some dx, data := .fields fv } →
      h'.Ns1 dx (fun y => if y = name then some v else none) → R (.ok (.ret .none)) ⟨h', g, d, tk', os⟩) :
    codeAny (model prog w) A (.call (.builtin "object.__setattr__") ⟨[.ref x, .str name tk, v], []⟩) R ⟨hp, g, d, t, os⟩ := by
  have I : PySem.W.InstAt hp x { cls := .ref C, data := .fields fv } C none := ⟨hx, rfl, rfl, trivial⟩
  have nx : x ≠ hp.objs.size := Nat.ne_of_lt (Heap.lt_size hx)
  have lc : PySem.W.Looks (model prog w) hp (classData C) cd := PySem.W.looks_clsIn X hcd
  have S0 := F.store_object
  refine codeAny_call_builtin S0.slot.plain S0.entry (@PySem.W.check_slot (model prog w) _ _ ⟨hp, g, d, t, os⟩ "object.__setattr__" "object" "__setattr__" (.ref x) [.str name tk, v] [] _ S0.kind S0.split (Vi X I hcd m) (S0.args (.ref x) (.str name tk) v) (Vl X I hcd m ha ?_))
  show wpAny _ _ (storeInOwnDict (.ref x) (.ref C) (.str name tk) name v false) _ _ _
  obtain ⟨nm, bs, mro, ns, qn, hd, sn, sb, ab, col, del⟩ := cd
  cases (show hd = true from hh)
  unfold storeInOwnDict ownDictForStores
  repeat (first | with_reducible refine store_in_new ?_ ?_ | with_reducible refine wpAny_loadPart_at hx ?_ | with_reducible refine lc.at ?_ | wp_step)
  · exact ⟨_, #[], _, (Heap.get?_update_ne _ _ _ _ nx.symm).trans (Heap.get?_push_at rfl rfl), rfl, fun e he => absurd he (by simp), fun _ => rfl⟩
  · intro h' tk' hn' hs
    have hx1 : (hp.push { cls := .type "dict", data := .dict #[] }).get? x = some { cls := .ref C, data := .fields fv } := Heap.get?_push_of_some _ hx
    refine hq h' tk' hp.objs.size ?_ (Nat.le_refl _) nx.symm ((hs.2 x nx).trans (Heap.get?_update_self _ hx1 rfl)) hn'
    intro b o hb ho
    exact (hs.2 b (Nat.ne_of_lt (Heap.lt_size ho))).trans ((Heap.get?_update_ne _ _ _ _ hb).trans (Heap.get?_push_of_some _ ho))
theorem Kd (X : K.In hp) (hx : hp.get? x = some { cls := .ref C, dict := some dx, data := .fields fv }) (hns : hp.Ns1 dx m0) (hw : PySem.Within m0 nl) (hz : nl.length ≤ 1000) (hcd : PySem.W.clsIn K C = some cd) (m : Mv cd.mro) (hh : cd.hasDict = true)
    (ha : PySem.W.findIn K (.ref C) name = some none)
    (hq : ∀ h' tk', (∀ b o, b ≠ dx → hp.get? b = some o → h'.get? b = some o) → h'.Ns1 dx (fun y => if y = name then some v else m0 y) → R (.ok (.ret .none)) ⟨h', g, d, tk', os⟩) :
    codeAny (model prog w) A (.call (.builtin "object.__setattr__") ⟨[.ref x, .str name tk, v], []⟩) R ⟨hp, g, d, t, os⟩ := by
  obtain ⟨oD, _, _, hoD, _, _⟩ := hns.count hw
  have I : PySem.W.InstAt hp x { cls := .ref C, dict := some dx, data := .fields fv } C (some oD) := ⟨hx, rfl, rfl, hoD⟩
  have lc : PySem.W.Looks (model prog w) hp (classData C) cd := PySem.W.looks_clsIn X hcd
  have S0 := F.store_object
  refine codeAny_call_builtin S0.slot.plain S0.entry (@PySem.W.check_slot (model prog w) _ _ ⟨hp, g, d, t, os⟩ "object.__setattr__" "object" "__setattr__" (.ref x) [.str name tk, v] [] _ S0.kind S0.split (Vi X I hcd m) (S0.args (.ref x) (.str name tk) v) (Vl X I hcd m ha ?_))
  show wpAny _ _ (storeInOwnDict (.ref x) (.ref C) (.str name tk) name v false) _ _ _
  obtain ⟨nm, bs, mro, ns, qn, hd, sn, sb, ab, col, del⟩ := cd
  cases (show hd = true from hh)
  unfold storeInOwnDict ownDictForStores
  repeat (first | with_reducible refine PySem.OEX.store_in_old hns hw hz ?_ | with_reducible refine wpAny_loadPart_at hx ?_ | with_reducible refine lc.at ?_ | wp_step)
  intro h' tk' hn' hs
  exact hq h' tk' (fun b o hb ho => (hs.2 b hb).trans ho) hn'
end
end
section
variable {X : Cx} {pins : List (Addr × Obj)} {σ : L2.St} {H : Hp} {s : Shared} {a C dx : Addr} {f : Str} {y : V} {u : Value} {fs : List (Str × V)} {Q : Unit → Shared → Prop} {E : Value → Shared → Prop} {A : Around} {B : String}
theorem Qs {hp h' : Heap} {o' : Obj} (I : HOk X.prog X.w H hp) (e : H a = some (exo a C none)) (dn : hp.objs.size ≤ dx) (k : ∀ b o, b ≠ a → hp.get? b = some o → h'.get? b = some o) (hx : h'.get? a = some o') (D O : HO) :
    Un X.fs [] H (upd (upd H dx D) a O) hp h' := by
  have hnd : H dx = none := I.fresh dn
  have nd : ∀ {b : Addr} {o : Obj}, hp.get? b = some o → b ≠ dx := fun {b o} q => Nat.ne_of_lt (Nat.lt_of_lt_of_le (Heap.lt_size q) dn)
  have na : ∀ {b : Addr}, H b = none → b ≠ a := fun {b} n z => by subst z; rw [e] at n; cases n
  constructor
  · exact fun b o q n _ _ => k b o (na n) q
  · exact fun b o q n _ _ => ⟨o.slots, k b o (na n) q⟩
  · exact fun b o q n _ => by rw [upd_ne (na n), upd_ne (nd q)]; exact n
  · intro b o q _
    by_cases hb : b = a
    · subst hb; exact ⟨_, hx⟩
    · exact ⟨o, k b o hb q⟩
  · exact fun b xs q => by rw [upd_ne (at_ne e q exo_tup), upd_ne (ne_of_none q hnd)]; exact q
  · exact fun b o v q => by rw [upd_ne (at_ne e q exo_frz), upd_ne (ne_of_none q hnd)]; exact q
  · exact fun b ps q => ⟨#[], by rw [upd_ne (at_ne e q exo_tbl), upd_ne (ne_of_none q hnd), q]; simp⟩
theorem Ks (T : CP X.K C B) (I : Inv X pins σ H s) (e : H a = some (exo a C none)) (hno : PySem.W.findIn X.K (.ref C) f = some none) (ry : RelV y u)
    (h : ∀ dx s', H dx = none → dx ≠ a → Inv X pins σ (upd (upd H dx (exd dx [(f, y)])) a (exo a C (some dx))) s' → Q () s') : wpAny (model X.prog X.w) A (setAttr (.ref a) f u) Q E s := by
  obtain ⟨cd, hcl, hm, hh⟩ := T.data
  obtain ⟨t1, ho⟩ := exo_at I.hok e
  obtain ⟨hp, g, d, t, os⟩ := s
  refine PySem.W.set_plain I.kIn (ox := { cls := .ref C, dict := none, data := .fields #[.ref t1, .none, .none, .none, .bool false, .none] }) (od := none) ⟨ho, rfl, rfl, trivial⟩ T.sa (Ke I.kIn ho hcl hm hh hno ?_)
  intro h' tk' dx k dn dne hx hn
  have hnd : H dx = none := I.hok.fresh dn
  refine h dx _ hnd dne (I.un (t' := tk') (Qs (X := X) I.hok e dn k hx (exd dx [(f, y)]) (exo a C (some dx))) ?_)
  intro b o q
  by_cases hb : b = a
  · subst hb
    rw [upd_same] at q
    cases q
    exact exo_ok hx
  · rw [upd_ne hb] at q
    by_cases hd : b = dx
    · subst hd
      rw [upd_same] at q
      cases q
      exact exd_ok hn (relO_put (fs := []) ry fun g => True.intro)
    · rw [upd_ne hd] at q
      refine (I.hok b o q).stay ?_ ?_ ?_
      · intro c v hc z
        refine k c v ?_ z
        rcases hc with rfl | hc
        · exact hb
        · exact at_ne e hc exo_own
      · intro c hc
        rw [upd_ne (at_ne e hc exo_own), upd_ne (ne_of_none hc hnd)]
        exact hc
      · intro c xs hc
        rw [upd_ne (at_ne e hc exo_tup), upd_ne (ne_of_none hc hnd)]
        exact hc
theorem Kr (T : CP X.K C B) (I : Inv X pins σ H s) (e : H a = some (exo a C (some dx))) (ed : H dx = some (exd dx fs)) (hl : fs.length ≤ 900) (hno : PySem.W.findIn X.K (.ref C) f = some none) (ry : RelV y u)
    (h : ∀ s', Inv X pins σ (upd H dx (exd dx ((f, y) :: fs))) s' → Q () s') : wpAny (model X.prog X.w) A (setAttr (.ref a) f u) Q E s := by
  obtain ⟨cd, hcl, hm, hh⟩ := T.data
  obtain ⟨t1, ho⟩ := exo_at I.hok e
  obtain ⟨mA, hns, rel⟩ := exd_at I.hok ed
  have hw := within_of rel
  obtain ⟨hp, g, d, t, os⟩ := s
  obtain ⟨oD, _, _, hoD, _, _⟩ := hns.count hw
  refine PySem.W.set_plain I.kIn (ox := { cls := .ref C, dict := some dx, data := .fields #[.ref t1, .none, .none, .none, .bool false, .none] }) (od := some oD) ⟨ho, rfl, rfl, hoD⟩ T.sa (Kd I.kIn ho hns hw (by rw [List.length_map]; omega) hcl hm hh hno ?_)
  intro h' tk' k hn
  have hd : ∃ o, h'.get? dx = some o := let ⟨o, _, _, e', _⟩ := hn; ⟨o, e'⟩
  exact h _ (I.write (t' := tk') (x := dx) (e := dx) (o := exd dx ((f, y) :: fs)) (by rw [ed]; exact True.intro) (.inl rfl) k hd (exd_ok hn (relO_put ry rel)))
theorem Oo {us : List Value} {Q : Value → Shared → Prop} (T : CP X.K C B) (I : Inv X pins σ H s) (e : H a = some (exo a C none)) (hl : us.length ≤ sizeLine) (h : ∀ s', Inv X pins σ H s' → Q .none s') :
    wpAny (model X.prog X.w) A (call (.builtin (B ++ ".__init__")) (.ref a :: us)) Q E s := by
  obtain ⟨nm, q, N, bs, bm, sn, sub, ab, col, dd, k0, k1, k2, k3, k5, bmB, F, hC, hT, hm⟩ := T.cls
  obtain ⟨t1, ho⟩ := exo_at I.hok e
  obtain ⟨hp, g, d, t, os⟩ := s
  refine wpAny_call (PySem.HandSPX.init_base F hT (I.kIn _ _ hC) ho hl ?_)
  intro h' t2 k hx
  have J := I.write (t' := t) (x := a) (e := a) (o := exo a C none) (by rw [e]; exact True.intro) (.inl rfl) k ⟨_, hx⟩ (exo_ok hx)
  have eu : upd H a (exo a C none) = H := funext fun b => by
    by_cases hb : b = a
    · rw [hb, upd_same, e]
    · rw [upd_ne hb]
  rw [eu] at J
  exact h _ J
end
def Wi (K : PySem.W.Frag) (B : String) (ta : TA) : TE := fun σ H Q => ta σ H fun vs H1 => ∃ (a C : Addr) (ws : List V), vs = .ref a :: ws ∧ ws.length ≤ 1000 ∧ CP K C B ∧ H1 a = some (exo a C none) ∧ Q .non H1
def Tn (K : PySem.W.Frag) (f : Str) (to te : TE) : TS := fun D σ H => te σ H fun y H1 => to σ H1 fun x H2 => ∃ (a C : Addr) (B : String), x = .ref a ∧ CP K C B ∧ PySem.W.findIn K (.ref C) f = some none ∧
  ((H2 a = some (exo a C none) ∧ ∀ dx, H2 dx = none → dx ≠ a → D.nx σ (upd (upd H2 dx (exd dx [(f, y)])) a (exo a C (some dx)))) ∨
    ∃ (dx : Addr) (fs : List (Str × V)), H2 a = some (exo a C (some dx)) ∧ H2 dx = some (exd dx fs) ∧ fs.length ≤ 900 ∧ D.nx σ (upd H2 dx (exd dx ((f, y) :: fs))))
section
variable {X : Cx} {o e : Expr} {es : List Expr} {to te : TE} {ta : TA} {f : Str} {p p' p1 p2 pos : Pos} {B : String} {Bn : Str}
theorem G4 {pl : Sem Bool} (hg : Gl X Bn) (hm : X.mg Bn = none) (hB : bootBuiltins Bn = some (.type B)) (hty : typeOf (.type B) = pure (.type "type")) (hst : Manifest.isStub B = false) (hh : PySem.W.handedIn (.builtin (B ++ ".__init__")) = true)
    (vV : PySem.W.findCls X.K (.type B) (.type "type") "__init__" = some (.val (.builtin (B ++ ".__init__")))) (ha : PA X (e :: es) ta)
    (hn : Bn ≠ "__name__" := by decide) (hd : (Bn == ("__debug__" : Str)) = false := by decide)
    (hc : eval (.Call (.Attribute (.Name Bn p1) "__init__" p2) (e :: es) [] pos) X.env = (do
      let ov ← eval (.Name Bn p1) X.env
      standAt p2.atName
      let (f, first) ← holding [ov] (getMethod ov "__init__" pl)
      callWith pos f first (backTo pos (starEach (e :: es) X.env)) (backToKw pos (keywordEach [] X.env))) := by rfl)
    (he : starEach (e :: es) X.env = (false, eval e X.env) :: starEach es X.env := by rfl) (hpl : (backTo pos (starEach es X.env)).any (·.1) = false := by rfl) :
    PE X (.Call (.Attribute (.Name Bn p1) "__init__" p2) (e :: es) [] pos) (Wi X.K B ta) := by
  constructor
  intro pins s σ H Q I h
  refine PySem.W.methodCall_KW (ld_blt I hg hm hB ?_ hn hd) hc
  obtain ⟨m, fr⟩ := I.fr
  refine PySem.W.method_type fr I.ok.mod.kin hty hst vV hh ?_
  have run := ha.run pos pins _ σ H _ (I.tok (s.toks + 1)) h
  refine PyProof.Rows.callWith_method1 (thn run ?_) he hpl
  rintro us s1 ⟨vs, H1, I1, r1, a, C, ws, ev, hl, T, ea, q⟩
  subst ev
  cases r1 with
  | @cons _ u0 _ ur ra rw' =>
    obtain rfl : u0 = Value.ref a := ra
    refine Oo (us := ur) T I1 ea ?_ fun s' J => ⟨.non, H1, J, rfl, q⟩
    rw [← Paired.length rw', sizeLine_eq]
    omega
theorem Km (ho : PE X o to) (he : PE X e te) (hs : swapsWith e (some (.Attribute o f p')) pos.line X.env = pure false := by rfl) : PS X (.Assign [.Attribute o f p'] e pos) (Tn X.K f to te) := by
  constructor
  intro pins s σ H D I h
  refine plainObj_wpAny_Assign_Attribute (thn (he.run pins s σ H _ I h) ?_) hs
  rintro v s1 ⟨y, H1, I1, r1, q1⟩
  refine thn (ho.run pins s1 σ H1 _ I1 q1) ?_
  rintro u s2 ⟨x, H2, I2, r2, a, C, B, ex, T, hno, q⟩
  subst ex
  obtain rfl : u = Value.ref a := r2
  rcases q with ⟨ea, q⟩ | ⟨dx, fs, ea, ed, hl, q⟩
  · exact Ks T I2 ea hno r1 fun dx s' n ne J => ⟨σ, _, J, q dx n ne⟩
  · exact Kr T I2 ea ed hl hno r1 fun s' J => ⟨σ, _, J, q⟩
theorem TQ {CX : CXT} {x : Str} {C fI : Addr} {k : Nat} {fd : FuncData} {ps : List Str} {sp : Sp} {ds : List Value} {dvs : List V} (T : CP X.K C B) (iC : PySem.W.findIn X.K (.ref C) "__init__" = some (some (.ref fI))) (tI : PySem.W.typeIn X.K (.ref fI) = some (.type "function"))
    (F1 : FnOk X.prog X.w X.K X.mg X.base CX k fI fd ps sp) (hr : Room (k + 1) X.A) (hb : Binds X.K fd ps ds) (hd : Vals dvs ds) (hx : Passes CX X (fun _ _ _ => False)) (hg : Gl X x) (hm : X.mg x = some (.ref C)) (ha : PA X (e :: es) ta)
    (hdb : (x == ("__debug__" : Str)) = false := by decide) (he : starEach (e :: es) X.env = (false, eval e X.env) :: starEach es X.env := by rfl) (hpl : (backTo pos (starEach es X.env)).any (·.1) = false := by rfl) :
    L2N.PMk X (.Call (.Name x p) (e :: es) [] pos) (tMkO C sp dvs ta) := by
  obtain ⟨nm, q, N, bs, bm, sn, sub, ab, col, dd, k0, k1, k2, k3, k5, bmB, F, hC, hT, hm1⟩ := T.cls
  intro pins s σ H Q I h
  refine wpAny_Call_Name_kw (ld_glob I hg hm ?_ hdb)
  refine PySem.W.callWith_K (h₀ := X.base) I.ok.mod.kin T.kC (thn (ha.run pos pins s σ H _ I h) ?_) he hpl
  rintro us ⟨hp, g, dr, tk, os⟩ ⟨vs, H1, I1, r1, hz, q1⟩
  refine ⟨I1.kIn, ?_⟩
  have hsz : hp.objs.size ≤ hp.objs.size + 1 := Nat.le_succ _
  have hq := q1 (hp.objs.size + 1) (I1.hok.fresh hsz)
  let G : Heap := (hp.push (PySem.W.kdv_tup us)).push (PySem.HandSPX.excO C hp.objs.size)
  have kk : ∀ b o, hp.get? b = some o → G.get? b = some o := fun b o z => Heap.get?_push_of_some _ (Heap.get?_push_of_some _ z)
  have hget : G.get? (hp.objs.size + 1) = some (PySem.HandSPX.excO C hp.objs.size) := by
    show ((hp.push (PySem.W.kdv_tup us)).push (PySem.HandSPX.excO C hp.objs.size)).get? (hp.objs.size + 1) = _
    heap_get
  have I2 := I1.laid (t' := tk) (a := hp.objs.size + 1) (o := exo (hp.objs.size + 1) C none) (h' := G) kk hsz (exo_ok hget)
  have r2 : Vals (V.ref (hp.objs.size + 1) :: (vs ++ dvs)) (Value.ref (hp.objs.size + 1) :: (us ++ ds)) := .cons rfl (r1.append hd)
  have hl : (Value.ref (hp.objs.size + 1) :: us ++ ds).length = ps.length := (r2.length.symm.trans (F1.len _ _ _ _ hq))
  have hus : us.length ≤ sizeLine := by
    rw [← Paired.length r1, sizeLine_eq]
    omega
  show wpAny _ _ (call (.ref C) us) _ _ _
  refine wpAny_call (PySem.HandSPX.call_own F hT (I1.kIn _ _ hC) (PySem.W.looks_findIn I1.kIn iC) (fun self => PySem.W.bind_fn I1.kIn self tI) hus (codeAny_mono (F1.run _ X.stack _ _ ⟨Value.ref (hp.objs.size + 1) :: us, []⟩ (Value.ref (hp.objs.size + 1) :: (us ++ ds)) _ _ (fun _ _ _ => False) (hr.make C us []) (I2.env0.make C us []) (hb _ (Value.ref (hp.objs.size + 1) :: us) I2.kIn hl) r2 hq) ?_))
  intro r s' hq'
  cases r with
  | error er => exact hx pins σ _ _ er s' I2 hq'
  | ok fl =>
    cases fl with
    | ret u =>
      obtain ⟨h2, g2, d2, t2, os'⟩ := s'
      obtain ⟨v, H2, os2, bare2, un2, hok2, rv, ev, d, fs, ea, ed, hd1, q2⟩ := hq'
      subst ev
      obtain ⟨t0, G0, J, kG, ge, hoe, na⟩ := mk_end0 (d2 := d2) (t2 := t2) I1 hsz kk un2 hok2 os2 bare2 ea ed hd1
      exact ⟨rv, hp.objs.size + 1, _, _, ⟨G0, g2, d2, t2, os'⟩, _, .ref C, some d, rfl, J, kG, ge, hoe, ⟨rfl, rfl, fun vs hv => by cases hv; rfl⟩, rfl, rfl, na, rfl, bare2, raises_own T.exC T.tyC, q2⟩
    | next => exact False.elim hq'
    | brk => exact False.elim hq'
    | cont => exact False.elim hq'
end
structure Q6 (Bn : Str) (B : String) : Prop where
  boot : bootBuiltins Bn = some (.type B)
  ty : typeOf (.type B) = pure (.type "type")
  stub : Manifest.isStub B = false
  hand : PySem.W.handedIn (.builtin (B ++ ".__init__")) = true
  nn : Bn ≠ "__name__"
  nd : (Bn == ("__debug__" : Str)) = false
theorem Mj : Q6 "ValueError" "ValueError" := ⟨PyProof.Rows.Boot.«ValueError», PySem.OEX.typ_VE, by decide +kernel, by decide +kernel, by decide, by decide⟩
theorem Ho {C : Addr} {B : String} (h : ∀ self : Value, refuseLoop self "__setattr__" (yu B) = pure ()) : Mv (.ref C :: yu B) := by
  refine ⟨fun self => ?_, rfl, ?_⟩
  · rw [refuseLoop_ref]
    exact h self
  · unfold yu
    simp
structure ExB (Bn : Str) (B : String) : Prop where
  F : ExcBaseFacts B (B ++ ".__new__") (B ++ ".__init__") (yu B)
  pass : ∀ self : Value, refuseLoop self "__setattr__" (yu B) = pure ()
  bs : Q6 Bn B
theorem yd : ExB "ValueError" "ValueError" := ⟨F.excBase_ValueError, F.store_ValueError.passes, Mj⟩
theorem Ad {K : PySem.W.Frag} {C : Addr} {Bn : Str} {B : String} (b : ExB Bn B) (h : Kv K C B = true) : CP K C B := by
  unfold Kv at h
  simp only [Bool.and_eq_true, decide_eq_true_eq] at h
  obtain ⟨h1, h2, h3, h4, h5⟩ := h
  refine ⟨?_, h2, h3, h4, h5⟩
  split at h1
  · rename_i dd cd sl lk
    split at h1
    · rename_i k0 k1 k2 k3 n k5 es
      simp only [Bool.and_eq_true, beq_iff_eq, Bool.not_eq_true'] at h1
      obtain ⟨⟨⟨r1, r2⟩, r3⟩, r4⟩ := h1
      obtain ⟨nm, bs, mro, ns, qn, hd, sn, sb, ab, col, dl⟩ := cd
      obtain ⟨l⟩ := sl
      dsimp only at r1 r3 r4 es
      subst r1 r3 r4 r2 es
      exact ⟨nm, qn, ns, bs, yu B, sn, sb, ab, col, dd, k0, k1, k2, k3, k5, yu B, b.F, lk, fun _ => rfl, Ho b.pass⟩
    · cases h1
  · cases h1
end Dm
end
section
namespace Dm
open PySem PySem.Spec PyProof.Rows L2
variable {gp : Prop}
def spI (C : Addr) (f : Str) : Sp := fun vs H Q _ => ∃ (a : Addr) (y : V), vs = [.ref a, y] ∧ H a = some (exo a C none) ∧ ∀ dx, H dx = none → dx ≠ a → Q .non (upd (upd H dx (exd dx [(f, y)])) a (exo a C (some dx)))
structure XCl (P : Program) (w : World) (K : PySem.W.Frag) (mg : Str → Option Value) (base : Heap) (x f : Str) (C : Addr) (B : String) : Prop where
  at_ : mg x = some (.ref C)
  oex : CP K C B
  xf : XfC K C
  no : PySem.W.findIn K (.ref C) f = some none
  ec : ExcC K C
  ve : B = "ValueError" → PySem.W.kitOne K (.ref C) (.type "ValueError") = some true
  ini : ∃ (fI : Addr) (fd : FuncData) (y : Str), PySem.W.findIn K (.ref C) "__init__" = some (some (.ref fI)) ∧ PySem.W.typeIn K (.ref fI) = some (.type "function") ∧ Binds K fd ["self", y] [] ∧ FnOk P w K mg base (L2N.CX P w) 1 fI fd ["self", y] (spI C f)
def xT (x f : Str) (a : M D) : M Fl := fun s h => (a s h).bind fun d s h => .exc x [(f, d)] s h
section
variable {X : Cx} {W : WX} {k : Nat} {x f : Str} {C : Addr} {B : String} {a : Expr} {ma : M D} {p pos pos' : Pos}
theorem DG (T : XCl X.prog X.w X.K X.mg X.base x f C B) (q : Cq gp X W k) (ha : PE X a (lE X.K X.mg W ma)) (hk : 2 ≤ k := by decide) (hg : Gl X x := by rfl) (hdb : (x == ("__debug__" : Str)) = false := by decide)
    (hs : starEach [a] X.env = [(false, eval a X.env)] := by rfl) : PS X (.Raise (some (.Call (.Name x p) [a] [] pos)) none pos') (lS X.K X.mg W (xT x f ma)) := by
  obtain ⟨fI, fd, y, i1, i2, i3, i4⟩ := T.ini
  have hx : Passes (L2N.CX X.prog X.w) X (fun _ _ _ => False) := L2N.passes_call q.tk fun _ _ _ _ z => z.elim
  have hp : PA X [a] (lA X.K X.mg W (ak ma aN)) := aj ha au (by rw [hs]; rfl)
  have B := L2N.ps_raise (pos := pos') q.cm q.tk (TQ (p := p) (pos := pos) (dvs := []) (ds := []) T.oex i1 i2 i4 (q.rm.mono hk) i3 .nil hx hg T.at_ hp hdb (by rw [hs]; rfl) (by rfl))
  refine gQ B fun E s H ⟨c, sd, h, rs, rh, o⟩ => ⟨c, sd, h, rs, rh, ?_⟩
  have e1 : ak ma aN sd h = (ma sd h).bind fun d s h => .ok [d] s h := by
    unfold ak aN
    cases ma sd h <;> rfl
  show Out X.K X.mg (aK X.K) c H s _ W (ak ma aN sd h)
  rw [e1]
  unfold xT at o
  cases e2 : ma sd h with
  | bad => rw [e2] at o; exact o.elim
  | exc y2 fs sd1 h1 => rw [e2] at o; exact fun cls dx c' H' x1 x2 x3 x4 => o s cls dx c' H' x1 x2 x3 x4
  | ok d sd1 h1 =>
    rw [e2] at o
    intro vs c1 H1 x1 rs1 rh1 rl
    obtain ⟨v, rfl, rv⟩ := Gi rl
    refine ⟨by simp, fun b hb => ?_⟩
    refine ⟨b, v, by simp, upd_same, fun dx hdx hne => ⟨rfl, dx, [(f, v)], upd_same, by rw [upd_ne hne]; exact upd_same, by rw [← hdx, upd_ne hne], ?_⟩⟩
    have hd1 : H1 dx = none := by rw [← hdx, upd_ne hne]
    have eH : upd (del (upd (upd (upd H1 b (exo b C none)) dx (exd dx [(f, v)])) b (exo b C (some dx))) b) dx (HO.xd [(f, v)]) = upd H1 dx (.xd [(f, v)]) := by
      funext z
      by_cases h1 : z = dx
      · subst h1; rw [upd_same, upd_same]
      · rw [upd_ne h1, upd_ne h1]
        by_cases h2 : z = b
        · subst h2; rw [del_same, hb]
        · rw [del_ne h2, upd_ne h2, upd_ne h1, upd_ne h2]
    rw [eH]
    have g := aD (o := .xd [(f, v)]) hd1
    exact o s (.ref C) (some dx) c1 _ (x1.trans (Ext.grow g)) (rs1.grow g) (rh1.grow g) ⟨C, T.at_, rfl, fun _ => ⟨dx, [(f, v)], rfl, rh1.out hd1, upd_same, ⟨(f, v), [], rfl, rfl, rv.car (Car.grow g), rfl⟩⟩⟩
end
def Pr (fs : List (Str × D)) (f : Str) : M D := mOf (fs.lookup f)
def lXE (K : PySem.W.Frag) (mg : Str → Option Value) (i : Nat) (a : Addr) (cls : Value) (d : Option Addr) (x : Str) (fs : List (Str × D)) (m : M D) : TE := fun s H Q => s[i]? = some (some (.ref a)) ∧ ∃ c sd h, bZ K c H sd s ∧ bO K c H h ∧ ExR K mg c H x fs cls d ∧ Out K mg (Rel K) c H s Q W0 (m sd h)
def lXA (K : PySem.W.Frag) (mg : Str → Option Value) (i : Nat) (a : Addr) (cls : Value) (d : Option Addr) (x : Str) (fs : List (Str × D)) (m : M (List D)) : TA := fun s H Q => s[i]? = some (some (.ref a)) ∧ ∃ c sd h, bZ K c H sd s ∧ bO K c H h ∧ ExR K mg c H x fs cls d ∧ Out K mg (aK K) c H s Q W0 (m sd h)
def lXS (K : PySem.W.Frag) (mg : Str → Option Value) (i : Nat) (a : Addr) (cls : Value) (d : Option Addr) (x : Str) (su : List (Str × D) → M Fl) : TS := fun E s H => s[i]? = some (some (.ref a)) ∧ ∃ c sd h fs, bZ K c H sd s ∧ bO K c H h ∧ ExR K mg c H x fs cls d ∧ ni K mg c H E W0 (su fs sd h)
theorem w6 {K : PySem.W.Frag} {c : C} {H : Hp} {f : Str} {y : D} : ∀ {fs : List (Str × D)} {vs : List (Str × V)}, lX K c H fs vs → fs.lookup f = some y → ∃ v, vs.lookup f = some v ∧ Rel K c H y v
  | [], vs, _, e => by simp at e
  | (g, z) :: fs, vs, h, e => by
    obtain ⟨⟨g', v⟩, r, e1, e2, h1, h2⟩ := (show ∃ v r, vs = v :: r ∧ g = v.1 ∧ Rel K c H z v.2 ∧ lX K c H fs r from h)
    subst e1
    have e2' : g = g' := e2
    subst e2'
    by_cases hf : f = g
    · subst hf
      rw [List.lookup_cons_self] at e
      cases e
      exact ⟨v, List.lookup_cons_self, h1⟩
    · have hb : (f == g) = false := by simpa using hf
      rw [List.lookup_cons, hb] at e
      obtain ⟨u, e3, r3⟩ := w6 h2 e
      exact ⟨u, by rw [List.lookup_cons, hb]; exact e3, r3⟩
section
variable {X : Cx} {i : Nat} {a : Addr} {oe : Obj} {cls : Value} {d : Option Addr} {pn : List (Addr × Obj)} {x n f : Str} {fs : List (Str × D)} {e : Expr} {es : List Expr} {m : M D} {ms : M (List D)} {C : Addr} {pos p : Pos} {P : Program} {w : World} {base : Heap} {B : String}
theorem Wg (h : PE (X.suite a ((a, oe) :: pn)) e (lE X.K X.mg W0 m)) : PE (X.suite a ((a, oe) :: pn)) e (lXE X.K X.mg i a cls d x fs m) := aX h fun s H Q ⟨_, c, sd, h, rs, rh, _, q⟩ => ⟨c, sd, h, rs, rh, q⟩
theorem Tf (T : XCl P w X.K X.mg base x f C B) (hz : Zc cls d oe) (hf : ∃ vs, oe.data = .fields vs) (hN : X.N[i]? = some n := by rfl) (hv : Vis X.env.scope n := by first | exact Or.inl rfl | exact Or.inr (Or.inl rfl) | exact Or.inr (Or.inr rfl)) (hd : (n == ("__debug__" : Str)) = false := by decide)
    (hcd : (n == ("__classdict__" : Str)) = false := by decide) : PE (X.suite a ((a, oe) :: pn)) (.Attribute (.Name n p) f pos) (lXE X.K X.mg i a cls d x fs (Pr fs f)) := by
  refine aX (pe_xf (X := X) (pn := pn) T.xf T.no hz hf (pe_var (X := X.suite a ((a, oe) :: pn)) (pos := p) (i := i) hN hv hd hcd) (by rfl)) fun s H Q ⟨hs, c, sd, h, rs, rh, xr, q⟩ => ⟨.ref a, hs, rfl, ?_⟩
  obtain ⟨T0, e1, e2, e3⟩ := xr
  unfold Pr at q
  cases e4 : fs.lookup f with
  | none =>
    unfold mOf at q
    rw [e4] at q
    exact q.elim
  | some y =>
    rw [e4] at q
    have ne : fs ≠ [] := fun z => by rw [z] at e4; simp at e4
    obtain ⟨dd, vs, f1, f2, f3, f4⟩ := e3 ne
    obtain ⟨v, g1, g2⟩ := w6 f4 e4
    rw [T.at_] at e1
    cases e1
    exact ⟨e2, dd, vs, v, f1, f3, g1, q v c H (Ext.refl _ _) rs rh g2⟩
theorem Nz : PA (X.suite a ((a, oe) :: pn)) [] (lXA X.K X.mg i a cls d x fs aN) := sU pa_nil fun s H Q ⟨_, c, sd, h, rs, rh, _, q⟩ => q [] c H (Ext.refl _ _) rs rh rfl
theorem CV (ha : PE (X.suite a ((a, oe) :: pn)) e (lXE X.K X.mg i a cls d x fs m)) (hr : PA (X.suite a ((a, oe) :: pn)) es (lXA X.K X.mg i a cls d x fs ms)) (hs : starEach (e :: es) X.env = (false, eval e X.env) :: starEach es X.env := by rfl) : PA (X.suite a ((a, oe) :: pn)) (e :: es) (lXA X.K X.mg i a cls d x fs (ak m ms)) :=
  sU (pa_cons ha hr hs) fun s H Q ⟨hs, c, sd, h, rs, rh, xr, q⟩ => ⟨hs, c, sd, h, rs, rh, xr, (Out.bind (R := Rel X.K) q).imp fun v H1 ⟨c1, d1, sd1, h1, rs1, rh1, r1, x1, q1⟩ =>
    ⟨hs, c1, sd1, h1, rs1, rh1, xr.car x1.car, (Out.bind (R := aK X.K) q1).imp fun y H2 ⟨c2, d2, sd2, h2, rs2, rh2, r2, x2, q2⟩ => q2 _ c2 H2 (Ext.refl _ _) rs2 rh2 ⟨v, y, rfl, r1.car x2.car, r2⟩⟩⟩
theorem Td {k} (h : PA (X.suite a ((a, oe) :: pn)) es (lXA X.K X.mg i a cls d x fs ms)) : PE (X.suite a ((a, oe) :: pn)) (.Tuple es k pos) (lXE X.K X.mg i a cls d x fs (qp ms)) :=
  aX (Ea h) fun s H Q ⟨hs, c, sd, h, rs, rh, xr, q⟩ => ⟨hs, c, sd, h, rs, rh, xr, (Out.bind (R := aK X.K) q).imp fun y H1 ⟨c1, d1, sd1, h1, rs1, rh1, r1, _, q1⟩ => by
    by_cases hl : d1.length ≤ 100000
    · rw [if_pos hl] at q1
      refine ⟨tH (by rw [← r1.len]; exact hl), fun p o hp ho => ?_⟩
      have g := aD (o := .frz o (.tup y)) hp
      exact q1 _ c1 _ (Ext.grow g) (rs1.grow g) (rh1.grow g) ⟨p, y, rfl, .inl ⟨rh1.out hp, o, upd_same, ho⟩, r1.car (Car.grow g)⟩
    · rw [if_neg hl] at q1
      exact q1.elim⟩
theorem Nv {mf : List (Str × D) → M D} (ha : ∀ fs, PE (X.suite a ((a, oe) :: pn)) e (lXE X.K X.mg i a cls d x fs (mf fs))) : PS (X.suite a ((a, oe) :: pn)) (.Return (some e) pos) (lXS X.K X.mg i a cls d x fun fs => lg (mf fs)) :=
  ⟨fun pins st s H D I ⟨hs, c, sd, h, fs, rs, rh, xr, q⟩ => (gQ (t' := fun E s H => lXE X.K X.mg i a cls d x fs (mf fs) s H E.rt) (ps_ret (ha fs)) fun E s H z => z).run pins st s H D I ⟨hs, c, sd, h, rs, rh, xr, (ni.bind (R := Rel X.K) q).imp fun v H1 ⟨c1, d1, sd1, h1, rs1, rh1, r1, _, q1⟩ => q1 v c1 H1 (Ext.refl _ _) rh1 r1⟩⟩
theorem JL {st : Stmt} {su : List (Str × D) → M Fl} (h : PS (X.suite a ((a, oe) :: pn)) st (lXS X.K X.mg i a cls d x su)) : PSs (X.suite a ((a, oe) :: pn)) [st] (lXS X.K X.mg i a cls d x su) := pss_one h
end
def unset (i : Nat) : Res Fl → Res Fl
  | .ok .nx s h => .ok .nx (s.set i .no) h
  | .ok .bk s h => .ok .bk (s.set i .no) h
  | .ok .ct s h => .ok .ct (s.set i .no) h
  | .ok (.rt d) s h => .ok (.rt d) s h
  | _ => .bad
def Pg (xs : List Str) (x : Str) (i : Nat) (b : M Fl) (su : List (Str × D) → M Fl) : M Fl := fun s h => match b s h with
  | .exc y fs s1 h1 => if y = x then (if i < s1.length then unset i (su fs (s1.set i .no) h1) else .bad) else if y ∈ xs then .exc y fs s1 h1 else .bad
  | r => r
theorem Cq.tr {X : Cx} {W W' : WX} {k : Nat} (q : Cq gp X W k) {pn : List (Addr × Obj)} {xe : Value → Shared → Prop} (tk : L2N.Takes (X.tr pn xe) W') : Cq gp (X.tr pn xe) W' k := ⟨tk, q.gu, q.rm, q.cm, q.nd⟩
theorem Od {X : Cx} {W : WX} {k i : Nat} {x n : Str} {xs : List Str} {C : Addr} {body suite : List Stmt} {b₀ : Stmt} {np pos pos' : Pos} {mb : M Fl} {su : List (Str × D) → M Fl} (q : Cq gp X W k) (hC : X.mg x = some (.ref C)) (ap : JF X.K X.mg x xs)
    (hb : ∀ (W' : WX) (pn : List (Addr × Obj)) (xe : Value → Shared → Prop), Cq gp (X.tr pn xe) W' k → PassesOwn (model X.prog X.w) X.A X.env xe → PSs (X.tr pn xe) body (lS X.K X.mg W' mb))
    (hsu : ∀ (a : Addr) (oe : Obj) (cls : Value) (d : Option Addr) (pn : List (Addr × Obj)), L2N.Zn cls d oe → (∃ vs, oe.data = .fields vs) → PSs (X.suite a ((a, oe) :: pn)) (b₀ :: suite) (lXS X.K X.mg i a cls d x su))
    (hg : Gl X x := by rfl) (hdb : (x == ("__debug__" : Str)) = false := by decide) (hi : X.N[i]? = some n := by rfl) (hln : X.env.kindOf n = some .local := by rfl) (hs : X.stack = X.env :: X.outer := by rfl) (hf : X.env.frame = some X.env.locals := by rfl) :
    PS X (.Try body [.ExceptHandler (some (.Name x np)) (some n) (b₀ :: suite) pos'] [] [] pos) (lS X.K X.mg W (Pg xs x i mb su)) := by
  refine gQ (L2N.ps_try_as (i := i) (c := .ref C) (tb := fun W' => lS X.K X.mg W' mb) hs hf q.nd hi hln ⟨hg, hdb, .inl hC⟩ q.tk (fun W' pn xe tk po => hb W' pn xe (q.tr tk) po) hsu) fun E s H ⟨c, sd, h, rs, rh, o⟩ => ⟨c, sd, h, rs, rh, ?_⟩
  unfold Pg at o
  cases e1 : mb sd h with
  | bad => rw [e1] at o; exact o.elim
  | ok f sd1 h1 =>
    rw [e1] at o
    cases f <;> exact o
  | exc y fs sd1 h1 =>
    rw [e1] at o
    intro s' cls dx c' H' x1 rs1 rh1 xr
    obtain ⟨T, t1, t2, t3⟩ := id xr
    subst t2
    have o' : ni X.K X.mg c H E W (if y = x then (if i < sd1.length then unset i (su fs (sd1.set i .no) h1) else .bad) else if y ∈ xs then .exc y fs sd1 h1 else .bad) := o
    by_cases hy : y = x
    · subst hy
      rw [if_pos rfl] at o'
      have hl0 : i < sd1.length := Classical.byContradiction fun hn => by
        rw [if_neg hn] at o'
        exact o'.elim
      rw [if_pos hl0] at o'
      rw [hC] at t1
      cases t1
      refine ⟨true, ap.self C hC, fun _ a na => ?_, fun z => nomatch z⟩
      have hl : i < s'.length := by rw [← rs1.len]; exact hl0
      refine ⟨List.getElem?_set_self hl, c', sd1.set i .no, h1, fs, rs1.none _, rh1, xr, ?_⟩
      have o2 := ni.shift (m := unset i (su fs (sd1.set i .no) h1)) o' x1
      cases e2 : su fs (sd1.set i .no) h1 with
      | bad => rw [e2] at o2; exact o2.elim
      | exc z gs sd2 h2 => rw [e2] at o2; exact o2.elim
      | ok f sd2 h2 =>
        rw [e2] at o2
        cases f with
        | nx => exact fun s2 c2 H2 x2 r2 r3 => o2 _ c2 H2 x2 (r2.none _) r3
        | bk => exact fun s2 c2 H2 x2 r2 r3 => o2 _ c2 H2 x2 (r2.none _) r3
        | ct => exact fun s2 c2 H2 x2 r2 r3 => o2 _ c2 H2 x2 (r2.none _) r3
        | rt d => exact o2
    · rw [if_neg hy] at o'
      by_cases hm : y ∈ xs
      · rw [if_pos hm] at o'
        exact ⟨false, ap.other y hm T C t1 hC, fun z => (nomatch z), fun _ => o' s' _ dx c' H' x1 rs1 rh1 xr⟩
      · rw [if_neg hm] at o'
        exact o'.elim
end Dm
end
section
namespace Dm
open PySem PySem.Spec PyProof.Rows L2
theorem Ny {P : Program} {w : World} {K : PySem.W.Frag} {mg : Str → Option Value} {base : Heap} {x f y Bn : Str} {B : String} {fd : FuncData} (bB : ExB Bn B) (hx : mg x = some (.ref (He.ga K x))) (h : Tc K x f B = true) (hb : Binds K fd ["self", y] [])
    (F : CP K (He.ga K x) B → PySem.W.findIn K (.ref (He.ga K x)) f = some none → FnOk P w K mg base (L2N.CX P w) 1 (He.ma K (He.ga K x) "__init__") fd ["self", y] (spI (He.ga K x) f)) : XCl P w K mg base x f (He.ga K x) B := by
  unfold Tc at h
  simp only [Bool.and_eq_true, decide_eq_true_eq] at h
  obtain ⟨⟨h1, h7⟩, h2, h3, h4, h5, h6⟩ := h
  unfold VJ at h6
  simp only [Bool.and_eq_true, decide_eq_true_eq] at h6
  obtain ⟨g1, g2, g3, g4⟩ := h6
  have X := xfB_ok h2
  exact ⟨hx, Ad bB h1, X, h3, ⟨X.ga, X.gg, X.exC, X.hdC, g1, g2, g3, g4⟩, fun e => by simpa [e] using h7, _, fd, y, h4, h5, hb, F (Ad bB h1) h3⟩
theorem Mp {K : PySem.W.Frag} {mg : Str → Option Value} {x : Str} {xs : List Str} (hx : mg x = some (.ref (He.ga K x))) (hxs : ∀ y ∈ xs, mg y = some (.ref (He.ga K y))) (h : QH K x xs = true) : JF K mg x xs := by
  obtain ⟨h1, h2⟩ := Bool.and_eq_true_iff.mp h
  refine ⟨fun C e => ?_, fun y hy B C e1 e2 => ?_⟩
  · rw [hx] at e
    cases e
    exact of_decide_eq_true h1
  · rw [hx] at e2
    rw [hxs y hy] at e1
    cases e1
    cases e2
    exact of_decide_eq_true (List.all_eq_true.mp h2 y hy)
end Dm
end
section
namespace Dm
open PySem PySem.Spec PyProof.Rows L2
section
variable {X : Cx} {pins : List (Addr × Obj)} {σ : L2.St} {H : Hp} {s : Shared} {c : C}
def Sound (K : PySem.W.Frag) (H : Hp) (b : Addr) : Prop := H b ≠ none ∨ (∃ o, K.lookup b = some o ∧ o.cls = .type "list") ∨ (b == sysModules) = false
theorem Ju (I : Inv X pins σ H s) {a : Addr} (e : H a = some (.dK [])) : ∃ o es n, s.heap.get? a = some o ∧ o.cls = .type "dict" ∧ o.data = .dict es n ∧ es.toList = [] ∧ (a == sysModules) = false := by
  obtain ⟨_, h2, vs, kv, o, es, ep, h3, h4, h5, h6, h7, h8⟩ : ([] : List (Key × V)).length ≤ sizeLine ∧ (a == sysModules) = false ∧ ∃ vs, KV [] vs ∧ s.heap.DictOf (mixKind X.prog X.w) a vs := I.hok a _ e
  cases kv
  have l := h7.length
  exact ⟨o, es, ep, h3, h4.1, h5, List.eq_nil_of_length_eq_zero l, h2⟩
theorem Jw (I : Inv X pins σ H s) {a : Addr} {k : Str} {m : Int} (e : H a = some (.dK [(.inr k, .int m)])) : ∃ o es n t u, s.heap.get? a = some o ∧ o.cls = .type "dict" ∧ o.data = .dict es n ∧ es.toList.map (·.key) = [.str k t] ∧ es.toList.map (·.val) = [.int m u] ∧ (a == sysModules) = false := by
  obtain ⟨_, h2, vs, kv, o, es, ep, h3, h4, h5, h6, h7, h8⟩ : ([((Sum.inr k : Key), .int m)] : List (Key × V)).length ≤ sizeLine ∧ (a == sysModules) = false ∧ ∃ vs, KV [((Sum.inr k : Key), .int m)] vs ∧ s.heap.DictOf (mixKind X.prog X.w) a vs := I.hok a _ e
  cases kv with
  | @cons _ q _ qs g1 g2 =>
    cases g2
    obtain ⟨q1, q2⟩ := q
    obtain ⟨rfl, u, rfl⟩ : Sum.inr k = q1 ∧ ∃ u, q2 = .int m u := ⟨g1.1, g1.2⟩
    cases hes : es.toList with
    | nil => rw [hes] at h7; cases h7
    | cons en r =>
      rw [hes] at h7
      cases h7 with
      | cons w1 w2 w3 =>
        cases w3
        rcases keyIs_shape (k := Sum.inr k) (v := en.key) w1 with ⟨j, t, z, _⟩ | ⟨y, t, z, z2⟩
        · cases z
        · cases z
          exact ⟨o, es, ep, t, u, h3, h4.1, h5, by rw [hes]; simp [z2], by rw [hes]; simp [w2], h2⟩
mutual
theorem Rel.rds (I : Inv X pins σ H s) : ∀ {d : D} {v : V} {u : Value} {e : PyData}, Rel X.K c H d v → RelV v u → d.pyx = some e → ∃ as, Reads s.heap u e as ∧ ∀ b ∈ as, Sound X.K H b
  | .non, v, u, e, r, ru, h => by cases h; cases r; cases ru; exact ⟨_, Reads.none, by simp⟩
  | .bl b, v, u, e, r, ru, h => by cases h; cases r; cases ru; exact ⟨_, Reads.bool b, by simp⟩
  | .int i, v, u, e, r, ru, h => by cases h; cases r; obtain ⟨t, rfl⟩ := ru; exact ⟨_, Reads.int i t, by simp⟩
  | .str x, v, u, e, r, ru, h => by cases h; cases r; obtain ⟨t, rfl⟩ := ru; exact ⟨_, Reads.str x t, by simp⟩
  | .tup xs, v, u, e, r, ru, h => by
    obtain ⟨a, vs, rfl, t, rl⟩ := r
    cases ru
    cases q : D.yO xs with
    | none => simp [D.pyx, q] at h
    | some es =>
      simp [D.pyx, q] at h
      subst h
      obtain ⟨its, rv, ⟨o, ho, hc, n, hd⟩, _⟩ := I.tuple t.sq
      obtain ⟨as, hr, ok⟩ := aK.rds I rl rv q
      exact ⟨_, Reads.tuple ho hc hd hr, ok⟩
  | .lst xs, v, u, e, r, ru, h => by
    obtain ⟨a, vs, rfl, _, t, rl⟩ := r
    cases ru
    cases q : D.yO xs with
    | none => simp [D.pyx, q] at h
    | some es =>
      simp [D.pyx, q] at h
      subst h
      obtain ⟨its, rv, ⟨o, n, ho, hc, _, hd⟩, _⟩ := I.list (SqL.of t)
      obtain ⟨as, hr, ok⟩ := aK.rds I rl rv q
      refine ⟨_, Reads.list ho hc hd hr, fun b hb => ?_⟩
      rcases List.mem_cons.mp hb with z | z
      · subst z; exact .inl (by rw [t]; simp)
      · exact ok b z
  | .ro xs, v, u, e, r, ru, h => by
    obtain ⟨a, vs, rfl, t, rl⟩ := r
    cases ru
    cases q : D.yO xs with
    | none => simp [D.pyx, q] at h
    | some es =>
      simp [D.pyx, q] at h
      subst h
      obtain ⟨its, rv, ⟨o, n, ho, hc, _, hd⟩, _⟩ := I.list t.sq
      obtain ⟨as, hr, ok⟩ := aK.rds I rl rv q
      refine ⟨_, Reads.list ho hc hd hr, fun b hb => ?_⟩
      rcases List.mem_cons.mp hb with z | z
      · subst z
        rcases t with ⟨_, t⟩ | t
        · rcases t with t | ⟨_, t⟩ <;> exact .inl (by rw [t]; simp)
        · obtain ⟨o, its, n, t1, t2, _⟩ := t
          exact .inr (.inl ⟨o, t1, t2⟩)
      · exact ok b z
  | .edt, v, u, e, r, ru, h => by
    obtain ⟨a, rfl, _, t⟩ := r
    cases ru
    simp [D.pyx] at h
    subst h
    obtain ⟨o, es, n, h1, h2, h3, h4, h5⟩ := Ju I t
    refine ⟨_, Reads.dict (kvs := []) (as := []) (bs := []) h1 h2 h3 (by rw [h4]; exact .nil) (by rw [h4]; exact .nil), fun b hb => ?_⟩
    simp at hb
    subst hb
    exact .inr (.inr h5)
  | .dtx k m, v, u, e, r, ru, h => by
    obtain ⟨a, rfl, _, t⟩ := r
    cases ru
    simp [D.pyx] at h
    subst h
    obtain ⟨o, es, n, t1, t2, h1, h2, h3, h4, h5, h6⟩ := Jw I t
    refine ⟨_, Reads.dict (kvs := [(.str k, .int m)]) (as := []) (bs := []) h1 h2 h3 (by rw [h4]; exact .cons (as := []) (bs := []) (.str k t1) .nil) (by rw [h5]; exact .cons (as := []) (bs := []) (.int m t2) .nil), fun b hb => ?_⟩
    simp at hb
    subst hb
    exact .inr (.inr h6)
  | .ref i, v, u, e, r, ru, h => by simp [D.pyx] at h
theorem aK.rds (I : Inv X pins σ H s) : ∀ {ds : List D} {vs : List V} {us : List Value} {es : List PyData}, aK X.K c H ds vs → Vals vs us → D.yO ds = some es → ∃ as, ReadsAll s.heap us es as ∧ ∀ b ∈ as, Sound X.K H b
  | [], vs, us, es, r, ru, h => by cases r; cases ru; simp [D.yO] at h; subst h; exact ⟨_, .nil, by simp⟩
  | d :: ds, vs, us, es, r, ru, h => by
    obtain ⟨v, vr, rfl, h1, h2⟩ := (show ∃ v r, vs = v :: r ∧ Rel X.K c H d v ∧ aK X.K c H ds r from r)
    cases ru with
    | cons r1 r2 =>
      cases q1 : D.pyx d with
      | none => simp [D.yO, q1] at h
      | some x =>
        cases q2 : D.yO ds with
        | none => simp [D.yO, q1, q2] at h
        | some xs =>
          simp [D.yO, q1, q2] at h
          subst h
          obtain ⟨as, a1, a2⟩ := Rel.rds I h1 r1 q1
          obtain ⟨bs, b1, b2⟩ := aK.rds I h2 r2 q2
          exact ⟨_, .cons a1 b1, fun b hb => (List.mem_append.mp hb).elim (a2 b) (b2 b)⟩
end
theorem Dt (I : Inv X pins σ H s) (sm : smB X.K = true) {as : List Addr} (h : ∀ b ∈ as, Sound X.K H b) : sysModules ∉ as := fun hm => by
  obtain ⟨es, n, sl, lk⟩ := He.dictB_ok sm
  rcases h _ hm with z | ⟨o, z1, z2⟩ | z
  · exact z (I.env0.bs _ _ (I.ok.mod.kin _ _ lk)).2
  · rw [lk] at z1
    cases z1
    have z3 : Value.type "dict" = .type "list" := z2
    exact absurd z3 (by decide)
  · simp at z
end
section
variable {X : Cx} {W : WX} {k : Nat}
theorem wz (q : Cq True X W k) (sm : smB X.K = true) : CallR X (.builtin "repr") (DCl X.K qY) := by
  intro pins s σ H xs us Q I r hq
  obtain ⟨c, h, as, d, rh, ra, e, hq⟩ := hq
  unfold qY at e
  split at e
  · rename_i a
    obtain ⟨v, rfl, rv⟩ := Gi ra
    obtain ⟨u, rfl, ru⟩ := r.one
    split at e
    · rename_i e0 e1
      split at e
      · rename_i hn
        cases e
        unfold Hg at hn
        simp only [Bool.and_eq_true, decide_eq_true_eq] at hn
        obtain ⟨⟨⟨n1, h3⟩, h4⟩, n4⟩ := hn
        have n3 : e0.shown.length ≤ sizeLine := by
          have := PyData.shown_le_bulk 2000 (by decide) e0 h3
          rw [sizeLine_eq]
          omega
        have fin : ∀ s' t, Inv X pins σ H s' → EP X pins σ Q (.str e0.shown t) s' := fun s' t J => ⟨.str e0.shown, H, J, ⟨t, rfl⟩, hq _ H (fun _ _ z => z) rfl⟩
        obtain ⟨as, rd, ok⟩ := rv.rds I ru e1
        have un : X.A.units + (e0.depth + 1) < cLine := by have := q.rm.un; omega
        have road : ∀ p, u = .ref p → wpAny (model X.prog X.w) X.A (call (.builtin "repr") [u]) (EP X pins σ Q) X.xe s := fun p e2 => by
          subst e2
          exact repr_of_reads' rd n1 (fun z => Dt I sm ok) (q.gu trivial) un (fun _ _ z => z) (fun h' t tk hk => fin _ t (I.kept hk)) n3
        cases a with
        | non =>
          cases e1; cases rv; cases ru
          exact PySem.P.repr_of_none (fin _ _ (I.tok _))
        | bl b =>
          cases e1; cases rv; cases ru
          exact PySem.P.repr_of_bool (fin _ _ (I.tok _))
        | int i =>
          cases e1; cases rv
          obtain ⟨t, rfl⟩ := ru
          have n1' : i.natAbs.log2 < 1920 := by simpa [PyData.showable] using n1
          exact PySem.P.repr_of_int n1' (fin _ _ (I.tok _))
        | str x =>
          cases e1; cases rv
          obtain ⟨t, rfl⟩ := ru
          exact PySem.P.repr_of_str (fin _ _ (I.tok _)) n3
        | tup xs => obtain ⟨p, vs, e3, _⟩ := rv; subst e3; exact road p ru
        | lst xs => obtain ⟨p, vs, e3, _⟩ := rv; subst e3; exact road p ru
        | ro xs => obtain ⟨p, vs, e3, _⟩ := rv; subst e3; exact road p ru
        | edt => obtain ⟨p, e3, _⟩ := rv; subst e3; exact road p ru
        | dtx k n => obtain ⟨p, e3, _⟩ := rv; subst e3; exact road p ru
        | ref i => cases e1
      · cases e
    · cases e
  · cases e
end
theorem pW (l : Addr) (es : Array DictEntry) (n : Nat) (dd : Option Addr) (sl : Array (Option Value)) (b : Int) (u : Tok) :
    Meets (Builtin.«dict.__eq__» ⟨[.ref l, .int b u], []⟩) (fun _ R s => s.heap.get? l = some { cls := .type "dict", dict := dd, data := .dict es n, slots := sl } ∧ R (.ok (.ret .notImplemented)) s) :=
  .of_wp fun prog w A R s h => by obtain ⟨hp, g, d, tk, os⟩ := s; obtain ⟨hl, h⟩ := h; have f1 := F.sub_int_dict; wp_walk using AutoSeq1.wpAny_loadPart' hl; exact ⟨_, rfl, h⟩
theorem pQ (b : Int) (u : Tok) (l : Addr) (es : Array DictEntry) (n : Nat) (dd : Option Addr) (sl : Array (Option Value)) :
    Meets (Builtin.«int.__eq__» ⟨[.int b u, .ref l], []⟩) (fun _ R s => s.heap.get? l = some { cls := .type "dict", dict := dd, data := .dict es n, slots := sl } ∧ R (.ok (.ret .notImplemented)) s) :=
  .of_wp fun prog w A R s h => by obtain ⟨hp, g, d, tk, os⟩ := s; obtain ⟨hl, h⟩ := h; wp_walk using AutoSeq1.wpAny_loadPart' hl, wpAny_load hl; exact ⟨_, rfl, h⟩
theorem oX {A : Around} {s : Shared} {l : Addr} {o : Obj} {es : Array DictEntry} {n : Nat} (b : Int) (u : Tok) (ho : s.heap.get? l = some o) (hc : o.cls = .type "dict") (hd : o.data = .dict es n) (hu : A.units < cLine) : SeqAt.EqAt A s (.ref l) (.int b u) false := fun prog w E Q h => by
  obtain ⟨oc, dd, dt, sl⟩ := o
  dsimp only at hc hd
  subst hc hd
  unfold eqBool
  refine wpAny_holding (wpAny_ite_split (fun z => absurd (eq_of_beq z) nofun) fun _ => wpAny_bind ?_)
  refine SeqAt.rc_eq_decline_or (k := false) (Tb := "int") ⟨_, ho, rfl⟩ (typeIs_int s b u) (by decide) F.sub_int_dict F.slot_dict_eq F.slot_int_eq_refl ?_ ?_ (fun _ q => wpAny_of_eq (rfl : isSame (.ref l) (.int b u) = pure false) q) (.inr hu) (wpAny_truthy_bool h)
  · exact fun _ q => call_meets F.slot_dict_eq ⟨_, ho, rfl⟩ F.entry_dict_eq (F.args_dict_eq_2 _ _) (pW l es n dd sl b u) ⟨ho, q⟩
  · exact fun _ q => call_meets F.slot_int_eq_refl (typeIs_int s b u) F.entry_int_eq (F.args_int_eq_2 _ _) (pQ b u l es n dd sl) ⟨ho, q⟩
def eqV (i : Int) : D → Option Bool
  | .int j => some (j == i)
  | .bl b => some ((if b then 1 else 0) == i)
  | .ref _ => none
  | _ => some false
def QM (i : Int) : List D → Option Bool
  | [] => some false
  | y :: ys => match eqV i y, QM i ys with
    | some a, some b => some (a || b)
    | _, _ => none
def QT (x : D) (xs : List D) : Option Bool := match x with
  | .int i => QM i xs
  | x => match D.pyL xs, x.py with
    | some ds, some e => if PyData.canLayAll0 ds && e.canLay0 && decide (e.depth ≤ 40) then some (ds.any fun y => PyData.eqv y e) else none
    | _, _ => none
def MK (x y : D) : Option Bool := match y with
  | .tup xs => QT x xs
  | .lst xs => QT x xs
  | .ro xs => QT x xs
  | _ => none
def inX (_ : Hd) (x y : D) : Option D := (MK x y).map .bl
def O8 (_ : Hd) (x y : D) : Option D := (MK x y).map fun k => .bl !k
def eqW (i : Int) : Value → Bool
  | .int j _ => j == i
  | .bool b => (if b then 1 else 0) == i
  | _ => false
section
variable {X : Cx} {W : WX} {k : Nat} {pins : List (Addr × Obj)} {σ : L2.St} {H : Hp} {s : Shared} {c : C}
theorem Qt (I : Inv X pins σ H s) (hu : X.A.units + 64 < cLine) {i : Int} {tk : Tok} {y : D} {w : V} {t : Value} {r : Bool} (ry : Rel X.K c H y w) (rt : RelV w t) (e : eqV i y = some r) : SeqAt.EqAt X.A.in1 s t (.int i tk) r ∧ eqW i t = r := by
  have hu1 : X.A.in1.units < cLine := show X.A.units + 1 < cLine by omega
  unfold eqV at e
  cases y with
  | int j =>
    cases e
    cases ry
    obtain ⟨tt, rfl⟩ := rt
    exact ⟨SeqAt.EqAt.int_int j tt i tk, rfl⟩
  | bl b =>
    cases e
    cases ry
    cases rt
    exact ⟨SeqAt.EqAt.bool_int b i tk, rfl⟩
  | non =>
    cases e
    cases ry
    cases rt
    exact ⟨SeqAt.EqAt.none_int i tk, rfl⟩
  | str x =>
    cases e
    cases ry
    obtain ⟨tt, rfl⟩ := rt
    exact ⟨SeqAt.EqAt.str_int x tt i tk, rfl⟩
  | tup xs =>
    cases e
    obtain ⟨a, vs, rfl, h1, _⟩ := ry
    cases rt
    obtain ⟨its, rv, hT, _⟩ := I.tuple h1.sq
    exact ⟨SeqAt.EqAt.tuple_int i tk hT hu1, rfl⟩
  | lst xs =>
    cases e
    obtain ⟨a, vs, rfl, _, h1, _⟩ := ry
    cases rt
    obtain ⟨its, rv, ⟨o, n, ho, hc, _, hd⟩, _⟩ := I.list (SqL.of h1)
    exact ⟨SeqAt.EqAt.list_int i tk ⟨o, ho, hc, n, hd⟩ hu1, rfl⟩
  | ro xs =>
    cases e
    obtain ⟨a, vs, rfl, h1, _⟩ := ry
    cases rt
    obtain ⟨its, rv, ⟨o, n, ho, hc, _, hd⟩, _⟩ := I.list h1.sq
    exact ⟨SeqAt.EqAt.list_int i tk ⟨o, ho, hc, n, hd⟩ hu1, rfl⟩
  | edt =>
    cases e
    obtain ⟨a, rfl, _, h1⟩ := ry
    cases rt
    obtain ⟨o, es, n, q1, q2, q3, _, _⟩ := Ju I h1
    exact ⟨oX i tk q1 q2 q3 hu1, rfl⟩
  | dtx k m =>
    cases e
    obtain ⟨a, rfl, _, h1⟩ := ry
    cases rt
    obtain ⟨o, es, n, _, _, q1, q2, q3, _, _, _⟩ := Jw I h1
    exact ⟨oX i tk q1 q2 q3 hu1, rfl⟩
  | ref j => cases e
theorem FW (I : Inv X pins σ H s) (hu : X.A.units + 64 < cLine) {i : Int} {tk : Tok} : ∀ {xs : List D} {vs : List V} {us : List Value} {r : Bool}, aK X.K c H xs vs → Vals vs us → QM i xs = some r →
    (∀ y ∈ us, SeqAt.EqAt X.A.in1 s y (.int i tk) (eqW i y)) ∧ us.any (eqW i) = r
  | [], vs, us, r, rl, ru, e => by
    cases rl; cases ru; cases e
    exact ⟨by simp, rfl⟩
  | y :: ys, vs, us, r, rl, ru, e => by
    obtain ⟨v, vr, rfl, h1, h2⟩ := (show ∃ v r, vs = v :: r ∧ Rel X.K c H y v ∧ aK X.K c H ys r from rl)
    cases ru with
    | cons r1 r2 =>
      unfold QM at e
      cases q1 : eqV i y with
      | none => rw [q1] at e; cases e
      | some a =>
        cases q2 : QM i ys with
        | none => rw [q1, q2] at e; cases e
        | some b =>
          rw [q1, q2] at e
          cases e
          obtain ⟨a1, a2⟩ := Qt (tk := tk) I hu h1 r1 q1
          obtain ⟨b1, b2⟩ := FW I hu h2 r2 q2
          refine ⟨fun z hz => ?_, by rw [List.any_cons, a2, b2]⟩
          rcases List.mem_cons.mp hz with rfl | hz
          · rw [a2]; exact a1
          · exact b1 z hz
theorem Ql (I : Inv X pins σ H s) (hu : X.A.units + 64 < cLine) {x y : D} {v w : V} {u t : Value} {r : Bool} (rx : Rel X.K c H x v) (ru : RelV v u) (ry : Rel X.K c H y w) (rt : RelV w t) (e : MK x y = some r) :
    (∀ Q : Value → Shared → Prop, Q (.bool r) s → wpAny (model X.prog X.w) X.A (compareOp .In u t) Q X.xe s) ∧ ∀ Q : Value → Shared → Prop, Q (.bool !r) s → wpAny (model X.prog X.w) X.A (compareOp .NotIn u t) Q X.xe s := by
  have seq : ∀ (xs : List D) (vs : List V) (us : List Value) (a : Addr), aK X.K c H xs vs → Vals vs us → (s.heap.IsTuple a us.toArray ∨ s.heap.IsList a us.toArray) → QT x xs = some r →
      (∀ Q : Value → Shared → Prop, Q (.bool r) s → wpAny (model X.prog X.w) X.A (compareOp .In u (.ref a)) Q X.xe s) ∧ ∀ Q : Value → Shared → Prop, Q (.bool !r) s → wpAny (model X.prog X.w) X.A (compareOp .NotIn u (.ref a)) Q X.xe s := fun xs vs us a rl rus hT e => by
    have go : (∃ f : Value → Bool, (∀ z ∈ us.toArray, SeqAt.EqAt X.A.in1 s z u (f z)) ∧ us.toArray.any f = r) → (∀ Q : Value → Shared → Prop, Q (.bool r) s → wpAny (model X.prog X.w) X.A (compareOp .In u (.ref a)) Q X.xe s) ∧ ∀ Q : Value → Shared → Prop, Q (.bool !r) s → wpAny (model X.prog X.w) X.A (compareOp .NotIn u (.ref a)) Q X.xe s := fun ⟨f, f1, f2⟩ => by
      rcases hT with hT | hT
      · exact ⟨fun Q q => SeqAt.in_tupleAt f hT f1 (by rw [f2]; exact q), fun Q q => SeqAt.notIn_tupleAt f hT f1 (by rw [f2]; exact q)⟩
      · exact ⟨fun Q q => SeqAt.in_listAt f hT f1 (by rw [f2]; exact q), fun Q q => SeqAt.notIn_listAt f hT f1 (by rw [f2]; exact q)⟩
    have data : ∀ {ds : List PyData} {f : PyData}, D.pyL xs = some ds → x.py = some f → PyData.canLayAll0 ds = true → f.canLay0 = true → f.depth ≤ 40 → r = ds.any (fun z => PyData.eqv z f) → ∃ f : Value → Bool, (∀ z ∈ us.toArray, SeqAt.EqAt X.A.in1 s z u (f z)) ∧ us.toArray.any f = r := fun {ds f} h1 h2 h3 h4 h5 h6 => by
      obtain ⟨as, r1⟩ := Dp.readsAll I ds vs us (rl.dp h1) rus
      obtain ⟨bs, r2⟩ := Dp.reads I f v u (rx.dp h2) ru
      have r1' : ReadsAll s.heap us.toArray.toList ds as := by simpa using r1
      refine ⟨fun z => PyData.eqv (SeqAt.readOf s.heap z) f, SeqAt.items_eqAt r1' r2 h3 h4 ?_, by rw [SeqAt.any_by_data r1' h3, h6]⟩
      have := Nat.min_le_right (PyData.depthAll ds) f.depth
      omega
    unfold QT at e
    split at e
    · rename_i i
      cases rx
      obtain ⟨tk, rfl⟩ := ru
      obtain ⟨a1, a2⟩ := FW (tk := tk) I hu rl rus e
      exact go ⟨eqW _, by simpa using a1, by simpa using a2⟩
    · split at e
      · rename_i ds f h1 h2
        split at e
        · rename_i h3
          simp only [Bool.and_eq_true, decide_eq_true_eq] at h3
          cases e
          exact go (data h1 h2 h3.1.1 h3.1.2 h3.2 rfl)
        · cases e
      · cases e
  unfold MK at e
  cases y with
  | tup xs =>
    obtain ⟨a, vs, rfl, h1, rl⟩ := ry
    cases rt
    obtain ⟨its, rv, hT, _⟩ := I.tuple h1.sq
    exact seq xs vs its a rl rv (.inl hT) e
  | lst xs =>
    obtain ⟨a, vs, rfl, _, h1, rl⟩ := ry
    cases rt
    obtain ⟨its, rv, ⟨o, n, ho, hc, _, hd⟩, _⟩ := I.list (SqL.of h1)
    exact seq xs vs its a rl rv (.inr ⟨o, ho, hc, n, hd⟩) e
  | ro xs =>
    obtain ⟨a, vs, rfl, h1, rl⟩ := ry
    cases rt
    obtain ⟨its, rv, ⟨o, n, ho, hc, _, hd⟩, _⟩ := I.list h1.sq
    exact seq xs vs its a rl rv (.inr ⟨o, ho, hc, n, hd⟩) e
  | _ => cases e
theorem Oz (q : Cq gp X W k) : OpR X (compareOp .In) (DOp X.K inX) := fun pins s σ H v w u t Q I rv rt ⟨c, h, x, y, d, rh, ra, rb, e, hq⟩ => by
  unfold inX at e
  cases e1 : MK x y with
  | none => rw [e1] at e; cases e
  | some r =>
    rw [e1] at e
    cases e
    exact (Ql I q.rm.units ra rv rb rt e1).1 _ ⟨.bl r, H, I, rfl, hq _ H (fun _ _ z => z) rfl⟩
theorem Ji (q : Cq gp X W k) : OpR X (compareOp .NotIn) (DOp X.K O8) := fun pins s σ H v w u t Q I rv rt ⟨c, h, x, y, d, rh, ra, rb, e, hq⟩ => by
  unfold O8 at e
  cases e1 : MK x y with
  | none => rw [e1] at e; cases e
  | some r =>
    rw [e1] at e
    cases e
    exact (Ql I q.rm.units ra rv rb rt e1).2 _ ⟨.bl !r, H, I, rfl, hq _ H (fun _ _ z => z) rfl⟩
end
def Qu : D → D → Option Bool
  | .tup xs, .tup [] => some xs.isEmpty
  | a, b => eqB a b
def eqX (_ : Hd) (a b : D) : Option D := (Qu a b).map .bl
theorem OD {X : Cx} (hu0 : X.A.units + 64 < cLine) : OpR X (compareOp .Eq) (DOp X.K eqX) := fun pins s σ H v w u t Q I rv rt ⟨c, h, x, y, d, rh, ra, rb, e, hq⟩ => by
  unfold eqX at e
  cases e1 : Qu x y with
  | none => rw [e1] at e; cases e
  | some r =>
    rw [e1] at e
    unfold Qu at e1
    split at e1
    · rename_i xs
      cases e
      cases e1
      obtain ⟨a, vs, rfl, h1, rl⟩ := ra
      obtain ⟨b, ws, rfl, h2, rl2⟩ := rb
      cases rl2
      cases rv
      cases rt
      obtain ⟨its, r1, t1, _⟩ := I.tuple h1.sq
      obtain ⟨its2, r2, t2, _⟩ := I.tuple h2.sq
      cases r2
      have hu : X.A.units < cLine := by have := hu0; omega
      refine SeqAt.eq_tupleAt (e := fun _ => true) t1 t2 hu (fun j _ z => absurd z (by simp)) ?_
      have hb : ((List.range (min its.toArray.size ([] : List Value).toArray.size)).all (fun _ => true) && its.toArray.size == ([] : List Value).toArray.size) = xs.isEmpty := by
        have hl : xs.length = its.length := by rw [rl.len, r1.length]
        simp only [List.size_toArray, List.length_nil, Nat.min_zero, List.range_zero, List.all_nil, Bool.true_and, ← hl]
        cases xs <;> rfl
      rw [hb]
      exact ⟨.bl _, H, I, rfl, hq _ H (fun _ _ z => z) rfl⟩
    · exact T6 hu0 pins s σ H v w u t Q I rv rt ⟨c, h, x, y, d, rh, ra, rb, by unfold eqD; rw [e1]; exact e, hq⟩
theorem mJ {X : Cx} {W : WX} {k : Nat} (q : Cq gp X W k) : OpR X (compareOp .Eq) (DOp X.K eqX) := OD q.rm.units
end Dm
end
section
namespace Dm
open PySem PySem.Spec PyProof.Rows L2
def J9 {A : Type} (xs : List A) (lo hi : Option Int) (st : Int) : List A :=
  (List.range (Builtin.Slice.slicePlaces (Builtin.Slice.sliceAdjust lo hi st (xs.length : Int)).1 (Builtin.Slice.sliceAdjust lo hi st (xs.length : Int)).2 st)).filterMap fun (k : Nat) => xs[((Builtin.Slice.sliceAdjust lo hi st (xs.length : Int)).1 + (k : Int) * st).toNat]?
section
variable {K : PySem.W.Frag} {c : C} {H : Hp}
theorem aK.pick {ds : List D} {vs : List V} (r : aK K c H ds vs) (f : Nat → Nat) : ∀ ks : List Nat, aK K c H (ks.filterMap fun k => ds[f k]?) (ks.filterMap fun k => vs[f k]?)
  | [] => rfl
  | k :: ks => by
    have ih := aK.pick r f ks
    cases e : ds[f k]? with
    | none =>
      have e2 : vs[f k]? = none := List.getElem?_eq_none (by rw [← r.len]; exact List.getElem?_eq_none_iff.mp e)
      simp only [List.filterMap_cons, e, e2]
      exact ih
    | some d =>
      obtain ⟨v, e2, rv⟩ := r.get e
      simp only [List.filterMap_cons, e, e2]
      exact ⟨v, _, rfl, rv, ih⟩
theorem aK.step {ds : List D} {vs : List V} (r : aK K c H ds vs) (lo hi : Option Int) (st : Int) : aK K c H (J9 ds lo hi st) (J9 vs lo hi st) := by
  unfold J9
  rw [r.len]
  exact r.pick _ _
end
end Dm
end
section
namespace Dm
open PySem L2
def atV (Q : D → Prop) (_ : Tg Q Q) : Sd → Nat → Prop
  | .val d :: _, 0 => Q d
  | _ :: s, i + 1 => atV Q () s i
  | _, _ => False
def atO (Q : List D → Prop) (_ : Tg Q Q) : Sd → Nat → Prop
  | .own d :: _, 0 => Q d
  | _ :: s, i + 1 => atO Q () s i
  | _, _ => False
def opQ {A : Type} (Q : A → Prop) (_ : Tg Q Q) : Option A → Prop
  | some d => Q d
  | none => False
def blQ (Q : Bool → Prop) (_ : Tg Q Q) : D → Prop
  | .bl b => Q b
  | _ => False
def inQ (Q : Int → Prop) (_ : Tg Q Q) : D → Prop
  | .int i => Q i
  | _ => False
def Cd (P Q : Prop) (_ : Tg P Q) : Bool → Prop
  | true => P
  | false => Q
def nxQ (P Q : Prop) (_ : Tg P Q) : Fl → Prop
  | .nx => P
  | _ => Q
def itQ (Q : List D → Prop) (_ : Tg Q Q) : D → Prop
  | .tup xs => Q xs
  | .lst xs => Q xs
  | .ro xs => Q xs
  | _ => False
def onQ (Q : D → Prop) (_ : Tg Q Q) : List D → Prop
  | [d] => Q d
  | _ => False
def i1Q (Q : Int → Prop) (_ : Tg Q Q) : List D → Prop
  | [.int i] => Q i
  | _ => False
def i2Q (Q : Int → Int → Prop) (_ : Tg Q Q) : List D → Prop
  | [.int i, .int j] => Q i j
  | _ => False
def lsQ (Q : List D → Prop) (_ : Tg Q Q) : D → Prop
  | .lst xs => Q xs
  | _ => False
def enQ (Q : List D → Prop) (_ : Tg Q Q) : List D → Prop
  | [.tup xs] => Q xs
  | [.lst xs] => Q xs
  | _ => False
def tpQ (Q : List D → Prop) (_ : Tg Q Q) : D → Prop
  | .tup xs => Q xs
  | _ => False
def fnQ (Q : D → Hd → Prop) (_ : Tg Q Q) : Fl → Hd → Prop
  | .rt d, h => Q d h
  | .nx, h => Q .non h
  | _, _ => False
section
variable {A B : Type} {Q : A → Sd → Hd → Prop} {R : B → Sd → Hd → Prop} {E : Ex} {s : Sd} {h : Hd} {r : Res A} {i : Nat} {d x : D} {xs : List D} {P P' : Prop}
theorem Wq.eq (r : Res A) : Wq Q E () r = (match r with | .ok a s h => Q a s h | .exc x fs s h => E x fs s h | .bad => False) := rfl
theorem JH {a : A} : Wq Q E () (.ok a s h) = Q a s h := Eq.trans rfl rfl
theorem SM {x : Str} {fs : List (Str × D)} : Wq Q E () (.exc x fs s h : Res A) = E x fs s h := Eq.trans rfl rfl
theorem S7 : Wq Q E () (.bad : Res A) = False := Eq.trans rfl rfl
theorem Iz {f : A → Sd → Hd → Res B} : Wq R E () (r.bind f) = Wq (fun a s h => Wq R E () (f a s h)) E () r := by cases r <;> rfl
theorem Q7 {f : A → Sd → Hd → Res B} : Wq R E () (r.bd f) = Wq (fun a s h => Wq R E () (f a s h)) nX () r := by cases r <;> rfl
theorem zK {u : Res Unit} {f : Sd → Hd → Res B} : Wq R E () (u.only f) = Wq (fun _ s h => Wq R E () (f s h)) nX () u := by cases u <;> rfl
theorem Nh {r : Res Fl} {Q : D → Sd → Hd → Prop} : Wq Q E () (fin r) = Wq (fun f _ h => fnQ (fun d h => Q d [] h) () f h) (fun x fs _ h => E x fs [] h) () r := by
  cases r with
  | ok f s h => cases f <;> rfl
  | exc x fs s h => rfl
  | bad => rfl
theorem Vc {Q : D → Prop} : atV Q () (.val d :: s) 0 = Q d := Eq.trans rfl rfl
theorem QJ {Q : D → Prop} {x : Sl} : atV Q () (x :: s) (i + 1) = atV Q () s i := by cases x <;> rfl
theorem Vd {Q : List D → Prop} : atO Q () (.own xs :: s) 0 = Q xs := Eq.trans rfl rfl
theorem QK {Q : List D → Prop} {x : Sl} : atO Q () (x :: s) (i + 1) = atO Q () s i := by cases x <;> rfl
theorem G6 {Q : B → Prop} {b : B} : opQ Q () (some b) = Q b := Eq.trans rfl rfl
theorem QD {Q : Bool → Prop} {b : Bool} : blQ Q () (.bl b) = Q b := Eq.trans rfl rfl
theorem LK {Q : Int → Prop} {i : Int} : inQ Q () (.int i) = Q i := Eq.trans rfl rfl
theorem V1 : Cd P P' () true = P := Eq.trans rfl rfl
theorem V2 : Cd P P' () false = P' := Eq.trans rfl rfl
theorem O2 : nxQ P P' () .nx = P := Eq.trans rfl rfl
theorem OJ : nxQ P P' () (.rt d) = P' := Eq.trans rfl rfl
theorem O5 : nxQ P P' () .bk = P' := Eq.trans rfl rfl
theorem O4 : nxQ P P' () .ct = P' := Eq.trans rfl rfl
theorem Lp {Q : List D → Prop} : itQ Q () (.tup xs) = Q xs := Eq.trans rfl rfl
theorem Lq {Q : List D → Prop} : itQ Q () (.lst xs) = Q xs := Eq.trans rfl rfl
theorem Qg {Q : List D → Prop} : itQ Q () (.ro xs) = Q xs := Eq.trans rfl rfl
theorem TX {Q : D → Prop} : onQ Q () [d] = Q d := Eq.trans rfl rfl
theorem Uw {Q : Int → Prop} {i : Int} : i1Q Q () [.int i] = Q i := Eq.trans rfl rfl
theorem Uv {Q : Int → Int → Prop} {i j : Int} : i2Q Q () [.int i, .int j] = Q i j := Eq.trans rfl rfl
theorem Us {Q : List D → Prop} : lsQ Q () (.lst xs) = Q xs := Eq.trans rfl rfl
theorem UG {Q : List D → Prop} : enQ Q () [.tup xs] = Q xs := Eq.trans rfl rfl
theorem UJ {Q : List D → Prop} : enQ Q () [.lst xs] = Q xs := Eq.trans rfl rfl
theorem Tj {Q : List D → Prop} : tpQ Q () (.tup xs) = Q xs := Eq.trans rfl rfl
theorem Qo {Q : D → Hd → Prop} : fnQ Q () (.rt d) h = Q d h := Eq.trans rfl rfl
theorem Qp {Q : D → Hd → Prop} : fnQ Q () .nx h = Q .non h := Eq.trans rfl rfl
end
section
variable {A : Type} {E : Ex} {s : Sd} {h : Hd} {i : Nat} {d : D} {a b e : M D} {t u : M Bool} {m n : M Fl} {ms : M (List D)} {Q : D → Sd → Hd → Prop} {QB : Bool → Sd → Hd → Prop} {QF : Fl → Sd → Hd → Prop} {QL : List D → Sd → Hd → Prop} {QO : Option Int → Sd → Hd → Prop} {QS : List Sl → Sd → Hd → Prop} {QU : Unit → Sd → Hd → Prop} {QA : A → Sd → Hd → Prop}
theorem sk {A B : Type} {r : Res A} {f : A → Sd → Hd → Res B} {F : A → Sd → Hd → Prop} {R : B → Sd → Hd → Prop} (hf : ∀ a s h, Wq R E () (f a s h) = F a s h) : Wq R E () (r.bind f) = Wq F E () r := by
  cases r with
  | ok a s h => exact hf a s h
  | exc x fs s h => rfl
  | bad => rfl
theorem y_C : Wq Q E () (mC d s h) = Q d s h := Eq.trans rfl rfl
theorem RJ : Wq Q E () (aC i s h) = atV (fun d => Q d s h) () s i := by
  have key : ∀ (s0 : Sd) (i : Nat), (match s0[i]? with | some (.val d) => Q d s h | _ => False) = atV (fun d => Q d s h) () s0 i := by
    intro s0
    induction s0 with
    | nil => intro i; rfl
    | cons x s0 ih =>
      intro i
      cases i with
      | zero => cases x <;> rfl
      | succ i => rw [QJ, ← ih i]; rfl
  rw [← key s i]
  unfold aC
  cases s[i]? with
  | none => rfl
  | some x => cases x <;> rfl
theorem Gh {o : Option A} : Wq QA E () (mOf o s h) = opQ (fun a => QA a s h) () o := by cases o <;> rfl
theorem V3 {f : Hd → D → Option D} : Wq Q E () (mUn f a s h) = Wq (fun x s h => opQ (fun d => Q d s h) () (f h x)) E () (a s h) := sk fun _ _ _ => Gh
theorem SQ {f : Hd → D → D → Option D} : Wq Q E () (aG f a b s h) = Wq (fun x s h => Wq (fun y s h => opQ (fun d => Q d s h) () (f h x y)) E () (b s h)) E () (a s h) := sk fun _ _ _ => sk fun _ _ _ => Gh
theorem R6 : Wq QL E () (aN s h) = QL [] s h := Eq.trans rfl rfl
theorem Np : Wq QL E () (ak a ms s h) = Wq (fun x s h => Wq (fun xs s h => QL (x :: xs) s h) E () (ms s h)) E () (a s h) := sk fun _ _ _ => sk fun _ _ _ => rfl
theorem qX {c : Prop} [Decidable c] {r : Res A} : Wq QA E () (if c then r else .bad) = (c ∧ Wq QA E () r) := by
  by_cases hc : c
  · rw [if_pos hc]; simp [hc]
  · rw [if_neg hc]; simp [hc, S7]
theorem RL : Wq Q E () (qp ms s h) = Wq (fun xs s h => xs.length ≤ 100000 ∧ Q (.tup xs) s h) E () (ms s h) := sk fun _ _ _ => qX
theorem M5 : Wq QB E () (bf a s h) = Wq (fun x s h => blQ (fun b => QB b s h) () x) E () (a s h) := sk fun x _ _ => by cases x <;> rfl
theorem Nu : Wq Q E () (Ld a b s h) = Wq (fun x s h => blQ (fun k => Cd (Wq Q E () (b s h)) (Q (.bl false) s h) () k) () x) E () (a s h) := sk fun x _ _ => by
  cases x with
  | bl k => cases k <;> rfl
  | _ => rfl
theorem R3 : Wq Q E () (Ui a b s h) = Wq (fun x s h => blQ (fun k => Cd (Q (.bl true) s h) (Wq Q E () (b s h)) () k) () x) E () (a s h) := sk fun x _ _ => by
  cases x with
  | bl k => cases k <;> rfl
  | _ => rfl
theorem S9 : Wq QB E () (Py t u s h) = Wq (fun k s h => Cd (Wq QB E () (u s h)) (QB false s h) () k) E () (t s h) := sk fun k _ _ => by cases k <;> rfl
theorem V8 : Wq QB E () (mOr t u s h) = Wq (fun k s h => Cd (QB true s h) (Wq QB E () (u s h)) () k) E () (t s h) := sk fun k _ _ => by cases k <;> rfl
theorem R4 : Wq QB E () (Pj t s h) = Wq (fun k s h => QB (!k) s h) E () (t s h) := sk fun _ _ _ => rfl
theorem Wc {x y : M A} : Wq QA E () (mIf t x y s h) = Wq (fun k s h => Cd (Wq QA E () (x s h)) (Wq QA E () (y s h)) () k) E () (t s h) := sk fun k _ _ => by cases k <;> rfl
theorem y_call {f : MF} : Wq Q E () (bL f ms s h) = Wq (fun xs s h => Wq (fun d _ h => Q d s h) (fun x fs _ h => E x fs s h) () (f xs h)) E () (ms s h) := sk fun xs s h => by
  cases f xs h <;> rfl
theorem Wf {f : Hd → List D → Option D} : Wq Q E () (mCB f ms s h) = Wq (fun xs s h => opQ (fun d => Q d s h) () (f h xs)) E () (ms s h) := sk fun _ _ _ => Gh
theorem R5 : Wq QO E () (uX s h) = QO none s h := Eq.trans rfl rfl
theorem M8 : Wq QO E () (dW a s h) = Wq (fun x s h => inQ (fun i => QO (some i) s h) () x) E () (a s h) := sk fun x _ _ => by cases x <;> rfl
theorem RK : Wq Q E () (jf ms s h) = Wq (fun xs s h => Q (.lst xs) s h) E () (ms s h) := sk fun _ _ _ => rfl
theorem R7 : Wq Q E () (Pn ms s h) = Wq (fun xs s h => Q (.ref h.length) s (h ++ [.lst xs])) E () (ms s h) := sk fun _ _ _ => rfl
theorem R8 : Wq QL E () (uM ms s h) = Wq (fun xs s h => xs.length ≤ 100000 ∧ QL xs s h) E () (ms s h) := sk fun _ _ _ => qX
theorem Wb : Wq QF E () (mNx s h) = QF .nx s h := Eq.trans rfl rfl
theorem RN : Wq QF E () (bU m n s h) = Wq (fun f s h => nxQ (Wq QF E () (n s h)) (QF f s h) () f) E () (m s h) := sk fun f _ _ => by cases f <;> rfl
theorem Nm : Wq QF E () (Em a s h) = Wq (fun _ s h => QF .nx s h) E () (a s h) := sk fun _ _ _ => rfl
theorem y_ret : Wq QF E () (lg a s h) = Wq (fun d s h => QF (.rt d) s h) E () (a s h) := sk fun _ _ _ => rfl
theorem S8 : Wq QF E () (jX i a s h) = Wq (fun d s h => QF .nx (s.set i (.val d)) h) E () (a s h) := sk fun _ _ _ => rfl
theorem RX : Wq QF E () (Gk i ms s h) = Wq (fun xs s h => QF .nx (s.set i (.own xs)) h) E () (ms s h) := sk fun _ _ _ => rfl
theorem Wd : Wq QU E () (gN i d s h) = QU () (s.set i (.val d)) h := Eq.trans rfl rfl
theorem Sq : Wq QU E () (gNl [] s h) = QU () s h := Eq.trans rfl rfl
theorem Ss {g : D → M Unit} {r : List D → M Unit} {ds : List D} : Wq QU E () (gCn g r (d :: ds) s h) = Wq (fun _ s h => Wq QU E () (r ds s h)) E () (g d s h) := sk fun _ _ _ => rfl
theorem Sh {k : Nat} {r : List D → M Unit} {ds : List D} : Wq QU E () (gTp k r (.tup ds) s h) = (ds.length = k ∧ Wq QU E () (r ds s h)) := qX
theorem Nr {g : D → M Unit} : Wq QF E () (Ep a g s h) = Wq (fun d s h => Wq (fun _ s h => QF .nx s h) nX () (g d s h)) E () (a s h) := sk fun d s h => zK.trans (by rfl)
theorem Nb : Wq QL E () (v7 a s h) = Wq (fun d s h => itQ (fun xs => QL xs s h) () d) E () (a s h) := sk fun x _ _ => by cases x <;> rfl
theorem RP : Wq QL E () (Ek ms s h) = Wq (fun xs s h => i1Q (fun j => small j = true ∧ QL (rg 0 j.toNat) s h) () xs) E () (ms s h) := sk fun xs _ _ => by
  match xs with
  | [.int j] => exact qX
  | [] => rfl
  | [.non] => rfl
  | [.bl _] => rfl
  | [.str _] => rfl
  | [.tup _] => rfl
  | [.lst _] => rfl
  | [.ro _] => rfl
  | [.edt] => rfl
  | [.dtx _ _] => rfl
  | [.ref _] => rfl
  | _ :: _ :: _ => simp only [i1Q]; rfl
theorem Sw {g : D → M Unit} : Wq QF E () (El ms g m s h) = Wq (fun xs s h => Wq QF E () (loop g m xs s h)) E () (ms s h) := sk fun _ _ _ => rfl
theorem Nq {vs : List Nat} {g : D → M Unit} : Wq QL E () (nH ms vs g t e s h) = Wq (fun xs s0 h => Wq (fun ys s1 h => QL ys (iJ s0 s1 vs) h) nX () (fY vs g t e xs [] (cW s0 vs) h)) E () (ms s h) := sk fun _ _ _ => Q7.trans (by rfl)
theorem M4 : Wq QB E () (yC s h) = QB true s h := Eq.trans rfl rfl
theorem V4 {l v : M (Option Int)} : Wq Q E () (mSl a l v s h) = Wq (fun x s h => Wq (fun lo s h => Wq (fun hi s h => opQ (fun d => Q d s h) () (slD h x lo hi)) E () (v s h)) E () (l s h)) E () (a s h) := sk fun _ _ _ => sk fun _ _ _ => sk fun _ _ _ => Gh
theorem Gq : Wq QL E () (vY ms s h) = Wq (fun xs s h => onQ (fun x => opQ (fun ys => QL ys s h) () (uP h x)) () xs) E () (ms s h) := sk fun xs _ _ => by
  match xs with
  | [] => rfl
  | [x] => exact Gh
  | _ :: _ :: _ => rfl
theorem RQ : Wq QL E () (Ph ms b s h) = Wq (fun xs s h => Wq (fun y s h => inQ (fun k => (small k && decide (xs.length * k.toNat ≤ 100000)) = true ∧ QL (GP xs k.toNat) s h) () y) E () (b s h)) E () (ms s h) := sk fun _ _ _ => sk fun x _ _ => by
  cases x with
  | int j => exact qX
  | _ => rfl
theorem m7 (F : List D → Prop) : ∀ (s : Sd) (i : Nat), (match ownAt s i with | none => False | some xs => F xs) = atO F () s i := by
  intro s
  induction s with
  | nil => intro i; rfl
  | cons x s ih =>
    intro i
    cases i with
    | zero => cases x <;> rfl
    | succ i => rw [QK, ← ih i]; rfl
theorem Nt : Wq Q E () (zf i a s h) = atO (fun _ => Wq (fun d s h => atO (fun xs => xs.length + 1 ≤ 100000 ∧ Q .non (s.set i (.own (xs ++ [d]))) h) () s i) E () (a s h)) () s i := by
  rw [← m7]
  unfold zf
  cases ownAt s i with
  | none => rfl
  | some _ =>
    refine sk fun d s h => ?_
    rw [← m7]
    cases ownAt s i with
    | none => rfl
    | some xs => exact qX
theorem M9 : Wq Q E () (vZ i s h) = atO (fun xs => Q (.int xs.length) s h) () s i := by
  rw [← m7]
  unfold vZ
  cases ownAt s i <;> rfl
theorem R9 : Wq Q E () (Pq i a s h) = atO (fun _ => Wq (fun d s h => atO (fun xs => inQ (fun k => opQ (fun d => Q d s h) () (atI xs k)) () d) () s i) E () (a s h)) () s i := by
  rw [← m7]
  unfold Pq
  cases ownAt s i with
  | none => rfl
  | some _ =>
    refine sk fun d s h => ?_
    rw [← m7]
    cases ownAt s i with
    | none => rfl
    | some xs =>
      cases d with
      | int k => exact Gh
      | _ => rfl
theorem M7 : Wq QF E () (Hr i b e s h) = Wq (fun v s h => atO (fun _ => Wq (fun d s h => atO (fun xs => inQ (fun k => opQ (fun j => QF .nx (s.set i (.own (xs.set j v))) h) () (ixN xs.length k)) () d) () s i) E () (b s h)) () s i) E () (e s h) := by
  refine sk fun v s h => ?_
  rw [← m7]
  cases ownAt s i with
  | none => rfl
  | some _ =>
    refine sk fun d s h => ?_
    rw [← m7]
    cases ownAt s i with
    | none => rfl
    | some xs =>
      cases d with
      | int k =>
        show Wq QF E () (match ixN xs.length k with | some j => .ok .nx (s.set i (.own (xs.set j v))) h | none => .bad) = opQ (fun j => QF .nx (s.set i (.own (xs.set j v))) h) () (ixN xs.length k)
        cases ixN xs.length k <;> rfl
      | _ => rfl
theorem Sv : Wq QF E () (BW i s h) = atO (fun xs => QF .nx (s.set i (.val (.lst xs))) h) () s i := by
  rw [← m7]
  unfold BW ownAt
  cases s[i]? with
  | none => rfl
  | some x => cases x <;> rfl
theorem V7 : Wq QS E () (mPn s h) = QS [] s h := Eq.trans rfl rfl
theorem V5 {r : M (List Sl)} : Wq QS E () (mPv a r s h) = Wq (fun d s h => Wq (fun xs s h => QS (.val d :: xs) s h) E () (r s h)) E () (a s h) := sk fun _ _ _ => sk fun _ _ _ => rfl
theorem V6 {r : M (List Sl)} : Wq QS E () (mPo ms r s h) = Wq (fun ds s h => Wq (fun xs s h => QS (.own ds :: xs) s h) E () (r s h)) E () (ms s h) := sk fun _ _ _ => sk fun _ _ _ => rfl
theorem RW {is : List Nat} {r : M (List Sl)} : Wq QF E () (Ai is r s h) = Wq (fun xs s h => xs.length = is.length ∧ QF .nx (iZ is xs s) h) E () (r s h) := sk fun _ _ _ => qX
theorem SJ {fs : List (Str × D)} {f : Str} : Wq Q E () (Pr fs f s h) = opQ (fun d => Q d s h) () (fs.lookup f) := Gh
theorem y_raise {x f : Str} : Wq QF E () (xT x f a s h) = Wq (fun d s h => E x [(f, d)] s h) E () (a s h) := sk fun _ _ _ => rfl
theorem Nk : Wq QL E () (BX ms s h) = Wq (fun xs s h => enQ (fun ys => QL (uw 0 ys) s h) () xs) E () (ms s h) := sk fun xs _ _ => by
  match xs with
  | [.int j] => rfl
  | [] => rfl
  | [.non] => rfl
  | [.bl _] => rfl
  | [.str _] => rfl
  | [.tup _] => rfl
  | [.lst _] => rfl
  | [.ro _] => rfl
  | [.edt] => rfl
  | [.dtx _ _] => rfl
  | [.ref _] => rfl
  | x :: _ :: _ => cases x <;> rfl
theorem Sy {k : Nat} {ds : List D} : Wq Q E () (fnM k m ds h) = Wq (fun f _ h => fnQ (fun d h => Q d [] h) () f h) (fun x fs _ h => E x fs [] h) () (m (fB k ds) h) := Nh
theorem RM {xs : List Str} {x : Str} {su : List (Str × D) → M Fl} : Wq QF E () (Pg xs x i m su s h) = Wq QF (fun y fs s1 h1 => Cd (i + 1 ≤ s1.length ∧ Wq QF nX () (unset i (su fs (s1.set i .no) h1))) (y ∈ xs ∧ E y fs s1 h1) () (decide (y = x))) () (m s h) := by
  unfold Pg
  cases m s h with
  | ok f s1 h1 => rfl
  | bad => rfl
  | exc y fs s1 h1 =>
    show Wq QF E () (if y = x then (if i < s1.length then unset i (su fs (s1.set i .no) h1) else .bad) else if y ∈ xs then .exc y fs s1 h1 else .bad) = Cd _ _ () (decide (y = x))
    by_cases hy : y = x
    · rw [if_pos hy, decide_eq_true hy, V1, qX]
      have e : ∀ r : Res Fl, Wq QF E () (unset i r) = Wq QF nX () (unset i r) := fun r => by
        cases r with
        | ok f s h => cases f <;> rfl
        | exc x fs s h => rfl
        | bad => rfl
      rw [e]
      rfl
    · rw [if_neg hy, decide_eq_false hy, V2, qX]
      rfl
theorem JG {r : Res Fl} : Wq QF nX () (unset i r) = Wq (fun f s h => match f with | .rt d => QF (.rt d) s h | f => QF f (s.set i .no) h) nX () r := by
  cases r with
  | ok f s h => cases f <;> rfl
  | exc x fs s h => rfl
  | bad => rfl
end
theorem lB : kitB "NoneType" "int" = some false := by decide +kernel
theorem jP : kitB "NoneType" "bool" = some false := by decide +kernel
theorem jh : kitB "NoneType" "tuple" = some false := by decide +kernel
theorem lu : kitB "NoneType" "str" = some false := by decide +kernel
theorem jN : kitB "NoneType" "list" = some false := by decide +kernel
theorem jO : kitB "NoneType" "dict" = some false := by decide +kernel
theorem ug : kitB "bool" "int" = some true := by decide +kernel
theorem qP : kitB "bool" "bool" = some true := by decide +kernel
theorem oR : kitB "bool" "tuple" = some false := by decide +kernel
theorem uf : kitB "bool" "str" = some false := by decide +kernel
theorem qN : kitB "bool" "list" = some false := by decide +kernel
theorem qO : kitB "bool" "dict" = some false := by decide +kernel
theorem vp : kitB "int" "int" = some true := by decide +kernel
theorem tX : kitB "int" "bool" = some false := by decide +kernel
theorem qJ : kitB "int" "tuple" = some false := by decide +kernel
theorem vo : kitB "int" "str" = some false := by decide +kernel
theorem tV : kitB "int" "list" = some false := by decide +kernel
theorem tW : kitB "int" "dict" = some false := by decide +kernel
theorem vm : kitB "str" "int" = some false := by decide +kernel
theorem tQ : kitB "str" "bool" = some false := by decide +kernel
theorem qF : kitB "str" "tuple" = some false := by decide +kernel
theorem vh : kitB "str" "str" = some true := by decide +kernel
theorem tM : kitB "str" "list" = some false := by decide +kernel
theorem tO : kitB "str" "dict" = some false := by decide +kernel
theorem qD : kitB "tuple" "int" = some false := by decide +kernel
theorem oM : kitB "tuple" "bool" = some false := by decide +kernel
theorem mX : kitB "tuple" "tuple" = some true := by decide +kernel
theorem qC : kitB "tuple" "str" = some false := by decide +kernel
theorem oJ : kitB "tuple" "list" = some false := by decide +kernel
theorem oK : kitB "tuple" "dict" = some false := by decide +kernel
theorem tU : kitB "list" "int" = some false := by decide +kernel
theorem qI : kitB "list" "bool" = some false := by decide +kernel
theorem oN : kitB "list" "tuple" = some false := by decide +kernel
theorem tR : kitB "list" "str" = some false := by decide +kernel
theorem qG : kitB "list" "list" = some true := by decide +kernel
theorem qH : kitB "list" "dict" = some false := by decide +kernel
theorem tZ : kitB "dict" "int" = some false := by decide +kernel
theorem qM : kitB "dict" "bool" = some false := by decide +kernel
theorem oO : kitB "dict" "tuple" = some false := by decide +kernel
theorem tY : kitB "dict" "str" = some false := by decide +kernel
theorem qK : kitB "dict" "list" = some false := by decide +kernel
theorem qL : kitB "dict" "dict" = some true := by decide +kernel
section
variable {A : Type} {Q : A → Sd → Hd → Prop} {E : Ex} {s : Sd} {h : Hd} {r : Res A}
theorem Wq.imp {Q' : A → Sd → Hd → Prop} (w : Wq Q E () r) (i : ∀ a s h, Q a s h → Q' a s h) : Wq Q' E () r := by
  cases r with
  | ok a s h => exact i a s h w
  | exc x fs s h => exact w
  | bad => exact w
theorem Cd.mk {P Q : Prop} {b : Bool} (h1 : b = true → P) (h2 : b = false → Q) : Cd P Q () b := by
  cases b with
  | true => exact h1 rfl
  | false => exact h2 rfl
end
theorem Wq.loop {g : D → M Unit} {b : M Fl} {Q : Fl → Sd → Hd → Prop} {E : Ex} : ∀ {xs : List D} {s : Sd} {h : Hd} (I : Nat → Sd → Hd → Prop), I 0 s h →
    (∀ (i : Nat) x s h, xs[i]? = some x → I i s h → Wq (fun _ s h => Wq (fun f s h => match f with | .nx => I (i + 1) s h | .ct => I (i + 1) s h | .bk => Q .nx s h | .rt d => Q (.rt d) s h) E () (b s h)) nX () (g x s h)) →
    (∀ s h, I xs.length s h → Q .nx s h) → Wq Q E () (loop g b xs s h)
  | [], s, h, I, h0, _, fin => fin s h h0
  | x :: xs, s, h, I, h0, st, fin => by
    have w := st 0 x s h rfl h0
    unfold Dm.loop
    rw [zK]
    refine Wq.imp w fun _ s1 h1 w1 => ?_
    rw [Iz]
    cases e : b s1 h1 with
    | ok f s2 h2 =>
      rw [e] at w1
      have go : I 1 s2 h2 → Wq Q E () (Dm.loop g b xs s2 h2) := fun i1 => Wq.loop (xs := xs) (fun i => I (i + 1)) i1 (fun i y s h e => st (i + 1) y s h (by simpa using e)) fun s h q => fin s h (by simpa using q)
      cases f with
      | nx => exact go w1
      | ct => exact go w1
      | bk => exact w1
      | rt d => exact w1
    | exc y fs s2 h2 => rw [e] at w1; exact w1
    | bad => rw [e] at w1; exact w1
end Dm
end
section
namespace Dm
open PySem L2
section
variable {m : Int} {b k : Nat}
theorem FdL.app : ∀ {xs ys : List D} {b c k : Nat}, FdL m b k xs → FdL m c k ys → FdL m (b + c) k (xs ++ ys)
  | [], ys, b, c, k, _, g => FdL.mono (Int.le_refl m) (by omega) (Nat.le_refl _) g
  | x :: xs, ys, b, c, k, h, g => by
    obtain ⟨b1, b2, e, h1, h2⟩ := h
    exact ⟨b1, b2 + c, by omega, h1, FdL.app h2 g⟩
theorem FdL.ints {ns : List Int} : (∀ i ∈ ns, -m ≤ i ∧ i ≤ m) → FdL m ns.length 0 (ns.map D.int) := by
  induction ns with
  | nil => exact fun _ => trivial
  | cons n ns ih => exact fun h => ⟨0, ns.length, by simp; omega, h n List.mem_cons_self, ih fun i hi => h i (List.mem_cons_of_mem _ hi)⟩
end
theorem Wq.Wh {A : Type} {r : Res A} {a : A} {s : Sd} {h : Hd} (w : ∀ Q : A → Sd → Hd → Prop, Q a s h → Wq Q nX () r) : r = .ok a s h := by
  obtain ⟨a', s', h', e, rfl, rfl, rfl⟩ := (w (fun a' s' h' => a' = a ∧ s' = s ∧ h' = h) ⟨rfl, rfl, rfl⟩).ex
  exact e
theorem Wq.fY {vs : List Nat} {g : D → M Unit} {t : M Bool} {e : M D} {s : Sd} {Q : List D → Sd → Hd → Prop} {E : Ex} : ∀ {xs acc : List D} {h : Hd} (I : Nat → List D → Hd → Prop), I 0 acc h →
    (∀ (i : Nat) x acc h, xs[i]? = some x → I i acc h → Wq (fun _ s1 h1 => Wq (fun k s2 h2 => Cd (Wq (fun d s3 h3 => cW s3 vs = s ∧ acc.length < 100000 ∧ I (i + 1) (acc ++ [d]) h3) nX () (e s2 h2)) (cW s2 vs = s ∧ I (i + 1) acc h2) () k) nX () (t s1 h1)) nX () (g x s h)) →
    (∀ acc h, I xs.length acc h → Q acc s h) → Wq Q E () (fY vs g t e xs acc s h)
  | [], acc, h, I, h0, _, fin => fin acc h h0
  | x :: xs, acc, h, I, h0, st, fin => by
    have w := st 0 x acc h rfl h0
    have go : ∀ {acc : List D} {h : Hd}, I 1 acc h → Wq Q E () (Dm.fY vs g t e xs acc s h) := fun {acc h} i1 => Wq.fY (xs := xs) (fun i => I (i + 1)) i1 (fun i y acc h e => st (i + 1) y acc h (by simpa using e)) fun acc h q => fin acc h (by simpa using q)
    unfold Dm.fY
    rw [zK]
    refine Wq.imp w fun _ s1 h1 w1 => ?_
    rw [Q7]
    refine Wq.imp w1 fun k s2 h2 w2 => ?_
    cases k with
    | false =>
      obtain ⟨e1, i1⟩ := (show cW s2 vs = s ∧ I (0 + 1) acc h2 from w2)
      rw [cond_false, e1]
      exact go i1
    | true =>
      rw [cond_true, Q7]
      refine Wq.imp (show Wq (fun d s3 h3 => cW s3 vs = s ∧ acc.length < 100000 ∧ I (0 + 1) (acc ++ [d]) h3) nX () (e s2 h2) from w2) fun d s3 h3 ⟨e1, e2, i1⟩ => ?_
      rw [if_pos e2, e1]
      exact go i1
theorem Wq.cfm {vs : List Nat} {g : D → M Unit} {t : M Bool} {e : M D} {s : Sd} {h : Hd} {Q : List D → Sd → Hd → Prop} {E : Ex} {xs : List D} (p : D → Bool) (f : D → D) (hl : xs.length < 100000)
    (st : ∀ (i : Nat) x, xs[i]? = some x → Wq (fun _ s1 h1 => Wq (fun k s2 h2 => k = p x ∧ Cd (Wq (fun d s3 h3 => cW s3 vs = s ∧ d = f x ∧ h3 = h) nX () (e s2 h2)) (cW s2 vs = s ∧ h2 = h) () (p x)) nX () (t s1 h1)) nX () (g x s h))
    (fin : Q ((xs.filter p).map f) s h) : Wq Q E () (Dm.fY vs g t e xs [] s h) := by
  refine Wq.fY (fun i acc h' => h' = h ∧ acc = ((xs.take i).filter p).map f) ⟨rfl, rfl⟩ (fun i x acc h' hx ⟨e1, e2⟩ => ?_) (fun acc h' ⟨e1, e2⟩ => ?_)
  · subst e1
    have hi : i < xs.length := (List.getElem?_eq_some_iff.mp hx).1
    have tk : xs.take (i + 1) = xs.take i ++ [x] := by rw [List.take_add_one, hx]; rfl
    refine Wq.imp (st i x hx) fun _ s1 h1 w => Wq.imp w fun k s2 h2 ⟨ek, w2⟩ => ?_
    have al : acc.length < 100000 := by
      rw [e2, List.length_map]
      have := List.length_filter_le p (xs.take i)
      rw [List.length_take] at this
      omega
    subst ek
    cases hp : p x with
    | false =>
      rw [hp] at w2
      obtain ⟨z1, z2⟩ := (show cW s2 vs = s ∧ h2 = h' from w2)
      refine ⟨z1, z2, ?_⟩
      rw [tk, List.filter_append, e2]
      simp [hp]
    | true =>
      rw [hp] at w2
      refine Wq.imp (show Wq (fun d s3 h3 => cW s3 vs = s ∧ d = f x ∧ h3 = h') nX () (e s2 h2) from w2) fun d s3 h3 ⟨z1, z2, z3⟩ => ⟨z1, al, z3, ?_⟩
      rw [tk, List.filter_append, e2, z2]
      simp [hp]
  · subst e1
    rw [e2, List.take_length]
    exact fin
end Dm
end
section
namespace Dm
open PySem PySem.Spec PyProof.Rows L2
variable {gp : Prop}
def Hv (a b : M D) : M (List D) := fun s h => (a s h).bind fun x s h => (b s h).bind fun y s h => match view h x, view h y with
  | .lst xs, .lst ys => if xs.length + ys.length ≤ 100000 then .ok (xs ++ ys) s h else .bad
  | _, _ => .bad
section
variable {X : Cx} {W : WX} {a b : Expr} {ma mb : M D} {pos : Pos}
theorem zE (ha : PE X a (lE X.K X.mg W ma)) (hb : PE X b (lE X.K X.mg W mb)) : PE X (.BinOp a .Add b pos) (lF X.K X.mg W (Hv ma mb)) :=
  aX (pe_op op_cat ha hb) fun s H Q ⟨c, sd, h, rs, rh, q⟩ => ⟨c, sd, h, rs, rh, (wF.bind (R := Rel X.K) q).imp fun v H1 ⟨c1, d1, sd1, h1, rs1, rh1, r1, x1, q1⟩ =>
    ⟨c1, sd1, h1, rs1, rh1, (wF.bind (R := Rel X.K) q1).imp fun w H2 ⟨c2, d2, sd2, h2, rs2, rh2, r2, x2, q2⟩ => by
      have q3 : wF X.K X.mg c2 H2 s Q W (match view h2 d1, view h2 d2 with
        | .lst xs, .lst ys => if xs.length + ys.length ≤ 100000 then .ok (xs ++ ys) sd2 h2 else .bad
        | _, _ => .bad) := q2
      split at q3
      · rename_i xs ys e1 e2
        obtain ⟨p1, vs, rfl, t1, l1⟩ := fW rh2 (r1.car x2.car) e1
        obtain ⟨p2, ws, rfl, t2, l2⟩ := fW rh2 r2 e2
        split at q3
        · rename_i hl
          refine ⟨p1, p2, vs, ws, rfl, rfl, t1, t2, tH (by rw [← l1.len, ← l2.len]; exact hl), fun l hn => ?_⟩
          exact q3 l _ c2 H2 (Ext.refl _ _) rs2 rh2 (l1.app l2) hn
        · exact q3.elim
      · exact q3.elim⟩⟩
end
section
variable {E : Ex} {s : Sd} {h : Hd} {a b : M D} {QL : List D → Sd → Hd → Prop}
def l2Q (Q : List D → List D → Prop) (_ : Tg Q Q) : D → D → Prop
  | .lst xs, .lst ys => Q xs ys
  | _, _ => False
theorem Qa {Q : List D → List D → Prop} {xs ys : List D} : l2Q Q () (.lst xs) (.lst ys) = Q xs ys := Eq.trans rfl rfl
theorem SN : Wq QL E () (Hv a b s h) = Wq (fun x s h => Wq (fun y s h => l2Q (fun xs ys => xs.length + ys.length ≤ 100000 ∧ QL (xs ++ ys) s h) () (view h x) (view h y)) E () (b s h)) E () (a s h) := sk fun x _ _ => sk fun y _ h => by
  cases view h x with
  | lst xs =>
    cases view h y with
    | lst ys => exact qX
    | _ => rfl
  | _ => rfl
end
def Ry : D → D → Option Bool
  | .non, .non => some true
  | .int i, .int j => some (i == j)
  | .str x, .str y => some (x == y)
  | .bl x, .bl y => some (x == y)
  | _, _ => none
def Ft : List D → List D → Option Bool
  | [], [] => some true
  | x :: xs, y :: ys => match Ry x y, Ft xs ys with
    | some a, some b => some (a && b)
    | _, _ => none
  | _, _ => none
def neX (h : Hd) (a b : D) : Option D := match a, b with
  | .tup xs, .tup ys => match Ft xs ys with
    | some k => some (.bl !k)
    | none => neD h a b
  | _, _ => neD h a b
section
variable {X : Cx} {W : WX} {k : Nat} {pins : List (Addr × Obj)} {σ : L2.St} {H : Hp} {s : Shared} {c : C}
theorem eqAt_none {A : Around} {s : Shared} : SeqAt.EqAt A s .none .none true := fun prog w E Q h => by
  unfold eqBool
  refine wpAny_holding (wpAny_ite_split (fun _ => ?_) fun z => ?_)
  · exact wpAny_bind (wpAny_rule (wpAny_pure h))
  · exact absurd (show (Value.none == Value.none) = true from rfl) (by first | exact z | simpa using z)
theorem LR {A : Around} {x y : D} {v w : V} {u t : Value} {r : Bool} (rx : Rel X.K c H x v) (ru : RelV v u) (ry : Rel X.K c H y w) (rt : RelV w t) (e : Ry x y = some r) : SeqAt.EqAt A s u t r := by
  unfold Ry at e
  split at e
  · cases e; cases rx; cases ry; cases ru; cases rt; exact eqAt_none
  · cases e; cases rx; cases ry
    obtain ⟨_, rfl⟩ := ru
    obtain ⟨_, rfl⟩ := rt
    exact SeqAt.EqAt.int_int _ _ _ _
  · cases e; cases rx; cases ry
    obtain ⟨_, rfl⟩ := ru
    obtain ⟨_, rfl⟩ := rt
    exact SeqAt.EqAt.str_str _ _ _ _
  · cases e; cases rx; cases ry; cases ru; cases rt; exact SeqAt.EqAt.bool_bool _ _
  · cases e
theorem Bc {A : Around} : ∀ {xs ys : List D} {vs ws : List V} {us ts : List Value} {r : Bool}, aK X.K c H xs vs → Vals vs us → aK X.K c H ys ws → Vals ws ts → Ft xs ys = some r → us.length = ts.length ∧ ∃ e : Nat → Bool, (∀ j (h1 : j < us.length) (h2 : j < ts.length), SeqAt.EqAt A s us[j] ts[j] (e j)) ∧ (List.range us.length).all e = r
  | [], [], vs, ws, us, ts, r, a, b, a', b', e => by
    cases a; cases b; cases a'; cases b'; cases e
    exact ⟨rfl, fun _ => true, fun j h1 => absurd h1 (by simp), rfl⟩
  | x :: xs, y :: ys, vs, ws, us, ts, r, a, b, a', b', e => by
    obtain ⟨v, vr, rfl, h1, h2⟩ := (show ∃ v r, vs = v :: r ∧ Rel X.K c H x v ∧ aK X.K c H xs r from a)
    obtain ⟨w, wr, rfl, g1, g2⟩ := (show ∃ v r, ws = v :: r ∧ Rel X.K c H y v ∧ aK X.K c H ys r from a')
    cases b with
    | cons b1 b2 =>
      cases b' with
      | cons c1 c2 =>
        unfold Ft at e
        cases q1 : Ry x y with
        | none => rw [q1] at e; cases e
        | some p =>
          cases q2 : Ft xs ys with
          | none => rw [q1, q2] at e; cases e
          | some q =>
            rw [q1, q2] at e
            cases e
            obtain ⟨l, f, f1, f2⟩ := Bc (A := A) h2 b2 g2 c2 q2
            refine ⟨by simp [l], fun j => match j with | 0 => p | j + 1 => f j, fun j z1 z2 => ?_, ?_⟩
            · cases j with
              | zero => exact LR h1 b1 g1 c1 q1
              | succ j => exact f1 j (by simpa using z1) (by simpa using z2)
            · rw [List.length_cons, List.range_succ_eq_map, List.all_cons, List.all_map]
              show (p && (List.range _).all f) = (p && q)
              rw [f2]
  | [], _ :: _, _, _, _, _, _, _, _, _, _, e => by cases e
  | _ :: _, [], _, _, _, _, _, _, _, _, _, e => by cases e
theorem Ou (hu0 : X.A.units + 64 < cLine) : OpR X (compareOp .NotEq) (DOp X.K neX) := fun pins s σ H v w u t Q I rv rt ⟨c, h, x, y, d, rh, ra, rb, e, hq⟩ => by
  have old : neD h x y = some d → wpAny (model X.prog X.w) X.A (compareOp .NotEq u t) (EP X pins σ Q) X.xe s := fun z => Ov hu0 pins s σ H v w u t Q I rv rt ⟨c, h, x, y, d, rh, ra, rb, z, hq⟩
  unfold neX at e
  split at e
  · rename_i xs ys
    split at e
    · rename_i r er
      cases e
      obtain ⟨a, vs, rfl, h1, rl⟩ := ra
      obtain ⟨b, ws, rfl, h2, rl2⟩ := rb
      cases rv
      cases rt
      obtain ⟨its, r1, t1, _⟩ := I.tuple h1.sq
      obtain ⟨its2, r2, t2, _⟩ := I.tuple h2.sq
      obtain ⟨l, f, f1, f2⟩ := Bc (A := X.A.in1) (s := s) rl r1 rl2 r2 er
      have hu : X.A.units < cLine := by have := hu0; omega
      have z := SeqAt.RcNeAt.tuples (A := X.A) (s := s) (e := f) t1 t2 hu (fun j z1 z2 => f1 j (by simpa using z1) (by simpa using z2))
      refine z X.prog X.w X.xe _ ?_
      have eb : (!((List.range (min its.toArray.size its2.toArray.size)).all f && its.toArray.size == its2.toArray.size)) = !r := by
        simp only [List.size_toArray, l, Nat.min_self, beq_self_eq_true, Bool.and_true]
        rw [← l, f2]
      rw [eb]
      exact ⟨.bl _, H, I, rfl, hq _ H (fun _ _ z => z) rfl⟩
    · exact old e
  · exact old e
theorem qZ (q : Cq gp X W k) : OpR X (compareOp .NotEq) (DOp X.K neX) := Ou q.rm.units
end
end Dm
end
section
namespace Dm
open PySem PySem.Spec PyProof.Rows L2
def inB (d : D) : Bool := match d with
  | .int _ => true
  | _ => false
def mNz (fs : List (Str × D)) (m : M D) : M D := match fs with
  | [] => fun _ _ => .bad
  | _ :: _ => m
theorem V9 {E : Ex} {s : Sd} {h : Hd} {Q : D → Sd → Hd → Prop} {f : Str × D} {fs : List (Str × D)} {m : M D} : Wq Q E () (mNz (f :: fs) m s h) = Wq Q E () (m s h) := rfl
end Dm
end
section
namespace Dm
open PySem PySem.Spec PyProof.Rows L2 LamX
end Dm
end
section
namespace Dm
open PySem PySem.Spec PyProof.Rows L2 LamX
section
variable {X : Cx} {pins : List (Addr × Obj)} {σ : L2.St} {H : Hp} {s : Shared}
theorem uh {t' : Nat} {h' : Heap} {ch : List Addr} (I : Inv X pins σ H s) (k : ∀ b o, b ∉ ch → s.heap.get? b = some o → h'.get? b = some o) (hf : ∀ b ∈ ch, FpOk X pins H b) : Inv X pins σ H { s with heap := h', toks := t' } := by
  have nit : ∀ b u, H b = some u → b ∉ ch := fun b u e z => by
    rw [(hf b z).1] at e; cases e
  refine I.step (g' := s.gens) (d' := s.drawn) (ch := ch) ?h1 ?h2 ?h3 (fun _ _ _ _ n => n) ?h4 (fun _ _ e => e) (fun _ _ _ e => e) (fun b ps e => ⟨#[], by rw [e]; simp⟩) ?h5 ?h6 I.bare
  case h1 =>
    intro b hb
    obtain ⟨f0, f1, f2, f3, f4, f5⟩ := hf b hb
    exact ⟨f3, f1, f4, f5⟩
  case h2 => exact fun b o _ _ hc e _ => k b o hc e
  case h3 => exact fun b o _ _ hc e _ => ⟨o.slots, k b o hc e⟩
  case h4 => exact fun b o hc e => ⟨o, k b o hc e⟩
  case h5 =>
    rintro m ⟨o, es, ep, ho, r⟩
    exact ⟨o, es, ep, k _ o (fun z => (hf _ z).2.1 rfl) ho, r⟩
  case h6 =>
    intro b u e
    refine (I.hok b u e).stay (fun c v hc q => k c v ?_ q) (fun _ q => q) fun _ _ q => q
    rcases hc with z | z
    · rw [z]; exact nit b u e
    · exact nit c _ z
theorem Fb {a : Addr} {o : HO} (I : Inv X pins σ H s) (hf : FpOk X pins H a) (new : ObjOk X.prog X.w (upd H a o) s.heap a o) : Inv X pins σ (upd H a o) s := by
  obtain ⟨f0, f1, f2, f3, f4, f5⟩ := hf
  have u := I.base
  constructor
  case ok => exact I.ok
  case os => exact I.os
  case bare => exact I.bare
  case base =>
    refine ⟨u.keep, u.slot, fun b ob e n hx => ?_, u.there, fun b xs e => ?_, fun b ob w e => ?_, fun b ps e => ?_⟩
    · rw [upd_ne (fun z => ?_)]
      · exact u.free b ob e n hx
      · subst z
        rcases f3 with q | q
        · exact hx q
        · exact Nat.lt_irrefl _ (Nat.lt_of_lt_of_le (Heap.lt_size e) q)
    · have q := u.tups b xs e
      rw [upd_ne (ne_of_none q f0)]; exact q
    · have q := u.frzs b ob w e
      rw [upd_ne (ne_of_none q f0)]; exact q
    · obtain ⟨more, q⟩ := u.tbls b ps e
      exact ⟨more, by rw [upd_ne (ne_of_none q f0)]; exact q⟩
  case loc => exact I.loc
  case cell => exact I.cell
  case free => rw [upd_ne (Ne.symm f1)]; exact I.free
  case freeC =>
    intro x c e
    rw [upd_ne (f4 x c e)]
    exact I.freeC x c e
  case pin =>
    intro p hp
    obtain ⟨q1, q2, q3, q4, q5⟩ := I.pin p hp
    exact ⟨q1, by rw [upd_ne (f5 p hp)]; exact q2, q3, q4, q5⟩
  case hok => exact I.hok.laidN (fun _ _ e => e) f0 new
  case len => exact I.len
open PySem.W in
theorem Q9 {l f : Addr} {vs : List Value} {E : Value → Shared → Prop} {Q : VK} (I : Inv X pins σ H s) (hl : s.heap.IsList l vs.toArray) (hZ : vs.length ≤ sizeLine) (J : Nat → Hp → List Value → Prop) (j0 : J 0 H [])
    (step : ∀ (i : Nat) (v : Value) (H1 : Hp) (ks : List Value) (s1 : Shared) (pn : List (Addr × Obj)), vs[i]? = some v → Inv X pn σ H1 s1 → J i H1 ks →
      wpAny (model X.prog X.w) X.A.in1.in1 (call (.ref f) [v]) (fun u s2 => ∃ H2, Inv X pn σ H2 s2 ∧ J (i + 1) H2 (ks ++ [u])) (fun _ _ => False) s1)
    (fin : ∀ (H1 : Hp) (ks : List Value) (s1 : Shared), Inv X pins σ H1 s1 → J vs.length H1 ks → ∃ kz : List PyData, EachIs (fun v k => ∃ as, Reads s1.heap v k as) ks kz ∧ kz.length = vs.length ∧ AllAlike kz ∧ Sortable kz ∧ (∀ d ∈ kz, X.A.in1.in1.units + d.depth < cLine) ∧
      ∀ out : List Value, KeyedOut false kz vs out → ∃ ws : List V, Vals ws out ∧ ∀ p, H1 p = none → Q (.ref p) (upd H1 p (.lst ws))) :
    wpAny (model X.prog X.w) X.A (call (.builtin "sorted") [.ref l] [(Str.ofString "key", .ref f)]) (EP X pins σ Q) E s := by
  refine sorted_of_sort hl hZ (ksk_s1 _ _) (fun x => by unfold argsOk; kernel_rfl) fun E' => ?_
  rw [ksk_t1]
  have fresh : ∀ b, s.heap.objs.size ≤ b → FpOk X pins H b := fun b hb => I.fpOk hb (I.hok.fresh hb)
  have I1 : Inv X pins σ H { s with heap := copyHeap s.heap vs } := I.kept (t' := s.toks) fun b u e => copyHeap_old e
  have ha := copyHeap_at s.heap vs
  generalize ea : s.heap.objs.size + 1 = a at ha
  have le1 : s.heap.objs.size ≤ a := by rw [← ea]; exact Nat.le_succ _
  have fa : FpOk X pins H a := fresh a le1
  have sz1 : s.heap.objs.size ≤ (copyHeap s.heap vs).objs.size := Nat.le_trans le1 (Nat.le_of_lt (Heap.lt_size ha))
  generalize eh : copyHeap s.heap vs = hC at *
  obtain ⟨e1, ho1⟩ : ∃ e1, (hC.update a (Obj.mapSeq fun _ => (#[] : Array Value))).get? a = some (seqObj "list" #[] e1) := ⟨_, get?_update_seq ha fun _ => #[]⟩
  unfold ksk_tree
  refine wpAny_bind (listItems_at ha rfl ?_)
  refine wpAny_bind (listUpdate_at ha rfl ?_ (by rw [List.size_toArray]; exact hZ) (Nat.zero_le _))
  refine wpAny_bind (seqEpoch_at ho1 rfl ?_)
  refine wpAny_bind (wpAny_newTuple ?_ (by show vs.length ≤ _; exact hZ))
  refine wpAny_bind (wpAny_newList ?_ (Nat.zero_le _))
  refine wpAny_holding ?_
  have hkS : ((hC.update a (Obj.mapSeq fun _ => (#[] : Array Value))).push (seqObj "tuple" vs.toArray 0)).objs.size = hC.objs.size + 1 := by rw [size_push', Heap.size_update]
  have hk0 : ((((hC.update a (Obj.mapSeq fun _ => (#[] : Array Value))).push (seqObj "tuple" vs.toArray 0)).push (seqObj "list" #[] 0))).get? (hC.objs.size + 1) = some (seqObj "list" #[] 0) := by
    rw [← hkS]; exact Heap.get?_push_size _ rfl
  have na0 : ((((hC.update a (Obj.mapSeq fun _ => (#[] : Array Value))).push (seqObj "tuple" vs.toArray 0)).push (seqObj "list" #[] 0))).get? a = some (seqObj "list" #[] e1) := Heap.get?_push_of_some _ (Heap.get?_push_of_some _ ho1)
  have I2 : Inv X pins σ H { s with heap := ((hC.update a (Obj.mapSeq fun _ => (#[] : Array Value))).push (seqObj "tuple" vs.toArray 0)).push (seqObj "list" #[] 0) } := by
    refine uh (s := { s with heap := hC }) (t' := s.toks) (ch := [a]) I1 (fun b o hb e => ?_) (fun b hb => by rw [List.mem_singleton.mp hb]; exact fa)
    exact Heap.get?_push_of_some _ (Heap.get?_push_of_some _ ((Heap.get?_update_ne _ _ _ _ (fun z => hb (by simp [z]))).trans e))
  show wpAny _ _ (ksk_rest a (.ref f) false vs.toArray e1 (.ref ((hC.update a (Obj.mapSeq fun _ => (#[] : Array Value))).push (seqObj "tuple" vs.toArray 0)).objs.size)) _ _ _
  rw [hkS]
  generalize ek : hC.objs.size + 1 = kS at hk0
  have fk : FpOk X pins H kS := fresh kS (by rw [← ek]; exact Nat.le_succ_of_le sz1)
  have nka : kS ≠ a := fun z => by
    have q : a < hC.objs.size + 1 := Nat.lt_succ_of_lt (Heap.lt_size ha)
    rw [ek, z] at q
    exact Nat.lt_irrefl _ q
  generalize ((hC.update a (Obj.mapSeq fun _ => (#[] : Array Value))).push (seqObj "tuple" vs.toArray 0)).push (seqObj "list" #[] 0) = h0 at *
  unfold ksk_rest
  refine wpAny_bind (wpAny_rule ?_)
  first
    | rw [List.forIn_toArray]
    | (rw [← Array.forIn_toList]; simp only [List.toList_toArray])
    | rw [← Array.forIn_toList]
  have Ck : ∀ {H1 : Hp} {b : Addr}, FpOk X pins H b → H1 b = none → FpOk X pins H1 b := fun {H1 b} q n => ⟨n, q.2⟩
  refine wpAny_bind (ksk_fold (fun i s' => ∃ (H1 : Hp) (kA : Array Value) (e : Nat), Inv X pins σ H1 s' ∧ H1 a = none ∧ H1 kS = none ∧ s'.heap.get? kS = some (seqObj "list" kA e) ∧ s'.heap.get? a = some (seqObj "list" #[] e1) ∧ kA.size = i ∧ J i H1 kA.toList) vs 0 _
    ⟨H, #[], 0, I2, fa.1, fk.1, hk0, na0, rfl, j0⟩ ?step ?done)
  case step =>
    rintro i x s1 hx ⟨H1, kA, e, J1, n1, n2, g1, g2, sz, jj⟩
    simp only [Nat.zero_add] at sz jj ⊢
    have hi : i < vs.length := (List.getElem?_eq_some_iff.mp hx).1
    have fp : ∀ b ∈ [kS, a], FpOk X pins H1 b := fun b hb => by
      rcases List.mem_cons.mp hb with z | z
      · subst z; exact Ck fk n2
      · rw [List.mem_singleton.mp z]; exact Ck fa n1
    have IP := J1.pinned (fp := [kS, a]) fp fun b hb => by
      rcases List.mem_cons.mp hb with z | z
      · subst z; exact ⟨_, g1, fun v q => nomatch q⟩
      · rw [List.mem_singleton.mp z]; exact ⟨_, g2, fun v q => nomatch q⟩
    refine wpAny_bind (wpAny_attempt (wpAny_mono (step i x H1 kA.toList s1 _ hx IP jj) (fun v s2 he => ?_) fun _ _ hF => hF.elim))
    obtain ⟨H2, I3, j2⟩ := he
    try dsimp only
    have pk := I3.pin (kS, seqObj "list" kA e) (List.mem_append_right _ (List.mem_append_right _ (mem_pinsAt (by simp) g1)))
    have pa := I3.pin (a, seqObj "list" #[] e1) (List.mem_append_right _ (List.mem_append_right _ (mem_pinsAt (by simp) g2)))
    have I4 := I3.unpinned
    have s1' := Heap.SameBut.update s2.heap kS (Obj.mapSeq (·.push v))
    obtain ⟨c2, hc2⟩ : ∃ c2, (s2.heap.update kS (Obj.mapSeq (·.push v))).get? kS = some (seqObj "list" (kA.push v) c2) := ⟨_, get?_update_seq pk.1 (·.push v)⟩
    refine wpAny_bind (listUpdate_at pk.1 rfl ?_ (by omega) (by rw [Array.size_push]; omega))
    refine wpAny_pure ⟨rfl, H2, kA.push v, c2, ?_, pa.2.1, pk.2.1, hc2, (s1'.2 a (Ne.symm nka)).trans pa.1, by rw [Array.size_push]; omega, by simpa using j2⟩
    exact uh (t' := s2.toks) (ch := [kS]) I4 (fun b o hb q => (s1'.2 b (fun z => hb (by simp [z]))).trans q) fun b hb => by
      rw [List.mem_singleton.mp hb]; exact Ck fk pk.2.1
  case done =>
    rintro s1 ⟨H1, kA, e, J1, n1, n2, g1, g2, sz, jj⟩
    simp only [Nat.zero_add] at sz jj
    try dsimp only
    obtain ⟨kz, hr, hlen, hal, hsk, hu, hout⟩ := fin H1 kA.toList s1 J1 jj
    refine wpAny_bind (listItems_at g1 rfl ?_)
    obtain ⟨G, q1, q2⟩ := restrict s1.heap fun b => decide (b ≠ kS)
    have gk : ∀ b o, b ≠ kS → s1.heap.get? b = some o → G.get? b = some o := fun b o hb z => (q1 b (by simpa using hb)).trans z
    have gb : ∀ b o, G.get? b = some o → b ≠ kS ∧ s1.heap.get? b = some o := fun b o z => by
      by_cases hb : b = kS
      · subst hb
        rw [q2 b (by simp)] at z
        cases z
      · exact ⟨hb, (q1 b (by simpa using hb)).symm.trans z⟩
    refine keyH_end (κ := dataKind s1.heap kz) (h₁ := G) (fun b o _ z => (gb b o z).2) (q2 kS (by simp)) g1 g2 nka (SortsAt.data hr hal hsk hu) (by rw [sz]) hZ fun h3 tk3 c3 k3 n3 => ?_
    obtain ⟨ws, vw, hq⟩ := hout _ ⟨s1.heap, kA.toList, hal, rfl, hr⟩
    refine ⟨rfl, .ref a, upd H1 a (.lst ws), ?_, rfl, hq a n1⟩
    have I5 : Inv X pins σ H1 { s1 with heap := h3, toks := tk3 } := uh (ch := [a, kS]) J1 (fun b o hb z => k3 b o (fun y => hb (by simp [y])) (gk b o (fun y => hb (by simp [y])) z)) fun b hb => by
      rcases List.mem_cons.mp hb with z | z
      · subst z; exact Ck fa n1
      · rw [List.mem_singleton.mp z]; exact Ck fk n2
    refine Fb I5 (Ck fa n1) ⟨?_, _, c3, vw, n3⟩
    rw [vw.length, KeyedOut.length ⟨s1.heap, kA.toList, hal, rfl, hr⟩ hlen]
    exact hZ
end
end Dm
end
section
namespace Dm
open PySem PySem.Spec PyProof.Rows L2 LamX
end Dm
end
section
namespace Dm
open PySem PySem.Spec PyProof.Rows L2 LamX
end Dm
end
section
namespace Dm
open PySem PySem.Spec PyProof.Rows L2
def Qn (i : Nat) (mb : M D) : D → M Unit := fun v s h => match ownAt s i with
  | none => .bad
  | some _ => match mb s h with
    | .ok (.int k) s h => (match ownAt s i with
      | some xs => (match ixN xs.length k with
        | some j => .ok () (s.set i (.own (xs.set j v))) h
        | none => .bad)
      | none => .bad)
    | _ => .bad
theorem JK {E : Ex} {s : Sd} {h : Hd} {i : Nat} {mb : M D} {v : D} {QU : Unit → Sd → Hd → Prop} : Wq QU E () (Qn i mb v s h) = atO (fun _ => Wq (fun kd s h => inQ (fun k => atO (fun xs => opQ (fun j => QU () (s.set i (.own (xs.set j v))) h) () (ixN xs.length k)) () s i) () kd) nX () (mb s h)) () s i := by
  rw [← m7]
  unfold Qn
  cases ownAt s i with
  | none => rfl
  | some _ =>
    cases mb s h with
    | bad => rfl
    | exc y fs s1 h1 => rfl
    | ok kd s1 h1 =>
      cases kd with
      | int k =>
        show Wq QU E () (match ownAt s1 i with
          | some xs => (match ixN xs.length k with
            | some j => .ok () (s1.set i (.own (xs.set j v))) h1
            | none => .bad)
          | none => .bad) = atO _ () s1 i
        rw [← m7]
        cases ownAt s1 i with
        | none => rfl
        | some xs => cases hx : ixN xs.length k <;> simp only [hx] <;> rfl
      | _ => rfl
end Dm
end
section
namespace Dm
open PySem PySem.Spec PyProof.Rows L2 PySem.W
end Dm
end
section
namespace Dm
open PySem PySem.Spec PyProof.Rows L2
end Dm
end
section
namespace Dm
open PySem PySem.Spec PyProof.Rows L2
end Dm
end
section
namespace Dm
open PySem PySem.Spec PyProof.Rows L2
section
end
end Dm
end
section
namespace Dm
open PySem PySem.Spec PyProof.Rows L2
def zpQ (Q : D → D → Prop) (_ : Tg Q Q) : List D → Prop
  | [d, e] => Q d e
  | _ => False
theorem RG {Q : D → D → Prop} {d e : D} : zpQ Q () [d, e] = Q d e := Eq.trans rfl rfl
end Dm
end
section
namespace Dm
open PySem L2 PySem.Spec PyProof.Rows
abbrev NK := Option Int
def fk : NK → DK
  | none => .n
  | some i => .i i
def lkX (kvs : List (DK × V × V)) (k : DK) : Option V := (kvs.find? fun p => decide (p.1 = k)).map (·.2.2)
def Vj (kvs : List (DK × V × V)) (k : DK) (y v : V) : List (DK × V × V) :=
  if kvs.any (fun p => decide (p.1 = k)) then kvs.map (fun p => if p.1 = k then (p.1, p.2.1, v) else p) else kvs ++ [(k, y, v)]
end Dm
end
section
namespace Dm
open PySem L2 PySem.Spec PyProof.Rows
def lkD (ps : List (DK × D)) (k : DK) : Option D := (ps.find? fun p => decide (p.1 = k)).map (·.2)
def putD (ps : List (DK × D)) (k : DK) (d : D) : List (DK × D) :=
  if ps.any (fun p => decide (p.1 = k)) then ps.map (fun p => if p.1 = k then (p.1, d) else p) else ps ++ [(k, d)]
section
variable {K : PySem.W.Frag} {c : C} {H : Hp}
theorem cA.lk : ∀ {ps : List (DK × D)} {kvs : List (DK × V × V)} (k : DK), cA K c H ps kvs → (lkD ps k = none ∧ lkX kvs k = none) ∨ ∃ d v, lkD ps k = some d ∧ lkX kvs k = some v ∧ Rel K c H d v
  | [], kvs, k, h => by cases h; exact .inl ⟨rfl, rfl⟩
  | p :: ps, kvs, k, h => by
    obtain ⟨v, r, rfl, e1, h1, h2, h3⟩ := (show ∃ v r, kvs = v :: r ∧ p.1 = v.1 ∧ Rel K c H p.1.d v.2.1 ∧ Rel K c H p.2 v.2.2 ∧ cA K c H ps r from h)
    unfold lkD lkX
    rw [List.find?_cons, List.find?_cons, ← e1]
    cases decide (p.1 = k) with
    | true => exact .inr ⟨p.2, v.2.2, rfl, rfl, h2⟩
    | false => exact cA.lk k h3
theorem cA.mapP {k : DK} {d : D} {v : V} (hv : Rel K c H d v) : ∀ {ps : List (DK × D)} {kvs : List (DK × V × V)}, cA K c H ps kvs →
    cA K c H (ps.map fun p => if p.1 = k then (p.1, d) else p) (kvs.map fun p => if p.1 = k then (p.1, p.2.1, v) else p)
  | [], kvs, h => by cases h; rfl
  | p :: ps, kvs, h => by
    obtain ⟨q, r, rfl, e1, h1, h2, h3⟩ := (show ∃ v r, kvs = v :: r ∧ p.1 = v.1 ∧ Rel K c H p.1.d v.2.1 ∧ Rel K c H p.2 v.2.2 ∧ cA K c H ps r from h)
    rw [List.map_cons, List.map_cons]
    refine ⟨_, _, rfl, ?_, ?_, ?_, cA.mapP hv h3⟩
    · rw [← e1]; split <;> simp [e1]
    · rw [← e1]; split <;> exact h1
    · rw [← e1]
      split
      · exact hv
      · exact h2
theorem cA.snoc {k : DK} {d : D} {y v : V} (hy : Rel K c H k.d y) (hv : Rel K c H d v) : ∀ {ps : List (DK × D)} {kvs : List (DK × V × V)}, cA K c H ps kvs → cA K c H (ps ++ [(k, d)]) (kvs ++ [(k, y, v)])
  | [], kvs, h => by cases h; exact ⟨_, _, rfl, rfl, hy, hv, rfl⟩
  | p :: ps, kvs, h => by
    obtain ⟨q, r, rfl, e1, h1, h2, h3⟩ := (show ∃ v r, kvs = v :: r ∧ p.1 = v.1 ∧ Rel K c H p.1.d v.2.1 ∧ Rel K c H p.2 v.2.2 ∧ cA K c H ps r from h)
    exact ⟨_, _, rfl, e1, h1, h2, cA.snoc hy hv h3⟩
theorem cA.put {k : DK} {d : D} {y v : V} (hy : Rel K c H k.d y) (hv : Rel K c H d v) {ps : List (DK × D)} {kvs : List (DK × V × V)} (h : cA K c H ps kvs) : cA K c H (putD ps k d) (Vj kvs k y v) := by
  unfold putD Vj
  rw [h.any k]
  split
  · exact h.mapP hv
  · exact h.snoc hy hv
end
end Dm
end
section
namespace Dm
open PySem L2 PySem.Spec PyProof.Rows
end Dm
end
section
namespace Dm
open PySem L2 PySem.Spec PyProof.Rows
section
variable {a : M D} {Q : D → Sd → Hd → Prop}
def dcQ (Q : Nat → List (DK × D) → Prop) (_ : Tg Q Q) : Option (Nat × List (DK × D)) → Prop
  | some p => Q p.1 p.2
  | none => False
theorem Ik {Q : Nat → List (DK × D) → Prop} {i : Nat} {ps : List (DK × D)} : dcQ Q () (some (i, ps)) = Q i ps := Eq.trans rfl rfl
end
end Dm
end
section
namespace Dm
open PySem PySem.Spec PyProof.Rows L2 LamX
section
variable {K : PySem.W.Frag} {c c' : C} {H H' : Hp} {h : Hd} {B : HO → Prop} {s : L2.St}
mutual
theorem Rel.rB (x : Gg B c H c' H') : ∀ {d : D} {v : V}, Rel K c H d v → Rel K c' H' d v
  | .non, v, h => h
  | .bl b, v, h => h
  | .int i, v, h => h
  | .str s, v, h => h
  | .tup ds, v, h => by
    obtain ⟨a, vs, e, t, r⟩ := (show ∃ a vs, v = .ref a ∧ TupAt K c H a vs ∧ aK K c H ds vs from h)
    refine ⟨a, vs, e, ?_, aK.rB x r⟩
    rcases t with ⟨t1, t2⟩ | t
    · exact .inl (x.kn t1 t2)
    · exact .inr t
  | .lst ds, v, h => by
    obtain ⟨a, vs, e, t, t2, r⟩ := (show ∃ a vs, v = .ref a ∧ c.out a ∧ H a = some (.lst vs) ∧ aK K c H ds vs from h)
    have q := x.out a (.lst vs) t (x.odd.nf fun _ _ z => nomatch z) t2
    exact ⟨a, vs, e, q.1, q.2, aK.rB x r⟩
  | .ro ds, v, h => by
    obtain ⟨a, vs, e, t, r⟩ := (show ∃ a vs, v = .ref a ∧ MP K c H a vs ∧ aK K c H ds vs from h)
    refine ⟨a, vs, e, ?_, aK.rB x r⟩
    rcases t with ⟨t1, t2⟩ | t
    · exact .inl (x.rd t1 t2)
    · exact .inr t
  | .edt, v, h => by
    obtain ⟨a, e, t, t2⟩ := (show ∃ a, v = .ref a ∧ c.out a ∧ H a = some (.dK []) from h)
    have q := x.out a (.dK []) t (x.odd.nf fun _ _ z => nomatch z) t2
    exact ⟨a, e, q.1, q.2⟩
  | .dtx k n, v, h => by
    obtain ⟨a, e, t, t2⟩ := (show ∃ a, v = .ref a ∧ c.out a ∧ H a = some (.dK [(.inr k, .int n)]) from h)
    have q := x.out a (.dK [(.inr k, .int n)]) t (x.odd.nf fun _ _ z => nomatch z) t2
    exact ⟨a, e, q.1, q.2⟩
  | .ref i, v, h => by
    obtain ⟨a, e, t⟩ := (show ∃ a, v = .ref a ∧ c.r[i]? = some a from h)
    exact ⟨a, e, x.ref i a t⟩
theorem aK.rB (x : Gg B c H c' H') : ∀ {ds : List D} {vs : List V}, aK K c H ds vs → aK K c' H' ds vs
  | [], vs, h => h
  | d :: ds, vs, h => by
    obtain ⟨v, r, e, h1, h2⟩ := (show ∃ v r, vs = v :: r ∧ Rel K c H d v ∧ aK K c H ds r from h)
    exact ⟨v, r, e, Rel.rB x h1, aK.rB x h2⟩
end
theorem lX.rB (x : Gg B c H c' H') : ∀ {fs : List (Str × D)} {vs : List (Str × V)}, lX K c H fs vs → lX K c' H' fs vs
  | [], vs, h => h
  | g :: fs, vs, h => by
    obtain ⟨v, r, e, e1, h1, h2⟩ := (show ∃ v r, vs = v :: r ∧ g.1 = v.1 ∧ Rel K c H g.2 v.2 ∧ lX K c H fs r from h)
    exact ⟨v, r, e, e1, h1.rB x, lX.rB x h2⟩
theorem cA.rB (x : Gg B c H c' H') : ∀ {fs : List (DK × D)} {vs : List (DK × V × V)}, cA K c H fs vs → cA K c' H' fs vs
  | [], vs, h => h
  | g :: fs, vs, h => by
    obtain ⟨v, r, e, e1, h1, h2, h3⟩ := (show ∃ v r, vs = v :: r ∧ g.1 = v.1 ∧ Rel K c H g.1.d v.2.1 ∧ Rel K c H g.2 v.2.2 ∧ cA K c H fs r from h)
    exact ⟨v, r, e, e1, h1.rB x, h2.rB x, cA.rB x h3⟩
theorem Gn.rB (x : Gg B c H c' H') {g : Addr} (n : ∀ ob, ¬ B (.frz ob (.own g))) {cl : List (Str × Addr)} : ∀ {ys : List Str} {ds : List D}, Gn K c H g cl ys ds → Gn K c' H' g cl ys ds
  | [], ds, h => h
  | y :: ys, ds, h => by
    obtain ⟨d, r, z, ob, u, v, e, e1, h1, h2, h3, h4, h5, h6⟩ := h
    have q := x.out z _ h1 (n _) h2
    exact ⟨d, r, z, ob, u, v, e, e1, q.1, q.2, h3, h4, h5.rB x, Gn.rB x n h6⟩
theorem uE {k : Addr} {q : Str} {o : Obj} {u : HO} : CodeO k q ≠ .frz o u := fun z => by
  unfold CodeO at z
  cases z
theorem RelO.rB (x : Gg B c H c' H') {a : Addr} (n : ∀ ob, ¬ B (.frz ob (.own a))) (hk : ∀ u, H a = some u → H' a = some u) : ∀ {o : O}, RelO K c H a o → RelO K c' H' a o
  | .lst ds, h => by
    obtain ⟨vs, e, r⟩ := h
    exact ⟨vs, hk _ e, r.rB x⟩
  | .dic ps, h => by
    obtain ⟨kvs, e, r⟩ := h
    exact ⟨kvs, hk _ e, r.rB x⟩
  | .ins y fs, h => by
    obtain ⟨dx, vs, e, o, e2, r⟩ := h
    have q := x.out dx (.own a) o (x.odd.nf fun _ _ z => nomatch z) e2
    exact ⟨dx, vs, hk _ e, q.1, q.2, r.rB x⟩
  | .exn y fs, h => by
    obtain ⟨d, e, f⟩ := h
    refine ⟨d, hk _ e, fun ne => ?_⟩
    obtain ⟨dd, vs, e1, o, e2, r⟩ := f ne
    have q := x.out dd _ o (x.odd.nf fun _ _ z => by unfold exd at z; cases z) e2
    exact ⟨dd, vs, e1, q.1, q.2, r.rB x⟩
  | .clo L cs, h => by
    obtain ⟨cl, k, fo, h1, h2, h3, h4, h5, h6⟩ := h
    have q := x.out k _ h2 (x.odd.nf fun _ _ z => uE z) h3
    exact ⟨cl, k, fo, hk _ h1, q.1, q.2, h4, h5, h6.rB x n⟩
  | .dead, h => by
    obtain ⟨u, h⟩ := h
    exact ⟨u, hk _ h⟩
  | .tab y, h => by
    obtain ⟨e, ps, e1, t, g⟩ := h
    refine ⟨e, ps, hk _ e1, t, fun pos cv hc => ?_⟩
    obtain ⟨k, g1, g2, g3⟩ := g pos cv hc
    have q := x.out k _ g2 (x.odd.nf fun _ _ z => uE z) g3
    exact ⟨k, g1, q.1, q.2⟩
theorem bZ.rB (x : Gg B c H c' H') (own : ∀ q u, q ∈ c.z → q ∉ c.n → H q = some u → q ∈ c'.z ∧ q ∉ c'.n ∧ H' q = some u) (r : bZ K c H sd s) : bZ K c' H' sd s := by
  refine ⟨r.len, fun i y o e1 e2 => ?_, r.inj⟩
  have t := r.sl i y o e1 e2
  cases y with
  | no => trivial
  | val d =>
    obtain ⟨v, e, q⟩ := t
    exact ⟨v, e, q.rB x⟩
  | own xs =>
    obtain ⟨q, vs, e, h1, h2, h3, r⟩ := t
    obtain ⟨g1, g2, g3⟩ := own q _ h1 h2 h3
    exact ⟨q, vs, e, g1, g2, g3, r.rB x⟩
end
end Dm
end
section
namespace Dm
open PySem PySem.Spec PyProof.Rows L2 LamX
end Dm
end
section
namespace Dm
open PySem PySem.Spec PyProof.Rows L2 LamX
end Dm
end
section
namespace Dm
open PySem PySem.Spec PyProof.Rows L2 LamX
section
variable {K : PySem.W.Frag} {c : C} {H : Hp} {h : Hd} {σ : L2.St}
theorem bO.Tr {i : Nat} {a : Addr} {o : O} (hi : c.r[i]? = some a) (x : bO K c H h) (r : RelO K c H a o) : bO K c H (h.set i o) := by
  refine ⟨by rw [List.length_set]; exact x.len, x.nd, x.rn, x.hid, fun j u b e1 e2 => ?_⟩
  by_cases hj : j = i
  · subst hj
    rw [hi] at e2
    cases e2
    have hl : j < h.length := by rw [← x.len]; exact (List.getElem?_eq_some_iff.mp hi).1
    rw [List.getElem?_set_self hl] at e1
    cases e1
    exact r
  · rw [List.getElem?_set_ne (Ne.symm hj)] at e1
    exact x.obj j u b e1 e2
end
end Dm
end
section
namespace Dm
open PySem PySem.Spec PyProof.Rows L2 LamX
end Dm
end
section
namespace Dm
open PySem PySem.Spec PyProof.Rows L2 LamX
end Dm
end
section
namespace Dm
open PySem PySem.Spec PyProof.Rows L2 LamX
def DR (f : Str) (d : D) : List (Str × D) → List (Str × D)
  | [] => [(f, d)]
  | (g, x) :: r => if g = f then (g, d) :: r else (g, x) :: DR f d r
def Ly (h : Hd) (x : Str) : D → Option (Nat × List (Str × D))
  | .ref i => match h[i]? with
    | some (.ins y fs) => if y = x then some (i, fs) else none
    | _ => none
  | _ => none
section
variable {K : PySem.W.Frag} {c : C} {H : Hp} {f : Str}
theorem lX.put {d : D} {v : V} (r0 : Rel K c H d v) : ∀ {fs : List (Str × D)} {vs : List (Str × V)}, lX K c H fs vs → lX K c H (DR f d fs) (putF f v vs)
  | [], vs, r => by cases r; exact ⟨(f, v), [], rfl, rfl, r0, rfl⟩
  | p :: fs, vs, r => by
    obtain ⟨w, r', rfl, e1, r1, r2⟩ := r
    obtain ⟨g, d0⟩ := p
    obtain ⟨g', v0⟩ := w
    cases (show g = g' from e1)
    unfold DR putF
    by_cases hg : g = f
    · rw [if_pos hg, if_pos hg]
      exact ⟨(g, v), r', rfl, rfl, r0, r2⟩
    · rw [if_neg hg, if_neg hg]
      exact ⟨(g, v0), _, rfl, rfl, r1, lX.put r0 r2⟩
end
section
variable {W : WX} {o : Expr} {f x : Str} {mo : M D}
theorem Cy.bind {K : PySem.W.Frag} {mg : Str → Option Value} {c : C} {H : Hp} {s : L2.St} {tg : List Nat} {Q : L2.St → Hp → Prop} {W : WX} {A B : Type} {R : C → Hp → A → B → Prop} {m : Res A} {k : A → Sd → Hd → Res Unit} (q : Cy K c H s tg Q (m.bind k)) :
    Out K mg R c H s (Then K mg R s fun a sd h' c1 H1 => Ext c H c1 H1 ∧ Cy K c H s tg Q (k a sd h')) W m := by
  cases m with
  | ok a sd h' => exact fun b c' H' x1 x2 x3 x4 => ⟨c', a, sd, h', x2, x3, x4, x1, q⟩
  | exc x fs sd h' => exact q.elim
  | bad => exact q.elim
def Ww (x f : Str) (mo : M D) : D → M Unit := fun d s h => (mo s h).bind fun o s h => match Ly h x o with
  | some (i, fs) => if fs.length < 1000 then .ok () s (h.set i (.ins x (DR f d fs))) else .bad
  | none => .bad
def Tq (d : D) (h : Hd) : D → D → Option Hd
  | .ref i, .int k => match h[i]? with
    | some (.lst xs) => (ixN xs.length k).map fun j => h.set i (.lst (xs.set j d))
    | _ => none
  | _, _ => none
def Uy (ma mb : M D) : D → M Unit := fun d s h => (ma s h).bind fun o s h => (mb s h).bind fun k s h => match Tq d h o k with
  | some h' => .ok () s h'
  | none => .bad
theorem Cy.shift {K : PySem.W.Frag} {c c1 : C} {H H1 : Hp} {s : L2.St} {tg : List Nat} {Q : L2.St → Hp → Prop} {m : Res Unit} (h : Cy K c H s tg Q m) (x : Ext c H c1 H1) : Cy K c1 H1 s tg Q m := by
  cases m with
  | ok u sd h3 => exact fun s' c' H' y1 y2 y3 y4 y5 => h s' c' H' (x.trans y1) y2 y3 y4 y5
  | exc _ _ _ _ => exact h
  | bad => exact h
end
end Dm
end
section
end
section
end
section
namespace Dm
open PySem PySem.Spec PyProof.Rows L2 LamX
open Classical
section
variable {E : Ex} {s : Sd} {h : Hd} {d o : D} {mo : M D} {x f : Str} {Q : D → Sd → Hd → Prop} {QU : Unit → Sd → Hd → Prop}
def VB (Q : Nat → List (Str × D) → Prop) (_ : Tg Q Q) : Option (Nat × List (Str × D)) → Prop
  | some p => Q p.1 p.2
  | none => False
def hdQ (Q : Nat → List D → Prop) (_ : Tg Q Q) : Option (Nat × List D) → Prop
  | some p => Q p.1 p.2
  | none => False
theorem Fe {Q : Nat → List (Str × D) → Prop} {i : Nat} {fs : List (Str × D)} : VB Q () (some (i, fs)) = Q i fs := Eq.trans rfl rfl
theorem HX {Q : Nat → List D → Prop} {i : Nat} {xs : List D} : hdQ Q () (some (i, xs)) = Q i xs := Eq.trans rfl rfl
theorem Nf : Wq QU E () (Ww x f mo d s h) = Wq (fun o s h => VB (fun i fs => fs.length + 1 ≤ 1000 ∧ QU () s (h.set i (.ins x (DR f d fs)))) () (Ly h x o)) E () (mo s h) := sk fun o s h => by
  cases Ly h x o with
  | none => rfl
  | some p =>
    show Wq QU E () (if p.2.length < 1000 then _ else .bad) = _
    rw [qX]
    rfl
theorem M6 {ma mb : M D} : Wq QU E () (Uy ma mb d s h) = Wq (fun o s h => Wq (fun k s h => opQ (fun h => QU () s h) () (Tq d h o k)) E () (mb s h)) E () (ma s h) := sk fun o s h => sk fun k s h => by
  cases Tq d h o k <;> rfl
def hnQ (Q : Nat → Prop) (_ : Tg Q Q) : D → Prop
  | .ref i => Q i
  | _ => False
theorem LQ {Q : Nat → Prop} {i : Nat} : hnQ Q () (.ref i) = Q i := Eq.trans rfl rfl
def Wm (Q : Prop) (_ : Tg Q Q) : D → Prop
  | .non => Q
  | _ => False
theorem G9 {Q : Prop} : Wm Q () .non = Q := Eq.trans rfl rfl
end
end Dm
end
section
namespace Dm
open PySem PySem.Spec PyProof.Rows L2 LamX
@[irreducible] def fuR : Nat := 10 ^ 1000
theorem Qx {X : Cx} {W : WX} {pos : Pos} {x y : Str} (hm : ∃ t, X.mg x = some (.str y t)) (hg : Gl X x := by rfl) (hd : (x == ("__debug__" : Str)) = false := by decide) : PE X (.Name x pos) (lE X.K X.mg W (mC (.str y))) := by
  obtain ⟨t, hm⟩ := hm
  exact aX (pe_glob (v := .str y) hg hm ⟨t, rfl⟩ hd) (vg fun _ _ => rfl)
end Dm
end
section
end
section
namespace Dm
open PySem PySem.Spec PyProof.Rows L2 LamX HotX
section
variable {X : Cx} {pins pl : List (Addr × Obj)} {σ : L2.St}
theorem Mz.app (c : Mz X pins) : Mz X (pins ++ pl) := by
  obtain ⟨p, h, hp⟩ := c
  refine ⟨p, h, ?_⟩
  rcases List.mem_append.mp hp with z | z
  · exact List.mem_append_left _ z
  · exact List.mem_append_right _ (List.mem_append_left _ z)
end
end Dm
end
section
namespace Dm
open PySem L2
def wpA :=
  And.intro @RG <|
  And.intro @JK <|
  And.intro @V9 <|
  And.intro @JH <|
  And.intro @SM <|
  And.intro @Iz <|
  And.intro @Q7 <|
  And.intro @zK <|
  And.intro @Nh <|
  And.intro @y_C <|
  And.intro @RJ <|
  And.intro @Gh <|
  And.intro @V3 <|
  And.intro @SQ <|
  And.intro @R6 <|
  And.intro @Np <|
  And.intro @RL <|
  And.intro @M5 <|
  And.intro @Nu <|
  And.intro @R3 <|
  And.intro @S9 <|
  And.intro @V8 <|
  And.intro @R4 <|
  And.intro @Wc <|
  And.intro @y_call <|
  And.intro @Wf <|
  And.intro @R5 <|
  And.intro @M8 <|
  And.intro @RK <|
  And.intro @R7 <|
  And.intro @R8 <|
  And.intro @Wb <|
  And.intro @RN <|
  And.intro @Nm <|
  And.intro @y_ret <|
  And.intro @S8 <|
  And.intro @RX <|
  And.intro @Wd <|
  And.intro @Sq <|
  And.intro @Ss <|
  And.intro @Sh <|
  And.intro @Nr <|
  And.intro @Nb <|
  And.intro @RP <|
  And.intro @Sw <|
  And.intro @Nq <|
  And.intro @M4 <|
  And.intro @V4 <|
  And.intro @Gq <|
  And.intro @RQ <|
  And.intro @Nt <|
  And.intro @M9 <|
  And.intro @R9 <|
  And.intro @M7 <|
  And.intro @Sv <|
  And.intro @V7 <|
  And.intro @V5 <|
  And.intro @V6 <|
  And.intro @RW <|
  And.intro @SJ <|
  And.intro @y_raise <|
  And.intro @Nk <|
  And.intro @Sy <|
  And.intro @SN <|
  And.intro @Qa <|
  And.intro @RM <|
  And.intro @JG <|
  And.intro @Vc <|
  And.intro @QJ <|
  And.intro @Vd <|
  And.intro @QK <|
  And.intro @G6 <|
  And.intro @QD <|
  And.intro @LK <|
  And.intro @V1 <|
  And.intro @V2 <|
  And.intro @O2 <|
  And.intro @OJ <|
  And.intro @O5 <|
  And.intro @O4 <|
  And.intro @Lp <|
  And.intro @Lq <|
  And.intro @Qg <|
  And.intro @TX <|
  And.intro @Uw <|
  And.intro @Uv <|
  And.intro @Us <|
  And.intro @Ik <|
  And.intro @UG <|
  And.intro @UJ <|
  And.intro @Tj <|
  And.intro @Qo <|
  And.intro @Qp <|
  And.intro @Nf <|
  And.intro @M6 <|
  And.intro @Fe <|
  And.intro @HX <|
  And.intro @LQ <| @G9
def wpB :=
  And.intro @Bx <|
  And.intro @yI <|
  And.intro @Df <|
  And.intro @Dd <|
  And.intro @Gv <|
  And.intro @add_int <|
  And.intro @sub_int <|
  And.intro @lt_int <|
  And.intro @le_int <|
  And.intro @gt_int <|
  And.intro @ge_int <|
  And.intro @eq_int <|
  And.intro @ne_int <|
  And.intro @eq_str <|
  And.intro @ne_str <|
  And.intro @neg_int <|
  And.intro @int_int <|
  And.intro @Qi <|
  And.intro @zm <|
  And.intro @Lg <|
  And.intro @Dm.Jo <|
  And.intro @Dm.ix_tup <|
  And.intro @JT <|
  And.intro @JR <|
  And.intro @KR <|
  And.intro @KQ <|
  And.intro @true_and <|
  And.intro @and_true <|
  And.intro @decide_true <|
  And.intro @decide_false <| @eq_self.{1}
end Dm
end
section
namespace Dm
open PySem PySem.Spec PyProof.Rows L2
end Dm
end
section
namespace Dm
open PySem PySem.Spec PyProof.Rows L2
end Dm
end
section
namespace Dm
open PySem PySem.Spec PyProof.Rows L2
end Dm
end
section
namespace Dm
open PySem L2 PySem.Spec PyProof.Rows
end Dm
end
section
namespace Dm
open PySem L2 PySem.Spec PyProof.Rows
def onS (Q : Str → Prop) (_ : Tg Q Q) : D → Prop
  | .str x => Q x
  | _ => False
@[simp] theorem aZ {Q : Str → Prop} {x : Str} : onS Q () (.str x) = Q x := Eq.trans rfl rfl
end Dm
end
section
namespace Dm
open PySem L2 PySem.Spec PyProof.Rows
end Dm
end
section
namespace Dm
open PySem PySem.Spec PyProof.Rows L2
end Dm
end
section
namespace Dm
open PySem PySem.W PySem.Calls PyProof.Rows HandSHeadRun
end Dm
end
section
namespace Dm
open PySem PySem.Spec PyProof.Rows L2 LamX
end Dm
namespace Dm
open PySem PySem.Spec PyProof.Rows L2 LamX
theorem Mx.hand {X : Cx} {H0 H : Hp} {c : C} {L M : JC} {t u : Addr × Addr × Obj} (l : Mx X H0 c H L t) (m : Mx X H0 c H M u) (ne : t.1 ≠ u.1) : Mx X H0 (c.hand u.1) H L t := by
  refine ⟨l.new, ⟨fun q => (List.mem_append.mp q).elim l.out.1 fun q => ne (List.mem_singleton.mp q), l.out.2.1, l.out.2.2⟩, l.at_, ⟨fun q => (List.mem_append.mp q).elim l.ok.1 fun q => ?_, l.ok.2.1, l.ok.2.2⟩, l.ek⟩
  have e := l.ek
  rw [List.mem_singleton.mp q, m.at_] at e
  exact uE (Option.some.inj e).symm
section
variable {c c0 c1 : C} {H H0 H1 : Hp} {p : Addr} {o : HO}
theorem rP.lock (x : Ext c0 H0 c H) (hp : H p = none) : rP p c0 H0 (c.lock p) (upd H p o) := ⟨x.r, by show p :: c.n = _; rw [x.n], x.z, fun a u h1 h2 e => aD hp a u (x.old a u h1 h2 e), fun a u e => by
  obtain ⟨u', e'⟩ := x.dom a u e
  exact ⟨u', aD hp a u' e'⟩⟩
theorem rP.hand {f : Addr} (x : rP p c0 H0 c1 H1) (n : H0 f = none) : rP p c0 H0 (c1.hand f) H1 := by
  obtain ⟨l, e1, e2⟩ := x.r
  refine ⟨⟨l ++ [f], ?_, fun a ha => ?_⟩, x.n, x.z, x.old, x.dom⟩
  · show c1.r ++ [f] = _
    rw [e1, List.append_assoc]
  · rcases List.mem_append.mp ha with q | q
    · exact e2 a q
    · rw [List.mem_singleton.mp q]; exact n
end
end Dm
namespace Dm
open PySem PySem.Spec PyProof.Rows L2 LamX
end Dm
namespace Dm
open PySem L2
end Dm
end
section
end
section
namespace L2N
open PySem PySem.Spec PyProof.Rows L2
inductive Vg (X : Cx) : List ExceptHandler → List (Value × Nat × (Addr → Value → Option Addr → TS)) → Prop
  | nil : Vg X [] []
  | cons {x n : Str} {i : Nat} {c : Value} {ts : Addr → Value → Option Addr → TS} {st : Stmt} {sts : List Stmt} {p q : Pos} {hds : List ExceptHandler} {l : List (Value × Nat × (Addr → Value → Option Addr → TS))}
      (nm : Names X x c) (at_ : X.N[i]? = some n) (lo : X.env.kindOf n = some .local)
      (su : ∀ (a : Addr) (oe : Obj) (cls : Value) (d : Option Addr) (pn : List (Addr × Obj)), Zn cls d oe → (∃ vs, oe.data = .fields vs) → PSs (X.suite a ((a, oe) :: pn)) (st :: sts) (ts a cls d))
      (r : Vg X hds l) : Vg X (.ExceptHandler (some (.Name x p)) (some n) (st :: sts) q :: hds) ((c, i, ts) :: l)
section
variable {X : Cx} {pins : List (Addr × Obj)} {σ : St} {H : Hp} {a : Addr} {cls : Value} {d : Option Addr} {B : Heap} {s₁ t : Shared} {Wout : WX} {D : Ends}
theorem Down.on (w : Down X pins σ H a cls d B s₁ t) : Inv X pins σ H t := w.inv.landed w.old w.fly.1 w.up w.os w.ag
theorem Down.leaves (hs : X.stack = X.env :: X.outer) (hf : X.env.frame = some X.env.locals) (tk : Takes X Wout) (w : Down X pins σ H a cls d B s₁ t) (q : Wout cls d σ H) :
    wpAny (model X.prog X.w) X.A (handleBy (.ref a) X.env []) (SP X pins D) X.xe t := by
  obtain ⟨_, _, _, oe, vs, T, oT, ts, g1, g2, g3, g4, g5⟩ := id w.fly
  have out : wpAny (model X.prog X.w) X.A (setFlight (.ref a) X.env.frame) (fun _ s4 => wpAny (model X.prog X.w) X.A (throw (.ref a) : Sem Flow) (SP X pins D) X.xe s4) X.xe t := by
    rw [hf]
    exact HandSPX.setFlight_upZ w.fly fun h4 held up4 => wpAny_throw (tk _ _ ⟨a, B, s₁, pins, σ, H, cls, d, rfl, w.inv, w.old, w.up.trans up4, by rw [hs]; exact .inr (.inr held), w.na, w.os, w.ag, q⟩)
  refine wpAny_handleBy_nil ?_
  unfold PySem.passOn
  refine wpAny_bind (wpAny_field g1 g3 g4 ?_)
  rw [if_neg (show ¬ ((Value.ref T == Value.none) = true) by simp)]
  first
    | exact wpAny_bind (wpAny_pure (wpAny_bind out))
    | exact wpAny_bind out
end
end L2N
namespace Dm
open PySem PySem.Spec PyProof.Rows L2
inductive AsM (X : Cx) (xs : List Str) : List ExceptHandler → List (Str × Nat × (List (Str × D) → M Fl)) → Prop
  | nil : AsM X xs [] []
  | cons {x n : Str} {i : Nat} {C : Addr} {su : List (Str × D) → M Fl} {st : Stmt} {sts : List Stmt} {p q : Pos} {hds : List ExceptHandler} {l : List (Str × Nat × (List (Str × D) → M Fl))}
      (hC : X.mg x = some (.ref C)) (ap : JF X.K X.mg x (l.map (·.1) ++ xs)) (hg : Gl X x) (hdb : (x == ("__debug__" : Str)) = false) (hi : X.N[i]? = some n) (hln : X.env.kindOf n = some .local)
      (hsu : ∀ (a : Addr) (oe : Obj) (cls : Value) (d : Option Addr) (pn : List (Addr × Obj)), L2N.Zn cls d oe → (∃ vs, oe.data = .fields vs) → PSs (X.suite a ((a, oe) :: pn)) (st :: sts) (lXS X.K X.mg i a cls d x su))
      (r : AsM X xs hds l) : AsM X xs (.ExceptHandler (some (.Name x p)) (some n) (st :: sts) q :: hds) ((x, i, su) :: l)
end Dm
end
section
namespace Dm
open PySem PySem.W PySem.Calls PyProof.Rows HandSHeadRun
end Dm
end
section
namespace Dm
open PySem PySem.Spec PyProof.Rows L2
theorem lX.app {K : PySem.W.Frag} {c : C} {H : Hp} : ∀ {fs gs : List (Str × D)} {vs us : List (Str × V)}, lX K c H fs vs → lX K c H gs us → lX K c H (fs ++ gs) (vs ++ us)
  | [], gs, vs, us, h, g => by
    have e : vs = [] := h
    subst e
    exact g
  | d :: fs, gs, vs, us, h, g => by
    obtain ⟨v, r, e, h1, h2, h3⟩ := (show ∃ v r, vs = v :: r ∧ d.1 = v.1 ∧ Rel K c H d.2 v.2 ∧ lX K c H fs r from h)
    subst e
    exact ⟨v, r ++ us, rfl, h1, h2, h3.app g⟩
theorem lX.grow {K : PySem.W.Frag} {c : C} {H H' : Hp} (g : Grow H H') : ∀ {fs : List (Str × D)} {vs : List (Str × V)}, lX K c H fs vs → lX K c H' fs vs
  | [], vs, h => h
  | d :: fs, vs, h => by
    obtain ⟨v, r, e, h1, h2, h3⟩ := (show ∃ v r, vs = v :: r ∧ d.1 = v.1 ∧ Rel K c H d.2 v.2 ∧ lX K c H fs r from h)
    exact ⟨v, r, e, h1, h2.car (Car.grow g), h3.grow g⟩
end Dm
end
section
namespace Dm
open PySem PySem.Spec PyProof.Rows L2
variable {gp : Prop}
def strsOf : List D → Option (List Str)
  | [] => some []
  | .str x :: r => (strsOf r).map (x :: ·)
  | _ => none
theorem u9 : ∀ xs : List Str, strsOf (xs.map .str) = some xs
  | [] => rfl
  | x :: xs => by
    show (strsOf (xs.map .str)).map (x :: ·) = _
    rw [u9 xs]
    rfl
theorem wO : ∀ {ds : List D} {xs : List Str}, strsOf ds = some xs → ds = xs.map .str
  | [], xs, e => by cases e; rfl
  | d :: ds, xs, e => by
    cases d with
    | str x =>
      have e2 : (strsOf ds).map (x :: ·) = some xs := e
      cases e3 : strsOf ds with
      | none => rw [e3] at e2; cases e2
      | some ys =>
        rw [e3] at e2
        cases e2
        rw [wO e3]
        rfl
    | _ => cases e
theorem wZ {K : PySem.W.Frag} {c : C} {H : Hp} : ∀ {xs : List Str} {vs : List V}, aK K c H (xs.map .str) vs → vs = xs.map V.str
  | [], vs, h => h
  | x :: xs, vs, h => by
    obtain ⟨v, r, e, h1, h2⟩ := (show ∃ v r, vs = v :: r ∧ Rel K c H (.str x) v ∧ aK K c H (xs.map .str) r from h)
    subst e
    rw [wZ h2]
    exact congrArg (· :: _) h1
theorem wN {K : PySem.W.Frag} {c : C} {H : Hp} : ∀ xs : List Str, aK K c H (xs.map .str) (xs.map V.str)
  | [] => rfl
  | x :: xs => ⟨_, _, rfl, rfl, wN xs⟩
def onT {A : Type} (f : Str → Sd → Hd → Res A) : D → Sd → Hd → Res A
  | .str x, s, h => f x s h
  | _, _, _ => .bad
def qu (a b : M D) : M (List D) := fun s h => (a s h).bind (onT fun x s h => (b s h).bind (onT fun y s h => if 0 < y.length ∧ x.length ≤ 100000 then .ok ((Txt.split x y).map .str) s h else .bad))
def oV (x : Str) (h : Hd) (y : D) : Option D := (Hw h y).bind fun ds => (strsOf ds).bind fun ys => if (ys.map (·.length)).sum + ys.length * x.length ≤ 100000 then some (.str (Txt.join x ys)) else none
def uY (a b : M D) : M D := fun s h => (a s h).bind (onT fun x s h => (b s h).bind fun y s h => mOf (oV x h y) s h)
section
variable {X : Cx} {W : WX} {o e : Expr} {ma mb : M D} {apos pos : Pos}
theorem pU (ho : PE X o (lE X.K X.mg W ma)) (he : PE X e (lE X.K X.mg W mb)) (hs : starEach [e] X.env = [(false, eval e X.env)] := by rfl) (hbase : attributeBase o "split" X.env (eval o X.env) = eval o X.env := by rfl) (hline : (apos.endLine == pos.line) = true := by rfl) :
    PE X (.Call (.Attribute o "split" apos) [e] [] pos) (lF X.K X.mg W (qu ma mb)) :=
  aX (pe_split ho he hs hbase hline) fun s H Q ⟨c, sd, h, rs, rh, q⟩ => ⟨c, sd, h, rs, rh, (wF.bind (R := Rel X.K) q).imp fun x H1 ⟨c1, d1, sd1, h1, rs1, rh1, r1, _, q1⟩ => by
    cases d1 with
    | str t =>
      have ex : x = .str t := r1
      subst ex
      refine ⟨⟨_, rfl⟩, c1, sd1, h1, rs1, rh1, (wF.bind (R := Rel X.K) q1).imp fun y H2 ⟨c2, d2, sd2, h2, rs2, rh2, r2, x2, q2⟩ => ?_⟩
      cases d2 with
      | str u =>
        have ey : y = .str u := r2
        subst ey
        have q3 : wF X.K X.mg c2 H2 s Q W (if 0 < u.length ∧ t.length ≤ 100000 then .ok ((Txt.split t u).map .str) sd2 h2 else .bad) := q2
        by_cases hl : 0 < u.length ∧ t.length ≤ 100000
        · rw [if_pos hl] at q3
          refine ⟨t, u, rfl, rfl, by simpa using Nat.pos_iff_ne_zero.mp hl.1, ?_, fun p hp => q3 p _ c2 H2 (Ext.refl _ _) rs2 rh2 (wN _) hp⟩
          have := sizeLine_eq
          omega
        · rw [if_neg hl] at q3
          exact q3.elim
      | _ => exact q2.elim
    | _ => exact q1.elim⟩
theorem qR (ho : PE X o (lE X.K X.mg W ma)) (he : PE X e (lE X.K X.mg W mb)) (hs : starEach [e] X.env = [(false, eval e X.env)] := by rfl) (hbase : attributeBase o "join" X.env (eval o X.env) = eval o X.env := by rfl) (hline : (apos.endLine == pos.line) = true := by rfl) :
    PE X (.Call (.Attribute o "join" apos) [e] [] pos) (lE X.K X.mg W (uY ma mb)) :=
  aX (pe_join ho he hs hbase hline) fun s H Q ⟨c, sd, h, rs, rh, q⟩ => ⟨c, sd, h, rs, rh, (Out.bind (R := Rel X.K) q).imp fun x H1 ⟨c1, d1, sd1, h1, rs1, rh1, r1, _, q1⟩ => by
    cases d1 with
    | str t =>
      have ex : x = .str t := r1
      subst ex
      refine ⟨⟨_, rfl⟩, c1, sd1, h1, rs1, rh1, (Out.bind (R := Rel X.K) q1).imp fun y H2 ⟨c2, d2, sd2, h2, rs2, rh2, r2, x2, q2⟩ => ?_⟩
      unfold oV at q2
      cases e1 : Hw h2 d2 with
      | none => rw [e1] at q2; exact q2.elim
      | some ds =>
        rw [e1, Option.bind_some] at q2
        cases e2 : strsOf ds with
        | none => rw [e2] at q2; exact q2.elim
        | some ys =>
          rw [e2, Option.bind_some] at q2
          obtain ⟨p, vs, ey, hp, rl⟩ := Lf rh2 r2 e1
          rw [wO e2] at rl
          rw [wZ rl] at hp
          by_cases hl : (ys.map (·.length)).sum + ys.length * t.length ≤ 100000
          · rw [if_pos hl] at q2
            exact ⟨t, p, ys, rfl, by rw [ey], hp, by omega, q2 _ c2 H2 (Ext.refl _ _) rs2 rh2 rfl⟩
          · rw [if_neg hl] at q2
            exact q2.elim
    | _ => exact q1.elim⟩
end
def uN (_ : Hd) : List D → Option D
  | [.int i] => if i.natAbs.log2 < 1920 then some (.str (toString i)) else none
  | _ => none
theorem wu {X : Cx} : CallR X (.type "str") (DCl X.K uN) := uF call_str_int fun x H Q ⟨c, h, as, d, rh, ra, e, q⟩ => by
  unfold uN at e
  split at e
  · split at e
    · cases e
      obtain ⟨v, rfl, r⟩ := Gi ra
      cases r
      exact ⟨_, rfl, by assumption, q _ H (fun _ _ z => z) rfl⟩
    · cases e
  · cases e
def Gm (h : Hd) : List D → Option D
  | [.str x] => if x.length ≤ 640 then (intText? x).map .int else none
  | xs => intD h xs
theorem FQ {X : Cx} : CallR X (.type "int") (DCl X.K Gm) := fun pins s σ H xs us Q I rs ⟨c, h, as, d, rh, ra, e, q⟩ => by
  unfold Gm at e
  split at e
  · rename_i x
    split at e
    · obtain ⟨v, rfl, r⟩ := Gi ra
      cases r
      cases e2 : intText? x with
      | none => rw [e2] at e; cases e
      | some n =>
        rw [e2] at e
        cases e
        exact call_int_str pins s σ H _ us Q I rs ⟨x, n, rfl, e2, by assumption, q _ H (fun _ _ z => z) rfl⟩
    · cases e
  · exact Cu pins s σ H xs us Q I rs ⟨c, h, as, d, rh, ra, e, q⟩
def ixT (h : Hd) (a b : D) : Option D := match a, b with
  | .str x, .int i => if x.length ≤ 100000 then (atI x.cps.toList i).map fun k => .str ⟨#[k]⟩ else none
  | a, b => ixD h a b
theorem Ox {X : Cx} : IxR X (DOp X.K ixT) := by
  have base := zq (ix_str (X := X)) (r' := fun x y H Q => ∃ c h z i d, bO X.K c H h ∧ x = .str z ∧ y = .int i ∧ ixT h (.str z) (.int i) = some d ∧ ∀ v H', Grow H H' → Rel X.K c H' d v → Q v H') fun x y H Q ⟨c, h, z, i, d, rh, ex, ey, e, q⟩ => by
    have e2 : (if z.length ≤ 100000 then (atI z.cps.toList i).map fun k => D.str ⟨#[k]⟩ else none) = some d := e
    split at e2
    · cases e3 : atI z.cps.toList i with
      | none => rw [e3] at e2; cases e2
      | some k =>
        rw [e3] at e2
        cases e2
        exact ⟨z, i, k, ex, ey, tH (by assumption), e3, q _ H (fun _ _ z => z) rfl⟩
    · cases e2
  refine zq (base.or tD) fun x y H Q ⟨c, h, a, b, d, rh, ra, rb, e, q⟩ => ?_
  by_cases hs : ∃ z i, a = .str z ∧ b = .int i
  · obtain ⟨z, i, rfl, rfl⟩ := hs
    exact .inl ⟨c, h, z, i, d, rh, ra, rb, e, q⟩
  · refine .inr ⟨c, h, a, b, d, rh, ra, rb, ?_, q⟩
    unfold ixT at e
    split at e
    · rename_i z i
      exact (hs ⟨z, i, rfl, rfl⟩).elim
    · exact e
def slT (h : Hd) (a : D) (lo hi : Option Int) : Option D := match a with
  | .str x => if x.length ≤ 100000 then some (.str (cutS x lo hi)) else none
  | a => slD h a lo hi
def Ub (a : M D) (l u : M (Option Int)) : M D := fun s h => (a s h).bind fun x s h => (l s h).bind fun lo s h => (u s h).bind fun hi s h => mOf (slT h x lo hi) s h
def WM (K : PySem.W.Frag) : V → Option Int → Option Int → Hp → VK → Prop := fun x lo hi H Q => ∃ c h a d, bO K c H h ∧ Rel K c H a x ∧ slT h a lo hi = some d ∧ ∀ v H', Grow H H' → Rel K c H' d v → Q v H'
section
variable {X : Cx} {W : WX}
theorem TY : SlR X (WM X.K) := by
  intro pins s σ H x v vl vu lo hi sl Q I rx hs pl pu ⟨c, h, a, d, rh, ra, e, q⟩
  by_cases hz : ∃ z, a = .str z
  · obtain ⟨z, rfl⟩ := hz
    have e2 : (if z.length ≤ 100000 then some (D.str (cutS z lo hi)) else none) = some d := e
    split at e2
    · cases e2
      exact sl_str pins s σ H x v vl vu lo hi sl Q I rx hs pl pu ⟨z, ra, tH (by assumption), q _ H (fun _ _ z => z) rfl⟩
    · cases e2
  · refine Vm pins s σ H x v vl vu lo hi sl Q I rx hs pl pu ⟨c, h, a, d, rh, ra, ?_, q⟩
    unfold slT at e
    split at e
    · exact (hz ⟨_, rfl⟩).elim
    · exact e
theorem UL {a : Expr} {lo hi : Option Expr} {ma : M D} {ml mh : M (Option Int)} {pos p2 : Pos} (ha : PE X a (lE X.K X.mg W ma)) (hl : PO X lo (lO X.K X.mg W ml)) (hu : PO X hi (lO X.K X.mg W mh)) : PE X (.Subscript a (.Slice lo hi none p2) pos) (lE X.K X.mg W (Ub ma ml mh)) :=
  aX (pe_slice TY ha hl hu) fun s H Q ⟨c, sd, h, rs, rh, q⟩ => ⟨c, sd, h, rs, rh, (Out.bind (R := Rel X.K) q).imp fun x H1 ⟨c1, d1, sd1, h1, rs1, rh1, r1, _, q1⟩ =>
    ⟨c1, sd1, h1, rs1, rh1, (Out.bind (R := eqR) q1).imp fun l H2 ⟨c2, l2, sd2, h2, rs2, rh2, r2, x2, q2⟩ => by
      cases r2
      exact ⟨c2, sd2, h2, rs2, rh2, (Out.bind (R := eqR) q2).imp fun u H3 ⟨c3, u3, sd3, h3, rs3, rh3, r3, x3, q3⟩ => by
        cases r3
        unfold mOf at q3
        cases e : slT h3 d1 l u with
        | none => rw [e] at q3; exact q3.elim
        | some d =>
          rw [e] at q3
          exact ⟨c3, h3, d1, d, rh3, (r1.car x2.car).car x3.car, e, oE rs3 rh3 q3⟩⟩⟩⟩
def kY (x : Str) : List D := x.cps.toList.map fun k => .str ⟨#[k]⟩
def Aj (a : M D) : M (List D) := fun s h => (a s h).bind (onT fun x s h => .ok (kY x) s h)
theorem Qm {tg e : Expr} {ma : M D} (he : PE X e (lE X.K X.mg W ma)) : PI X tg e (lI X.K X.mg W (Aj ma)) :=
  Ac (pi_str he) fun s H R ⟨c, sd, h, rs, rh, q⟩ => ⟨c, sd, h, rs, rh, (Out.bind (R := Rel X.K) q).imp fun x H1 ⟨c1, d1, sd1, h1, rs1, rh1, r1, x1, q1⟩ => by
    cases d1 with
    | str z =>
      have ex : x = .str z := r1
      subst ex
      refine ⟨z, rfl, q1 _ c1 H1 (Ext.refl _ _) rs1 rh1 fun c2 H2 x2 hn => ⟨fun i d e => ?_, ?_⟩⟩
      · have e2 : (z.cps.toList[i]?).map (fun k => D.str ⟨#[k]⟩) = some d := by
          rw [← List.getElem?_map]
          exact e
        cases e3 : z.cps.toList[i]? with
        | none => rw [e3] at e2; cases e2
        | some k =>
          rw [e3] at e2
          cases e2
          have e4 : z.cps[i]? = some k := by simpa using e3
          have hi : i < z.cps.size := (Array.getElem?_eq_some_iff.mp e4).1
          refine ⟨hi, fun y H' ⟨eH, k', ek, ey⟩ => ?_⟩
          subst eH
          rw [e4] at ek
          cases ek
          exact ⟨fun _ _ z => z, ey⟩
      · show (kY z).length ≥ z.cps.size
        simp [kY]
    | _ => exact q1.elim⟩
end
def jV (x : Str) : Nat → Str
  | 0 => Str.empty
  | n + 1 => jV x n ++ x
def Hl (h : Hd) (a b : D) : Option D := match a, b with
  | .str x, .int n => if 2 ≤ n ∧ x.length * n.toNat ≤ 100000 ∧ 0 < x.length then some (.str (jV x n.toNat)) else none
  | a, b => pH h a b
theorem Ba (x : Str) : ∀ (n : Nat) (a : Array Nat), (List.replicate n x.cps).foldl (· ++ ·) a = a ++ (jV x n).cps
  | 0, a => by simp [jV, Str.empty]
  | n + 1, a => by
    rw [List.replicate_succ', List.foldl_append, Ba x n a]
    show (a ++ (jV x n).cps) ++ x.cps = a ++ (jV x n ++ x).cps
    rw [Str.cps_append, Array.append_assoc]
theorem len_rep (x : Str) : ∀ n : Nat, (jV x n).length = x.length * n
  | 0 => by simp [jV, Str.empty, Str.length]
  | n + 1 => by
    show (jV x n ++ x).length = _
    have e : (jV x n ++ x).length = (jV x n).length + x.length := by
      show (jV x n ++ x).cps.size = _
      rw [Str.cps_append, Array.size_append]
      rfl
    rw [e, len_rep x n, Nat.mul_succ]
theorem Ef {X : Cx} : OpR X (binaryOp .Mult) (DOp X.K Hl) := fun pins s σ H v w u t Q I rv rt ⟨c, h, a, b, d, rh, ra, rb, e, hq⟩ => by
  by_cases hs : ∃ x n, a = .str x ∧ b = .int n
  · obtain ⟨x, n, rfl, rfl⟩ := hs
    have e2 : (if 2 ≤ n ∧ x.length * n.toNat ≤ 100000 ∧ 0 < x.length then some (D.str (jV x n.toNat)) else none) = some d := e
    split at e2
    · rename_i hc
      cases e2
      have ev : v = .str x := ra
      have ew : w = .int n := rb
      subst ev ew
      obtain ⟨t1, rfl⟩ := rv
      obtain ⟨t2, rfl⟩ := rt
      obtain ⟨h1, h2, h3⟩ := hc
      have hn : n.toNat ≤ 100000 := Nat.le_trans (Nat.le_mul_of_pos_left _ h3) h2
      have hx : x.length ≤ 100000 := Nat.le_trans (Nat.le_mul_of_pos_right _ (by omega)) h2
      have e1 : (n == 1 || x.length == 0) = false := by
        rw [Bool.or_eq_false_iff]
        exact ⟨by simp; omega, by simp; omega⟩
      refine P.mul_str ?_ (fun _ _ hgt => ?_) (fun _ _ => ?_) ?_
      · rw [Bool.or_eq_false_iff]
        exact ⟨decide_eq_false (by omega), decide_eq_false (by omega)⟩
      · have h5 : (2 ^ 63 - 1 : Int) / n ≥ 100000 := by
          apply Int.le_ediv_of_mul_le (by omega)
          omega
        omega
      · exact decide_eq_false (by have := sizeLine_eq; omega)
      · rw [if_neg (by omega), if_neg (by rw [e1]; decide)]
        rw [Ba]
        have er : (⟨#[] ++ (jV x n.toNat).cps⟩ : Str) = jV x n.toNat := by simp
        rw [er]
        refine ⟨?_, ?_⟩
        · have := sizeLine_eq
          have := len_rep x n.toNat
          omega
        · exact ⟨.str _, H, I.tok _, ⟨_, rfl⟩, hq _ H (fun _ _ z => z) rfl⟩
    · cases e2
  · refine rA pins s σ H v w u t Q I rv rt ⟨c, h, a, b, d, rh, ra, rb, ?_, hq⟩
    unfold Hl at e
    split at e
    · exact (hs ⟨_, _, rfl, rfl⟩).elim
    · exact e
def inT (h : Hd) (x y : D) : Option D := match x, y with
  | .str a, .str z => match a.cps.toList with
    | [k] => some (.bl (decide (k ∈ z.cps.toList)))
    | _ => none
  | x, y => inX h x y
def Rg (h : Hd) (x y : D) : Option D := match x, y with
  | .str a, .str z => match a.cps.toList with
    | [k] => some (.bl (!decide (k ∈ z.cps.toList)))
    | _ => none
  | x, y => O8 h x y
section
variable {X : Cx} {W : WX} {k : Nat}
theorem one_sign {a : Str} {k : Nat} (e : a.cps.toList = [k]) : a = ⟨#[k]⟩ := by
  obtain ⟨l⟩ := a
  have : l = #[k] := Array.toList_inj.mp e
  rw [this]
theorem T5 (q : Cq gp X W k) : OpR X (compareOp .In) (DOp X.K inT) := fun pins s σ H v w u t Q I rv rt ⟨c, h, a, b, d, rh, ra, rb, e, hq⟩ => by
  unfold inT at e
  split at e
  · rename_i a z
    split at e
    · rename_i k hk
      cases e
      rw [one_sign hk] at ra
      exact op_in_sign pins s σ H v w u t Q I rv rt ⟨k, z, ra, rb, hq _ H (fun _ _ z => z) rfl⟩
    · cases e
  · exact Oz q pins s σ H v w u t Q I rv rt ⟨c, h, a, b, d, rh, ra, rb, e, hq⟩
theorem Ot (q : Cq gp X W k) : OpR X (compareOp .NotIn) (DOp X.K Rg) := fun pins s σ H v w u t Q I rv rt ⟨c, h, a, b, d, rh, ra, rb, e, hq⟩ => by
  unfold Rg at e
  split at e
  · rename_i a z
    split at e
    · rename_i k hk
      cases e
      rw [one_sign hk] at ra
      exact op_notIn_sign pins s σ H v w u t Q I rv rt ⟨k, z, ra, rb, hq _ H (fun _ _ z => z) rfl⟩
    · cases e
  · exact Ji q pins s σ H v w u t Q I rv rt ⟨c, h, a, b, d, rh, ra, rb, e, hq⟩
end
section
variable {E : Ex} {s : Sd} {h : Hd} {a b : M D} {ml mh : M (Option Int)} {Q : D → Sd → Hd → Prop} {QL : List D → Sd → Hd → Prop}
theorem Gp {A : Type} {QA : A → Sd → Hd → Prop} {f : Str → Sd → Hd → Res A} {d : D} : Wq QA E () (onT f d s h) = onS (fun x => Wq QA E () (f x s h)) () d := by cases d <;> rfl
theorem y_split : Wq QL E () (qu a b s h) = Wq (fun x s h => onS (fun x => Wq (fun y s h => onS (fun y => (0 < y.length ∧ x.length ≤ 100000) ∧ QL ((Txt.split x y).map .str) s h) () y) E () (b s h)) () x) E () (a s h) := sk fun x s h => by
  rw [Gp]
  cases x with
  | str x =>
    show Wq QL E () (_) = Wq _ E () (b s h)
    exact sk fun y s h => by
      rw [Gp]
      cases y with
      | str y => exact qX
      | _ => rfl
  | _ => rfl
theorem nW : Wq Q E () (uY a b s h) = Wq (fun x s h => onS (fun x => Wq (fun y s h => opQ (fun d => Q d s h) () (oV x h y)) E () (b s h)) () x) E () (a s h) := sk fun x s h => by
  rw [Gp]
  cases x with
  | str x => exact sk fun y s h => Gh
  | _ => rfl
theorem CQ : Wq Q E () (Ub a ml mh s h) = Wq (fun x s h => Wq (fun lo s h => Wq (fun hi s h => opQ (fun d => Q d s h) () (slT h x lo hi)) E () (mh s h)) E () (ml s h)) E () (a s h) := sk fun _ _ _ => sk fun _ _ _ => sk fun _ _ _ => Gh
theorem CT : Wq QL E () (Aj a s h) = Wq (fun x s h => onS (fun x => QL (kY x) s h) () x) E () (a s h) := sk fun x s h => by
  rw [Gp]
  cases x <;> rfl
end
theorem rM {x : Str} {h : Hd} {ys : List Str} (hl : (ys.map (·.length)).sum + ys.length * x.length ≤ 100000) : oV x h (.lst (ys.map .str)) = some (.str (Txt.join x ys)) := by
  show (strsOf (ys.map .str)).bind _ = _
  rw [u9, Option.bind_some, if_pos hl]
theorem Kc {h : Hd} {x : Str} {lo hi : Option Int} (hl : x.length ≤ 100000) : slT h (.str x) lo hi = some (.str (cutS x lo hi)) := if_pos hl
theorem str_int {h : Hd} {i : Int} (hl : i.natAbs.log2 < 1920) : uN h [.int i] = some (.str (toString i)) := if_pos hl
end Dm
end
section
namespace Lw
open PySem PySem.Spec PyProof.Rows L2 Dm
structure Tx (w : World) (K : PySem.W.Frag) (mg : Str → Option Value) : Prop where
  sm : smB K = true
  lU : mg "len" = none
  nQ : mg "range" = none
  wC : mg "str" = none
  Va : mg "all" = none
  yr : mg "int" = none
  uJ : mg "enumerate" = none
  zH : mg "tuple" = none
  QG : mg "list" = none
  Br : mg "repr" = none
  yt : mg "ValueError" = none
  wA : ∃ t, mg "MOST_DIGITS" = some (.int 61 t)
  Ip : ∃ t, mg "DIGITS" = some (.str "0123456789" t)
  zG : ∃ t, mg "MOST_JOBS" = some (.int 8 t)
noncomputable section
variable {gp : Prop} {P : Program} {w : World} {K : PySem.W.Frag} {mg : Str → Option Value} {base : Heap}
theorem vK : FnScope ["self", "line"] ["self", "line"] (defScope dw) := ⟨rfl, rfl, rfl, by decide +kernel, rfl, by decide +kernel, by decide +kernel⟩
theorem vQ {f C : Addr} {fd : FuncData} (F : FunD K "__init__" "ParseError.__init__" (defArgs dw) (defBody dw) (defScope dw) [] [] f fd) (T : Tx w K mg) (TC : CP K C "ValueError") (hno : PySem.W.findIn K (.ref C) "line" = some none) : FnOk P w K mg base (L2N.CX P w) 1 f fd ["self", "line"] (spI C "line") := by
  obtain ⟨oc, od, dV, kV, doc, pm, an, cdv, ct, osl, rfl, lk, hcd, _, _⟩ := F.ex
  refine fn_of lk hcd vK (fun vs H Q E h => by obtain ⟨a, y, e, _⟩ := h; rw [e]; rfl) fun A outer s H vs Q E hr h => ⟨_, pss_cons (ps_expr (G4 (B := "ValueError") rfl T.yt yd.bs.boot yd.bs.ty yd.bs.stub yd.bs.hand (by kernel_rfl) (pa_cons (pe_var (i := 0) rfl (.inl rfl) (by decide) (by decide)) (pa_cons pe_str pa_nil)))) (pss_one (Km (f := "line") (pe_var (i := 0) rfl (.inl rfl) (by decide) (by decide)) (pe_var (i := 1) rfl (.inl rfl) (by decide) (by decide)))), ?_⟩
  obtain ⟨a, y, rfl, ea, q⟩ := h
  exact ⟨.ref a, rfl, a, C, [.str _], rfl, by decide, TC, ea, y, rfl, .ref a, rfl, a, C, _, rfl, TC, hno, .inl ⟨ea, fun dx h1 h2 => q dx h1 h2⟩⟩
abbrev nq : List Str := ["times", "numbers", "parts", "lines", "job", "three", "number"]
theorem sG : FnScope nq ["times"] (defScope bH) := ⟨rfl, rfl, rfl, by decide +kernel, rfl, by decide +kernel, by decide +kernel⟩
def iY : M Fl :=
    (Ep (aC 0) (gTp 2 (gCn (gN 1) (gCn (gN 2) gNl))))
def iW : M Fl :=
    (Gk 3 (uM aN))
def jo : M D :=
    (mCB uN (ak (aC 6) aN))
def jg : M Fl :=
    (bU (jX 5 (uY (mC (.str " ")) (jf (nH (v7 (mSl (aC 1) (dW (aG pH (mC (.int 3)) (aC 4))) (dW (aG cP (aG pH (mC (.int 3)) (aC 4)) (mC (.int 3)))))) [6] (gN 6) yC jo))))
    (Em (zf 3 (aG cP (aG cP (aG cP (aG cP (aG cP (aG cP (mC (.str "job ")) (mCB uN (ak (aC 4) aN))) (mC (.str ": "))) (aC 5)) (mC (.str " / "))) (mCB uN (ak (aC 2) aN))) (mC (.str "\n"))))))
def iV : M Fl :=
    (El (Ek (ak (aG Jt (mCB pO (ak (aC 1) aN)) (mC (.int 3))) aN)) (gN 4)
    jg)
def iU : M Fl :=
    (lg (uY (mC (.str "")) (aC 3)))
def iK : M Fl :=
    (bU iY
    (bU iW
    (bU iV
    (bU (BW 3) iU))))
def cQ : MF := fnM 7 (iK)
theorem sY {f : Addr} {fd : FuncData} (F : FunD K "format_times" "format_times" (defArgs bH) (defBody bH) (defScope bH) [] [] f fd) (gx : mg "format_times" = some (.ref f)) (T : Tx w K mg) : Def gp P w K mg base "format_times" ["times"] 1 cQ := by
  refine gU F gx sG (fun _ _ _ _ _ _ us hl => match us, hl with | [_], _ => rfl) fun cdv A outer s H E q po => ?_
  show PSs _ _ (lS K mg _ iK)
  exact (aq (s_asg (ao 0) (HY q.cm (lC (dJ q.nd) (lC (dJ q.nd) (Az (tg := []))))))
    (aq (DN q.nd (jY au))
    (aq (yM po q.cm (zu T.nQ (aj (aM Kz (cU pX T.lU (by decide +kernel) (aj (ao 1) au)) aA) au)) (dJ q.nd)
    (aq (fG q.nd (qR aF (dN (uo (own := [("number", 6)]) q.cm q.nd (Fg (uZ (ao 1) (cG (aM rA aA (ao 4))) (cG (aM bY (aM rA aA (ao 4)) aA)))) (blkOk_by (own := [("number", 6)]) (N := nq) (sc := defScope bH) (by decide +kernel)) (fun _ _ _ _ _ => (dJ q.blk.nd)) (fun _ _ _ _ _ => rW) (fun _ _ _ _ _ => (aY wu T.wC (by decide +kernel) (aj (ao 6) au)))))))
    (aO (Jc (Jv (i := 3) (aM bY (aM bY (aM bY (aM bY (aM bY (aM bY aF (aY wu T.wC (by decide +kernel) (aj (ao 4) au))) aF) (ao 5)) aF) (aY wu T.wC (by decide +kernel) (aj (ao 2) au))) aF))))))
    (wX (i := 3) (aO (s_ret (qR aF (ao 3))))))))
abbrev nj : List Str := ["text", "sign"]
theorem sE : FnScope nj ["text"] (defScope bG) := ⟨rfl, rfl, rfl, by decide +kernel, rfl, by decide +kernel, by decide +kernel⟩
def jm : M D :=
    (aG inT (aC 1) (mC (.str "0123456789")))
def dF : M Fl :=
    (mIf (mOr (bf (aG eqX (aC 0) (mC (.str "")))) (mOr (bf (aG gtD (mCB pO (ak (aC 0) aN)) (mC (.int 61)))) (Pj (bf (mCB QV (ak (jf (nH (Aj (aC 0)) [1] (gN 1) yC jm)) aN))))))
    (lg (mC .non))
    mNx)
def dD : M Fl :=
    (lg (mIf (mOr (bf (aG eqX (aC 0) (mC (.str "0")))) (bf (aG neD (aG ixT (aC 0) (mC (.int 0))) (mC (.str "0"))))) (mCB Gm (ak (aC 0) aN)) (mC .non)))
def dO : M Fl :=
    (bU dF
    dD)
def bW : MF := fnM 2 (dO)
theorem sX {f : Addr} {fd : FuncData} (F : FunD K "read_integer" "read_integer" (defArgs bG) (defBody bG) (defScope bG) [] [] f fd) (gx : mg "read_integer" = some (.ref f)) (T : Tx w K mg) : Def gp P w K mg base "read_integer" ["text"] 1 bW := by
  refine gU F gx sE (fun _ _ _ _ _ _ us hl => match us, hl with | [_], _ => rfl) fun cdv A outer s H E q po => ?_
  show PSs _ _ (lS K mg _ dO)
  exact (aq (s_if (PW.pt (w_or (cC (mJ q) (ao 0) aF) (w_or (cC Rf (cU pX T.lU (by decide +kernel) (aj (ao 0) au)) (Qy T.wA)) (dB (N8 (N7 (cU (U8 q.cm) T.Va (by decide +kernel) (aj (dN (uo (own := [("sign", 1)]) q.cm q.nd (Qm (ao 0)) (blkOk_by (own := [("sign", 1)]) (N := nj) (sc := defScope bG) (by decide +kernel)) (fun _ _ _ _ _ => (dJ q.blk.nd)) (fun _ _ _ _ _ => rW) (fun _ _ _ _ _ => (Fv (T5 q.blk) (ao 1) (Qx T.Ip))))) au))))))))
    (aO (s_ret yh))
    fD)
    (aO (s_ret (U3 (PW.pt (w_or (cC (mJ q) (ao 0) aF) (dB (cC (Ow q) (rO Ox (ao 0) aA) aF)))) (aY FQ T.yr (by decide +kernel) (aj (ao 0) au)) yh))))
abbrev Cz : List Str := ["text", "lines"]
theorem yJ : FnScope Cz ["text"] (defScope eE) := ⟨rfl, rfl, rfl, by decide +kernel, rfl, by decide +kernel, by decide +kernel⟩
def nZ : M Fl :=
    (jX 1 (jf (qu (aC 0) (mC (.str "\n")))))
def nY : M Fl :=
    (lg (qp (ak (mSl (aC 1) uX (dW (mUn Hh (mC (.int 1))))) (ak (aG ixD (aC 1) (mUn Hh (mC (.int 1)))) aN))))
def pY : M Fl :=
    (bU nZ
    nY)
def jc : MF := fnM 2 (pY)
theorem yS {f : Addr} {fd : FuncData} (F : FunD K "lines_of" "lines_of" (defArgs eE) (defBody eE) (defScope eE) [] [] f fd) (gx : mg "lines_of" = some (.ref f)) (T : Tx w K mg) : Def gp P w K mg base "lines_of" ["text"] 1 jc := by
  refine gU F gx yJ (fun _ _ _ _ _ _ us hl => match us, hl with | [_], _ => rfl) fun cdv A outer s H E q po => ?_
  show PSs _ _ (lS K mg _ pY)
  exact (aq (fG q.nd (dN (pU (ao 0) aF)))
    (aO (s_ret (lJ (aj (uZ (ao 1) fH (cG (Qv Ed aA))) (aj (rO tD (ao 1) (Qv Ed aA)) au))))))
abbrev jr : List Str := ["job", "line", "words", "found", "word"]
theorem oA : FnScope jr ["job", "line"] (defScope aR) := ⟨rfl, rfl, rfl, by decide +kernel, rfl, by decide +kernel, by decide +kernel⟩
def bD : M Fl :=
    (jX 2 (jf (qu (aC 1) (mC (.str " ")))))
def bA : M Fl :=
    (mIf (mOr (bf (aG neX (mCB pO (ak (aC 2) aN)) (mC (.int 7)))) (mOr (bf (aG neX (mSl (aC 2) uX (dW (mC (.int 2)))) (jf (uM (ak (mC (.str "job")) (ak (aG cP (mCB uN (ak (aC 0) aN)) (mC (.str ":"))) aN)))))) (bf (aG neX (aG ixD (aC 2) (mC (.int 5))) (mC (.str "/"))))))
    (lg (mC .non))
    mNx)
def dM : M D :=
    (bL bW (ak (aC 4) aN))
def bx : M Fl :=
    (jX 3 (jf (nH (v7 (aG cP (mSl (aC 2) (dW (mC (.int 2))) (dW (mC (.int 5)))) (mSl (aC 2) (dW (mC (.int 6))) uX))) [4] (gN 4) yC dM)))
def bh : M Fl :=
    (lg (mIf (mOr (bf (aG inX (mC .non) (aC 3))) (bf (aG eqX (aG ixD (aC 3) (mC (.int 3))) (mC (.int 0))))) (mC .non) (aC 3)))
def bK : M Fl :=
    (bU bD
    (bU bA
    (bU bx
    bh)))
def aU : MF := fnM 5 (bK)
theorem oF {f : Addr} {fd : FuncData} (F : FunD K "read_times_line" "read_times_line" (defArgs aR) (defBody aR) (defScope aR) [] [] f fd) (gx : mg "read_times_line" = some (.ref f)) (T : Tx w K mg) (iQ : Def gp P w K mg base "read_integer" ["text"] 1 bW) : Def gp P w K mg base "read_times_line" ["job", "line"] 2 aU := by
  refine gU F gx oA (fun _ _ _ _ _ _ us hl => match us, hl with | [_, _], _ => rfl) fun cdv A outer s H E q po => ?_
  show PSs _ _ (lS K mg _ bK)
  exact (aq (fG q.nd (dN (pU (ao 1) aF)))
    (aq (s_if (PW.pt (w_or (cC (qZ q) (cU pX T.lU (by decide +kernel) (aj (ao 2) au)) aA) (w_or (cC (qZ q) (uZ (ao 2) fH (cG aA)) (dN (jY (aj aF (aj (aM bY (aY wu T.wC (by decide +kernel) (aj (ao 0) au)) aF) au))))) (dB (cC (qZ q) (rO tD (ao 2) aA) aF)))))
    (aO (s_ret yh))
    fD)
    (aq (Dz (own := [("word", 4)]) q.cm q.nd (sw_true rfl rfl rfl (by decide +kernel)) (Fg (aM bY (uZ (ao 2) (cG aA) (cG aA)) (uZ (ao 2) (cG aA) fH))) (blkOk_by (own := [("word", 4)]) (N := jr) (sc := defScope aR) (by decide +kernel)) (fun _ _ _ _ _ => (dJ q.blk.nd)) (fun _ _ _ _ _ => rW) (fun _ _ _ _ _ => (bF iQ q.blk (aj (ao 4) au))))
    (aO (s_ret (U3 (PW.pt (w_or (cC (Oz q) yh (ao 3)) (dB (cC (mJ q) (rO tD (ao 3) aA) aA)))) yh (ao 3)))))))
abbrev wD : List Str := ["text", "lines", "rest", "numbers", "parts", "index", "line", "found"]
theorem uQ : FnScope wD ["text"] (defScope cJ) := ⟨rfl, rfl, rfl, by decide +kernel, rfl, by decide +kernel, by decide +kernel⟩
def jK : M Fl :=
    (Ep (bL jc (ak (aC 0) aN)) (gTp 2 (gCn (gN 1) (gCn (gN 2) gNl))))
def jJ : M Fl :=
    (Ai [3, 4] (mPv (jf (uM aN)) (mPv (mC .non) mPn)))
def jM : M Fl :=
    (bU (jX 7 (bL aU (ak (aC 5) (ak (aC 6) aN))))
    (bU (mIf (mOr (bf (aG Qh (aC 7) (mC .non))) (mOr (bf (aG geD (aC 5) (mC (.int 8)))) (bf (aG O8 (aC 4) (qp (ak (mC .non) (ak (aG ixD (aC 7) (mC (.int 3))) aN)))))))
    (xT "ParseError" "line" (aC 5))
    mNx)
    (Ai [3, 4] (mPv (aG cP (aC 3) (mSl (aC 7) uX (dW (mC (.int 3))))) (mPv (aG ixD (aC 7) (mC (.int 3))) mPn)))))
def jH : M Fl :=
    (El (BX (ak (aC 1) aN)) (gTp 2 (gCn (gN 5) (gCn (gN 6) gNl)))
    jM)
def jG : M Fl :=
    (mIf (mOr (bf (aG eqX (aC 1) (jf (uM aN)))) (bf (aG neD (aC 2) (mC (.str "")))))
    (xT "ParseError" "line" (mCB pO (ak (aC 1) aN)))
    mNx)
def jF : M Fl :=
    (lg (qp (ak (mCB JV (ak (aC 3) aN)) (ak (aC 4) aN))))
def jA : M Fl :=
    (bU jK
    (bU jJ
    (bU jH
    (bU jG
    jF))))
def d9 : MF := fnM 8 (jA)
theorem uU {f : Addr} {fd : FuncData} (F : FunD K "parse_times" "parse_times" (defArgs cJ) (defBody cJ) (defScope cJ) [] [] f fd) (gx : mg "parse_times" = some (.ref f)) (T : Tx w K mg) (qb : Def gp P w K mg base "lines_of" ["text"] 1 jc) (eX : Def gp P w K mg base "read_times_line" ["job", "line"] 2 aU) (cH : XCl P w K mg base "ParseError" "line" (He.ga K "ParseError") "ValueError") : Def gp P w K mg base "parse_times" ["text"] 3 d9 := by
  refine gU F gx uQ (fun _ _ _ _ _ _ us hl => match us, hl with | [_], _ => rfl) fun cdv A outer s H E q po => ?_
  show PSs _ _ (lS K mg _ jA)
  exact (aq (s_asg (bF qb q (aj (ao 0) au)) (HY q.cm (lC (dJ q.nd) (lC (dJ q.nd) (Az (tg := []))))))
    (aq (sH q.cm q.nd (mH (dN (jY au)) (mH yh xq)))
    (aq (yM po q.cm (Jr T.uJ (aj (ao 1) au)) (HY q.cm (lC (dJ q.nd) (lC (dJ q.nd) (Az (tg := [])))))
    (aq (fG q.nd (bF eX q (aj (ao 5) (aj (ao 6) au))))
    (aq (s_if (PW.pt (w_or (cC Wk (ao 7) yh) (w_or (cC Vo (ao 5) (Qy T.zG)) (dB (cC (Ji q) (ao 4) (lJ (aj yh (aj (rO tD (ao 7) aA) au))))))))
    (aO (DG cH q (ao 5)))
    fD)
    (aO (sH q.cm q.nd (mH (aM bY (ao 3) (uZ (ao 7) fH (cG aA))) (mH (rO tD (ao 7) aA) xq)))))))
    (aq (s_if (PW.pt (w_or (cC (mJ q) (ao 1) (dN (jY au))) (dB (cC (Ow q) (ao 2) aF))))
    (aO (DG cH q (cU pX T.lU (by decide +kernel) (aj (ao 1) au))))
    fD)
    (aO (s_ret (lJ (aj (aY Mi T.zH (by decide +kernel) (aj (ao 3) au)) (aj (ao 4) au)))))))))
abbrev Ge : List Str := ["_law_script"]
theorem BJ : FnScope Ge ["_law_script"] (defScope gM) := ⟨rfl, rfl, rfl, by decide +kernel, rfl, by decide +kernel, by decide +kernel⟩
def qd : M Fl :=
    (lg (Pn (uM (ak (jf (vY (ak (mSl (aC 0) uX (dW (mC (.int 63)))) aN))) (ak (mC (.int 0)) (ak (mC (.int 0)) aN))))))
def uI : M Fl :=
    qd
def jd : MF := fnM 1 (uI)
theorem BP {f : Addr} {fd : FuncData} (F : FunD K "_law_pen" "_law_pen" (defArgs gM) (defBody gM) (defScope gM) [] [] f fd) (gx : mg "_law_pen" = some (.ref f)) (T : Tx w K mg) : Def gp P w K mg base "_law_pen" ["_law_script"] 1 jd := by
  refine gU F gx BJ (fun _ _ _ _ _ _ us hl => match us, hl with | [_], _ => rfl) fun cdv A outer s H E q po => ?_
  show PSs _ _ (lS K mg _ uI)
  exact (aO (s_ret (UW (jY (aj (dN (f_list T.QG (aj (uZ (ao 0) fH (cG aA)) au))) (aj aA (aj aA au)))))))
abbrev zJ : List Str := ["_law_pen_here", "_law_seat", "_law_given", "_law_cell", "_law_prime", "_law_state", "_law_found", "_law_lap"]
theorem wV : FnScope zJ ["_law_pen_here"] (defScope dR) := ⟨rfl, rfl, rfl, by decide +kernel, rfl, by decide +kernel, by decide +kernel⟩
def mW : M Fl :=
    (Ai [1, 2] (mPv (aG ixD (aC 0) (mC (.int 1))) (mPv (aG ixD (aC 0) (mC (.int 0))) mPn)))
def mV : M Fl :=
    (xR (aC 0) (mC (.int 1)) (aG cP (aC 1) (mC (.int 1))))
def eZ : M Fl :=
    (jX 3 (mIf (bf (aG neD (aC 2) (jf (uM aN)))) (aG ixD (aC 2) (aG Gj (mCB intD (ak (aC 1) aN)) (mCB pO (ak (aC 2) aN)))) (mC (.int 0))))
def eY : M Fl :=
    (mIf (Py (bf (aG ltD (aC 1) (mCB pO (ak (aC 2) aN)))) (bf (aG geD (aC 3) (aG yQ (mC (.int 10)) (mC (.int 18))))))
    (lg (aG J8 (aC 3) (aG yQ (mC (.int 10)) (mC (.int 18)))))
    mNx)
def mU : M Fl :=
    (jX 4 (mC (.int 2305843009213693951)))
def iH : M Fl :=
    (jX 5 (aG Gj (mCB intD (ak (aG cP (aG cP (aG pH (aC 3) (mC (.int 48271))) (aG pH (mC (.int 60013)) (aC 1))) (mC (.int 31))) aN)) (aC 4)))
def mQ : M Fl :=
    (jX 6 (aC 5))
def fj : M Fl :=
    (bU (jX 5 (aG Gj (mCB intD (ak (aG cP (aG cP (aG pH (aC 5) (aC 5)) (aG pH (aG pH (mC (.int 70139)) (aG cP (aC 7) (mC (.int 5)))) (aG cP (aC 1) (mC (.int 1))))) (aC 3)) aN)) (aC 4)))
    (jX 6 (aG cP (aG pH (aC 6) (aC 4)) (aC 5))))
def mO : M Fl :=
    (El (Ek (ak (mC (.int 6)) aN)) (gN 7)
    fj)
def uO : M Fl :=
    (lg (aC 6))
def jC : M Fl :=
    (bU mW
    (bU mV
    (bU eZ
    (bU eY
    (bU mU
    (bU iH
    (bU mQ
    (bU mO
    uO))))))))
def eU : MF := fnM 8 (jC)
theorem xJ {f : Addr} {fd : FuncData} (F : FunD K "_law_fresh" "_law_fresh" (defArgs dR) (defBody dR) (defScope dR) [] [] f fd) (gx : mg "_law_fresh" = some (.ref f)) (T : Tx w K mg) : Def gp P w K mg base "_law_fresh" ["_law_pen_here"] 1 eU := by
  refine gU F gx wV (fun _ _ _ _ _ _ us hl => match us, hl with | [_], _ => rfl) fun cdv A outer s H E q po => ?_
  show PSs _ _ (lS K mg _ jC)
  exact (aq (sH q.cm q.nd (mH (rO tD (ao 0) aA) (mH (rO tD (ao 0) aA) xq)))
    (aq (Dy (aM bY (ao 1) aA) (ao 0) aA)
    (aq (fG q.nd (U3 (cC (Ow q) (ao 2) (dN (jY au))) (rO tD (ao 2) (aM G8 (aY Cu T.yr (by decide +kernel) (aj (ao 1) au)) (cU pX T.lU (by decide +kernel) (aj (ao 2) au)))) aA))
    (aq (s_if (PW.pt (w_and (cC Vn (ao 1) (cU pX T.lU (by decide +kernel) (aj (ao 2) au))) (wH (cC Vo (ao 3) (aM Ec aA aA)))))
    (aO (s_ret (aM Ky (ao 3) (aM Ec aA aA))))
    fD)
    (aq (fG q.nd aA)
    (aq (fG q.nd (aM G8 (aY Cu T.yr (by decide +kernel) (aj (aM bY (aM bY (aM rA (ao 3) aA) (aM rA aA (ao 1))) aA) au)) (ao 4)))
    (aq (fG q.nd (ao 5))
    (aq (yM po q.cm (zu T.nQ (aj aA au)) (dJ q.nd)
    (aq (fG q.nd (aM G8 (aY Cu T.yr (by decide +kernel) (aj (aM bY (aM bY (aM rA (ao 5) (ao 5)) (aM rA (aM rA aA (aM bY (ao 7) aA)) (aM bY (ao 1) aA))) (ao 3)) au)) (ao 4)))
    (aO (fG q.nd (aM bY (aM rA (ao 6) (ao 4)) (ao 5))))))
    (aO (s_ret (ao 6)))))))))))
abbrev CJ : List Str := ["_law_pen_here", "_law_bound", "_law_digit"]
theorem yL : FnScope CJ ["_law_pen_here", "_law_bound"] (defScope eO) := ⟨rfl, rfl, rfl, by decide +kernel, rfl, by decide +kernel, by decide +kernel⟩
def dG : M Fl :=
    (mIf (bf (aG ltD (aG ixD (aC 0) (mC (.int 2))) (aC 1)))
    (xR (aC 0) (mC (.int 2)) (bL eU (ak (aC 0) aN)))
    mNx)
def d8 : M Fl :=
    (jX 2 (aG Gj (mCB intD (ak (aG ixD (aC 0) (mC (.int 2))) aN)) (aC 1)))
def fX : M Fl :=
    (xR (aC 0) (mC (.int 2)) (aG Jt (mCB intD (ak (aG ixD (aC 0) (mC (.int 2))) aN)) (aC 1)))
def jx : M Fl :=
    (lg (aC 2))
def vC : M Fl :=
    (bU dG
    (bU d8
    (bU fX
    jx)))
def aJ : MF := fnM 3 (vC)
theorem yV {f : Addr} {fd : FuncData} (F : FunD K "_law_draw" "_law_draw" (defArgs eO) (defBody eO) (defScope eO) [] [] f fd) (gx : mg "_law_draw" = some (.ref f)) (T : Tx w K mg) (nU : Def gp P w K mg base "_law_fresh" ["_law_pen_here"] 1 eU) : Def gp P w K mg base "_law_draw" ["_law_pen_here", "_law_bound"] 2 aJ := by
  refine gU F gx yL (fun _ _ _ _ _ _ us hl => match us, hl with | [_, _], _ => rfl) fun cdv A outer s H E q po => ?_
  show PSs _ _ (lS K mg _ vC)
  exact (aq (s_if (cC Vn (rO tD (ao 0) aA) (ao 1))
    (aO (Dy (bF nU q (aj (ao 0) au)) (ao 0) aA))
    fD)
    (aq (fG q.nd (aM G8 (aY Cu T.yr (by decide +kernel) (aj (rO tD (ao 0) aA) au)) (ao 1)))
    (aq (Dy (aM Kz (aY Cu T.yr (by decide +kernel) (aj (rO tD (ao 0) aA) au)) (ao 1)) (ao 0) aA)
    (aO (s_ret (ao 2))))))
abbrev yw : List Str := ["_law_pen_here", "_law_some"]
theorem vI : FnScope yw ["_law_pen_here", "_law_some"] (defScope cZ) := ⟨rfl, rfl, rfl, by decide +kernel, rfl, by decide +kernel, by decide +kernel⟩
def j6 : M Fl :=
    (lg (aG ixD (aC 1) (bL aJ (ak (aC 0) (ak (mCB pO (ak (aC 1) aN)) aN)))))
def lV : M Fl :=
    j6
def bJ : MF := fnM 2 (lV)
theorem vO {f : Addr} {fd : FuncData} (F : FunD K "_law_one_of" "_law_one_of" (defArgs cZ) (defBody cZ) (defScope cZ) [] [] f fd) (gx : mg "_law_one_of" = some (.ref f)) (T : Tx w K mg) (aV : Def gp P w K mg base "_law_draw" ["_law_pen_here", "_law_bound"] 2 aJ) : Def gp P w K mg base "_law_one_of" ["_law_pen_here", "_law_some"] 3 bJ := by
  refine gU F gx vI (fun _ _ _ _ _ _ us hl => match us, hl with | [_, _], _ => rfl) fun cdv A outer s H E q po => ?_
  show PSs _ _ (lS K mg _ lV)
  exact (aO (s_ret (rO tD (ao 1) (bF aV q (aj (ao 0) (aj (cU pX T.lU (by decide +kernel) (aj (ao 1) au)) au))))))
abbrev uK : List Str := ["_law_pen_here", "_law_jobs", "_law_top", "_law_numbers", "_law_time"]
theorem wU : FnScope uK ["_law_pen_here", "_law_jobs"] (defScope cY) := ⟨rfl, rfl, rfl, by decide +kernel, rfl, by decide +kernel, by decide +kernel⟩
def iG : M Fl :=
    (jX 2 (bL bJ (ak (aC 0) (ak (jf (uM (ak (mC (.int 2)) (ak (mC (.int 3)) (ak (mC (.int 6)) (ak (mC (.int 12)) (ak (mC (.int 100)) (ak (aG yQ (mC (.int 10)) (mC (.int 11))) aN)))))))) aN))))
def iI : M D :=
    (bL aJ (ak (aC 0) (ak (aG cP (aC 2) (mC (.int 1))) aN)))
def iD : M Fl :=
    (jX 3 (mCB JV (ak (jf (nH (Ek (ak (aG pH (mC (.int 3)) (aC 1)) aN)) [4] (gN 4) yC iI)) aN)))
def mK : M Fl :=
    (lg (qp (ak (aC 3) (ak (bL bJ (ak (aC 0) (ak (jf (uM (ak (mC (.int 1)) (ak (mC (.int 1)) (ak (mC (.int 1)) (ak (mC (.int 2)) (ak (mC (.int 3)) (ak (mC (.int 10)) aN)))))))) aN))) aN))))
def jB : M Fl :=
    (bU iG
    (bU iD
    mK))
def dU : MF := fnM 5 (jB)
theorem xH {f : Addr} {fd : FuncData} (F : FunD K "_law_times" "_law_times" (defArgs cY) (defBody cY) (defScope cY) [] [] f fd) (gx : mg "_law_times" = some (.ref f)) (T : Tx w K mg) (cI : Def gp P w K mg base "_law_one_of" ["_law_pen_here", "_law_some"] 3 bJ) (aV : Def gp P w K mg base "_law_draw" ["_law_pen_here", "_law_bound"] 2 aJ) : Def gp P w K mg base "_law_times" ["_law_pen_here", "_law_jobs"] 4 dU := by
  refine gU F gx wU (fun _ _ _ _ _ _ us hl => match us, hl with | [_, _], _ => rfl) fun cdv A outer s H E q po => ?_
  show PSs _ _ (lS K mg _ jB)
  exact (aq (fG q.nd (bF cI q (aj (ao 0) (aj (dN (jY (aj aA (aj aA (aj aA (aj aA (aj aA (aj (aM Ec aA aA) au)))))))) au))))
    (aq (fG q.nd (aY Mi T.zH (by decide +kernel) (aj (dN (uo (own := [("_law_time", 4)]) q.cm q.nd (zu T.nQ (aj (aM rA aA (ao 1)) au)) (blkOk_by (own := [("_law_time", 4)]) (N := uK) (sc := defScope cY) (by decide +kernel)) (fun _ _ _ _ _ => (dJ q.blk.nd)) (fun _ _ _ _ _ => rW) (fun _ _ _ _ _ => (bF aV q.blk (aj (ao 0) (aj (aM bY (ao 2) aA) au)))))) au)))
    (aO (s_ret (lJ (aj (ao 3) (aj (bF cI q (aj (ao 0) (aj (dN (jY (aj aA (aj aA (aj aA (aj aA (aj aA (aj aA au)))))))) au))) au)))))))
abbrev o9 : List Str := ["_law_text", "_law_sign"]
theorem uR : FnScope o9 ["_law_text"] (defScope bR) := ⟨rfl, rfl, rfl, by decide +kernel, rfl, by decide +kernel, by decide +kernel⟩
def jQ : M Bool :=
    (bf (aG Rg (aC 1) (mC (.str "0123456789"))))
def jR : M D :=
    (aC 1)
def fL : M Fl :=
    (mIf (mOr (bf (aG eqX (aC 0) (mC (.str "")))) (bf (aG neD (jf (nH (Aj (aC 0)) [1] (gN 1) jQ jR)) (jf (uM aN)))))
    (lg (mC (.bl false)))
    mNx)
def fK : M Fl :=
    (lg (Ui (aG eqX (aC 0) (mC (.str "0"))) (aG neD (aG ixT (aC 0) (mC (.int 0))) (mC (.str "0")))))
def fZ : M Fl :=
    (bU fL
    fK)
def dI : MF := fnM 2 (fZ)
theorem uV {f : Addr} {fd : FuncData} (F : FunD K "_law_figures" "_law_figures" (defArgs bR) (defBody bR) (defScope bR) [] [] f fd) (gx : mg "_law_figures" = some (.ref f)) (T : Tx w K mg) : Def gp P w K mg base "_law_figures" ["_law_text"] 1 dI := by
  refine gU F gx uR (fun _ _ _ _ _ _ us hl => match us, hl with | [_], _ => rfl) fun cdv A outer s H E q po => ?_
  show PSs _ _ (lS K mg _ fZ)
  exact (aq (s_if (PW.pt (w_or (cC (mJ q) (ao 0) aF) (dB (cC (Ow q) (dN (uo (own := [("_law_sign", 1)]) q.cm q.nd (Qm (ao 0)) (blkOk_by (own := [("_law_sign", 1)]) (N := o9) (sc := defScope bR) (by decide +kernel)) (fun _ _ _ _ _ => (dJ q.blk.nd)) (fun _ _ _ _ _ => (IV (cC (Ot q.blk) (ao 1) aF))) (fun _ _ _ _ _ => (ao 1)))) (dN (jY au))))))
    (aO (s_ret U4))
    fD)
    (aO (s_ret (Wy (Fv (mJ q) (ao 0) aF) (Qw (Fv (Ow q) (rO Ox (ao 0) aA) aF))))))
abbrev jU : List Str := ["_law_times_here", "_law_found", "_law_job", "_law_three", "_law_line", "_law_number"]
theorem pq : FnScope jU ["_law_times_here"] (defScope aW) := ⟨rfl, rfl, rfl, by decide +kernel, rfl, by decide +kernel, by decide +kernel⟩
def gA : M Fl :=
    (jX 1 (mC (.str "")))
def gY : M D :=
    (mCB uN (ak (aC 5) aN))
def gR : M Fl :=
    (bU (jX 3 (jf (nH (v7 (mSl (aG ixD (aC 0) (mC (.int 0))) (dW (aG pH (mC (.int 3)) (aC 2))) (dW (aG cP (aG pH (mC (.int 3)) (aC 2)) (mC (.int 3)))))) [5] (gN 5) yC gY)))
    (bU (jX 4 (aG cP (aG cP (aG cP (mC (.str "job ")) (mCB uN (ak (aC 2) aN))) (mC (.str ": "))) (uY (mC (.str " ")) (aC 3))))
    (jX 1 (aG cP (aG cP (aG cP (aG cP (aC 1) (aC 4)) (mC (.str " / "))) (mCB uN (ak (aG ixD (aC 0) (mC (.int 1))) aN))) (mC (.str "\n"))))))
def gq : M Fl :=
    (El (Ek (ak (aG Jt (mCB pO (ak (aG ixD (aC 0) (mC (.int 0))) aN)) (mC (.int 3))) aN)) (gN 2)
    gR)
def gj : M Fl :=
    (lg (aC 1))
def fO : M Fl :=
    (bU gA
    (bU gq
    gj))
def bQ : MF := fnM 6 (fO)
theorem pC {f : Addr} {fd : FuncData} (F : FunD K "_law_times_text" "_law_times_text" (defArgs aW) (defBody aW) (defScope aW) [] [] f fd) (gx : mg "_law_times_text" = some (.ref f)) (T : Tx w K mg) : Def gp P w K mg base "_law_times_text" ["_law_times_here"] 1 bQ := by
  refine gU F gx pq (fun _ _ _ _ _ _ us hl => match us, hl with | [_], _ => rfl) fun cdv A outer s H E q po => ?_
  show PSs _ _ (lS K mg _ fO)
  exact (aq (fG q.nd aF)
    (aq (yM po q.cm (zu T.nQ (aj (aM Kz (cU pX T.lU (by decide +kernel) (aj (rO tD (ao 0) aA) au)) aA) au)) (dJ q.nd)
    (aq (Dz (own := [("_law_number", 5)]) q.cm q.nd (sw_true rfl rfl rfl (by decide +kernel)) (Fg (uZ (rO tD (ao 0) aA) (cG (aM rA aA (ao 2))) (cG (aM bY (aM rA aA (ao 2)) aA)))) (blkOk_by (own := [("_law_number", 5)]) (N := jU) (sc := defScope aW) (by decide +kernel)) (fun _ _ _ _ _ => (dJ q.blk.nd)) (fun _ _ _ _ _ => rW) (fun _ _ _ _ _ => (aY wu T.wC (by decide +kernel) (aj (ao 5) au))))
    (aq (fG q.nd (aM bY (aM bY (aM bY aF (aY wu T.wC (by decide +kernel) (aj (ao 2) au))) aF) (qR aF (ao 3))))
    (aO (fG q.nd (aM bY (aM bY (aM bY (aM bY (ao 1) (ao 4)) aF) (aY wu T.wC (by decide +kernel) (aj (rO tD (ao 0) aA) au))) aF))))))
    (aO (s_ret (ao 1)))))
abbrev fQ : List Str := ["_law_text", "_law_lines", "_law_numbers", "_law_shared", "_law_at", "_law_line", "_law_head", "_law_parts", "_law_part"]
theorem pA : FnScope fQ ["_law_text"] (defScope aP) := ⟨rfl, rfl, rfl, by decide +kernel, rfl, by decide +kernel, by decide +kernel⟩
def gJ : M Fl :=
    (Ai [1, 2, 3] (mPv (jf (qu (aC 0) (mC (.str "\n")))) (mPv (jf (uM aN)) (mPv (mC (.str "")) mPn))))
def gW : M Bool :=
    (mOr (Pj (bf (bL dI (ak (aC 8) aN)))) (bf (aG gtD (mCB pO (ak (aC 8) aN)) (mC (.int 61)))))
def dZ : M D :=
    (mC (.int 1))
def dY : M D :=
    (mCB Gm (ak (aC 8) aN))
def aQ : M Fl :=
    (bU (Ai [6, 7] (mPv (aG cP (aG cP (mC (.str "job ")) (mCB uN (ak (aC 4) aN))) (mC (.str ": "))) (mPv (jf (qu (aC 5) (mC (.str " ")))) mPn)))
    (bU (mIf (mOr (bf (aG gtD (aC 4) (mC (.int 7)))) (mOr (bf (aG neX (Ub (aC 5) uX (dW (mCB pO (ak (aC 6) aN)))) (aC 6))) (bf (aG neX (mCB pO (ak (aC 7) aN)) (mC (.int 7))))))
    (lg (qp (ak (mC (.str "line")) (ak (aC 4) aN))))
    mNx)
    (bU (mIf (mOr (bf (aG neX (aG ixD (aC 7) (mC (.int 5))) (mC (.str "/")))) (bf (aG eqX (aG ixD (aC 7) (mC (.int 6))) (mC (.str "0")))))
    (lg (qp (ak (mC (.str "line")) (ak (aC 4) aN))))
    mNx)
    (bU (mIf (bf (aG neX (jf (nH (v7 (aG cP (mSl (aC 7) (dW (mC (.int 2))) (dW (mC (.int 5)))) (mSl (aC 7) (dW (mC (.int 6))) uX))) [8] (gN 8) gW dZ)) (jf (uM aN))))
    (lg (qp (ak (mC (.str "line")) (ak (aC 4) aN))))
    mNx)
    (bU (mIf (Py (bf (aG gtD (aC 4) (mC (.int 0)))) (bf (aG neX (aG ixD (aC 7) (mC (.int 6))) (aC 3))))
    (lg (qp (ak (mC (.str "line")) (ak (aC 4) aN))))
    mNx)
    (Ai [3, 2] (mPv (aG ixD (aC 7) (mC (.int 6))) (mPv (jf (Hv (aC 2) (jf (nH (v7 (mSl (aC 7) (dW (mC (.int 2))) (dW (mC (.int 5))))) [8] (gN 8) yC dY)))) mPn))))))))
def gH : M Fl :=
    (El (BX (ak (mSl (aC 1) uX (dW (mUn Hh (mC (.int 1))))) aN)) (gTp 2 (gCn (gN 4) (gCn (gN 5) gNl)))
    aQ)
def gG : M Fl :=
    (mIf (mOr (bf (aG eqX (mCB pO (ak (aC 1) aN)) (mC (.int 1)))) (bf (aG neX (aG ixD (aC 1) (mUn Hh (mC (.int 1)))) (mC (.str "")))))
    (lg (qp (ak (mC (.str "line")) (ak (aG J8 (mCB pO (ak (aC 1) aN)) (mC (.int 1))) aN))))
    mNx)
def gD : M Fl :=
    (lg (qp (ak (mC (.str "told")) (ak (qp (ak (mCB JV (ak (aC 2) aN)) (ak (mCB Gm (ak (aC 3) aN)) aN))) aN))))
def fP : M Fl :=
    (bU gJ
    (bU gH
    (bU gG
    gD)))
def cO : MF := fnM 9 (fP)
theorem pD {f : Addr} {fd : FuncData} (F : FunD K "_law_read_times" "_law_read_times" (defArgs aP) (defBody aP) (defScope aP) [] [] f fd) (gx : mg "_law_read_times" = some (.ref f)) (T : Tx w K mg) (jE : Def gp P w K mg base "_law_figures" ["_law_text"] 1 dI) : Def gp P w K mg base "_law_read_times" ["_law_text"] 2 cO := by
  refine gU F gx pA (fun _ _ _ _ _ _ us hl => match us, hl with | [_], _ => rfl) fun cdv A outer s H E q po => ?_
  show PSs _ _ (lS K mg _ fP)
  exact (aq (Oe q.cm q.nd (mH (dN (pU (ao 0) aF)) (mH (dN (jY au)) (mH aF xq))))
    (aq (yM po q.cm (Jr T.uJ (aj (uZ (ao 1) fH (cG (Qv Ed aA))) au)) (HY q.cm (lC (dJ q.nd) (lC (dJ q.nd) (Az (tg := [])))))
    (aq (sH q.cm q.nd (mH (aM bY (aM bY aF (aY wu T.wC (by decide +kernel) (aj (ao 4) au))) aF) (mH (dN (pU (ao 5) aF)) xq)))
    (aq (s_if (PW.pt (w_or (cC Rf (ao 4) aA) (w_or (cC (qZ q) (UL (ao 5) fH (cG (cU pX T.lU (by decide +kernel) (aj (ao 6) au)))) (ao 6)) (dB (cC (qZ q) (cU pX T.lU (by decide +kernel) (aj (ao 7) au)) aA)))))
    (aO (s_ret (lJ (aj aF (aj (ao 4) au)))))
    fD)
    (aq (s_if (PW.pt (w_or (cC (qZ q) (rO tD (ao 7) aA) aF) (dB (cC (mJ q) (rO tD (ao 7) aA) aF))))
    (aO (s_ret (lJ (aj aF (aj (ao 4) au)))))
    fD)
    (aq (s_if (cC (qZ q) (dN (uo (own := [("_law_part", 8)]) q.cm q.nd (Fg (aM bY (uZ (ao 7) (cG aA) (cG aA)) (uZ (ao 7) (cG aA) fH))) (blkOk_by (own := [("_law_part", 8)]) (N := fQ) (sc := defScope aP) (by decide +kernel)) (fun _ _ _ _ _ => (dJ q.blk.nd)) (fun _ _ _ _ _ => (IV (PW.pt (w_or (N8 (N7 (bF jE q.blk (aj (ao 8) au)))) (dB (cC Rf (cU pX T.lU (by decide +kernel) (aj (ao 8) au)) aA)))))) (fun _ _ _ _ _ => aA))) (dN (jY au)))
    (aO (s_ret (lJ (aj aF (aj (ao 4) au)))))
    fD)
    (aq (s_if (PW.pt (w_and (cC Rf (ao 4) aA) (wH (cC (qZ q) (rO tD (ao 7) aA) (ao 3)))))
    (aO (s_ret (lJ (aj aF (aj (ao 4) au)))))
    fD)
    (aO (sH q.cm q.nd (mH (rO tD (ao 7) aA) (mH (dN (zE (ao 2) (dN (uo (own := [("_law_part", 8)]) q.cm q.nd (Fg (uZ (ao 7) (cG aA) (cG aA))) (blkOk_by (own := [("_law_part", 8)]) (N := fQ) (sc := defScope aP) (by decide +kernel)) (fun _ _ _ _ _ => (dJ q.blk.nd)) (fun _ _ _ _ _ => rW) (fun _ _ _ _ _ => (aY FQ T.yr (by decide +kernel) (aj (ao 8) au))))))) xq))))))))))
    (aq (s_if (PW.pt (w_or (cC (mJ q) (cU pX T.lU (by decide +kernel) (aj (ao 1) au)) aA) (dB (cC (qZ q) (rO tD (ao 1) (Qv Ed aA)) aF))))
    (aO (s_ret (lJ (aj aF (aj (aM Ky (cU pX T.lU (by decide +kernel) (aj (ao 1) au)) aA) au)))))
    fD)
    (aO (s_ret (lJ (aj aF (aj (lJ (aj (aY Mi T.zH (by decide +kernel) (aj (ao 2) au)) (aj (aY FQ T.yr (by decide +kernel) (aj (ao 3) au)) au))) au))))))))
abbrev CG : List Str := ["_law_text", "_law_found", "e"]
theorem yK : FnScope CG ["_law_text"] (defScope eG) := ⟨rfl, rfl, rfl, by decide +kernel, rfl, by decide +kernel, by decide +kernel⟩
def ju : List (Str × D) → M Fl :=
    fun fs => (lg (qp (ak (mC (.str "line")) (ak (Pr fs "line") aN))))
def ou : M Fl :=
    (Pg [] "ParseError" 2
    (jX 1 (bL d9 (ak (aC 0) aN)))
    ju)
def oh : M Fl :=
    (lg (qp (ak (mC (.str "told")) (ak (aC 1) aN))))
def pZ : M Fl :=
    (bU ou
    oh)
def aH : MF := fnM 3 (pZ)
theorem yU {f : Addr} {fd : FuncData} (F : FunD K "_law_told" "_law_told" (defArgs eG) (defBody eG) (defScope eG) [] [] f fd) (gx : mg "_law_told" = some (.ref f)) (T : Tx w K mg) (jD : Def gp P w K mg base "parse_times" ["text"] 3 d9) (cH : XCl P w K mg base "ParseError" "line" (He.ga K "ParseError") "ValueError") (lZ : JF K mg "ParseError" []) : Def gp P w K mg base "_law_told" ["_law_text"] 4 aH := by
  refine gU F gx yK (fun _ _ _ _ _ _ us hl => match us, hl with | [_], _ => rfl) fun cdv A outer s H E q po => ?_
  show PSs _ _ (lS K mg _ pZ)
  exact (aq (Od (i := 2) q cH.at_ lZ (fun W' pn xe q po => (aO (fG q.nd (bF jD q (aj (ao 0) au)))))
    (fun a oe cls d pn hz hf => (JL (Nv (mf := fun fs => (qp (ak (mC (.str "line")) (ak (Pr fs "line") aN)))) fun fs => (Td (CV (Wg aF) (CV (Tf (i := 2) cH hz.zc hf) Nz)))))))
    (aO (s_ret (lJ (aj aF (aj (ao 1) au))))))
abbrev yx : List Str := ["_law_pen_here", "_law_text", "_law_lines", "_law_option", "_law_at", "_law_other", "_law_parts", "_law_spot", "_law_some", "_law_word"]
theorem vJ : FnScope yx ["_law_pen_here", "_law_text"] (defScope dh) := ⟨rfl, rfl, rfl, by decide +kernel, rfl, by decide +kernel, by decide +kernel⟩
def kW : M Fl :=
    (Ai [2, 3] (mPo (qu (aC 1) (mC (.str "\n"))) (mPv (bL aJ (ak (aC 0) (ak (mC (.int 9)) aN))) mPn)))
def kJ : M Fl :=
    (Ai [4, 5] (mPv (bL aJ (ak (aC 0) (ak (vZ 2) aN))) (mPv (bL aJ (ak (aC 0) (ak (vZ 2) aN))) mPn)))
def d7 : M Fl :=
    (mIf (bf (aG eqX (aC 3) (mC (.int 0))))
    (bU (BW 2) (lg (uY (mC (.str "\n")) (aG cP (mSl (aC 2) uX (dW (aC 4))) (mSl (aC 2) (dW (aG cP (aC 4) (mC (.int 1)))) uX)))))
    mNx)
def gK : M Fl :=
    (mIf (bf (aG eqX (aC 3) (mC (.int 1))))
    (bU (BW 2) (lg (uY (mC (.str "\n")) (jf (Hv (jf (Hv (mSl (aC 2) uX (dW (aC 4))) (jf (uM (ak (aG ixD (aC 2) (aC 5)) aN))))) (mSl (aC 2) (dW (aC 4)) uX))))))
    mNx)
def kE : M Fl :=
    (Gk 6 (qu (Pq 2 (aC 4)) (mC (.str " "))))
def kh : M Fl :=
    (jX 7 (bL aJ (ak (aC 0) (ak (aG cP (vZ 6) (mC (.int 1))) aN))))
def j9 : M Fl :=
    (jX 8 (jf (uM (ak (mC (.str "job")) (ak (mC (.str "0:")) (ak (mC (.str "1:")) (ak (mC (.str "0")) (ak (mC (.str "00")) (ak (mC (.str "1")) (ak (mC (.str "7")) (ak (mC (.str "/")) (ak (mC (.str "")) (ak (mC (.str "1_0")) (ak (mC (.str "-1")) (ak (mC (.str "x")) (ak (aG Hl (mC (.str "9")) (mC (.int 61))) (ak (aG Hl (mC (.str "9")) (mC (.int 62))) (ak (mC (.str "Job")) (ak (mC (.str ":")) (ak (mC (.str "8:")) aN))))))))))))))))))))
def j8 : M Fl :=
    (jX 9 (bL bJ (ak (aC 0) (ak (jf (Hv (aC 8) (jf (uM (ak (mC (.str "JOB")) (ak (mC (.str "1\t2")) (ak (mC (.str "\t")) aN))))))) aN))))
def cD : M Fl :=
    (mIf (mOr (bf (aG eqX (aC 3) (mC (.int 2)))) (bf (aG eqX (aC 7) (vZ 6))))
    (bU (BW 6) (Gk 6 (Hv (jf (Hv (mSl (aC 6) uX (dW (aC 7))) (jf (uM (ak (aC 9) aN))))) (mSl (aC 6) (dW (aC 7)) uX))))
    (mIf (bf (aG eqX (aC 3) (mC (.int 3))))
    (bU (BW 6) (Gk 6 (Hv (mSl (aC 6) uX (dW (aC 7))) (mSl (aC 6) (dW (aG cP (aC 7) (mC (.int 1)))) uX))))
    (Hr 6 (aC 7) (aC 9))))
def j7 : M Fl :=
    (Hr 2 (aC 4) (uY (mC (.str " ")) (aC 6)))
def jL : M Fl :=
    (lg (aG cP (uY (mC (.str "\n")) (aC 2)) (bL bJ (ak (aC 0) (ak (jf (uM (ak (mC (.str "")) (ak (mC (.str "")) (ak (mC (.str "")) (ak (mC (.str "\n")) (ak (mC (.str " ")) (ak (mC (.str "job 0: 0 0 0 / 1")) aN)))))))) aN)))))
def lW : M Fl :=
    (bU kW
    (bU kJ
    (bU d7
    (bU gK
    (bU kE
    (bU kh
    (bU j9
    (bU j8
    (bU cD
    (bU (BW 6) (bU j7
    (bU (BW 2) jL))))))))))))
def fJ : MF := fnM 10 (lW)
theorem vP {f : Addr} {fd : FuncData} (F : FunD K "_law_marred" "_law_marred" (defArgs dh) (defBody dh) (defScope dh) [] [] f fd) (gx : mg "_law_marred" = some (.ref f)) (T : Tx w K mg) (aV : Def gp P w K mg base "_law_draw" ["_law_pen_here", "_law_bound"] 2 aJ) (cI : Def gp P w K mg base "_law_one_of" ["_law_pen_here", "_law_some"] 3 bJ) : Def gp P w K mg base "_law_marred" ["_law_pen_here", "_law_text"] 4 fJ := by
  refine gU F gx vJ (fun _ _ _ _ _ _ us hl => match us, hl with | [_, _], _ => rfl) fun cdv A outer s H E q po => ?_
  show PSs _ _ (lS K mg _ lW)
  exact (aq (sH q.cm q.nd (TV (pU (ao 1) aF) (mH (bF aV q (aj (ao 0) (aj aA au))) xq)))
    (aq (sH q.cm q.nd (mH (bF aV q (aj (ao 0) (aj (Bh (i := 2) T.lU) au))) (mH (bF aV q (aj (ao 0) (aj (Bh (i := 2) T.lU) au))) xq)))
    (aq (s_if (cC (mJ q) (ao 3) aA)
    (wX (i := 2) (aO (s_ret (qR aF (aM bY (uZ (ao 2) fH (cG (ao 4))) (uZ (ao 2) (cG (aM bY (ao 4) aA)) fH))))))
    fD)
    (aq (s_if (cC (mJ q) (ao 3) aA)
    (wX (i := 2) (aO (s_ret (qR aF (dN (zE (dN (zE (uZ (ao 2) fH (cG (ao 4))) (dN (jY (aj (rO tD (ao 2) (ao 5)) au))))) (uZ (ao 2) (cG (ao 4)) fH)))))))
    fD)
    (aq (DN q.nd (pU (U0 (i := 2) (ao 4)) aF))
    (aq (fG q.nd (bF aV q (aj (ao 0) (aj (aM bY (Bh (i := 6) T.lU) aA) au))))
    (aq (fG q.nd (dN (jY (aj aF (aj aF (aj aF (aj aF (aj aF (aj aF (aj aF (aj aF (aj aF (aj aF (aj aF (aj aF (aj (aM Ef aF aA) (aj (aM Ef aF aA) (aj aF (aj aF (aj aF au))))))))))))))))))))
    (aq (fG q.nd (bF cI q (aj (ao 0) (aj (dN (zE (ao 8) (dN (jY (aj aF (aj aF (aj aF au))))))) au))))
    (aq (s_if (PW.pt (w_or (cC (mJ q) (ao 3) aA) (dB (cC (mJ q) (ao 7) (Bh (i := 6) T.lU)))))
    (wX (i := 6) (aO (DN q.nd (zE (dN (zE (uZ (ao 6) fH (cG (ao 7))) (dN (jY (aj (ao 9) au))))) (uZ (ao 6) (cG (ao 7)) fH)))))
    (aO (s_if (cC (mJ q) (ao 3) aA)
    (wX (i := 6) (aO (DN q.nd (zE (uZ (ao 6) fH (cG (ao 7))) (uZ (ao 6) (cG (aM bY (ao 7) aA)) fH)))))
    (aO (Jb (i := 6) (ao 9) (ao 7))))))
    (wX (i := 6) (aq (Jb (i := 2) (qR aF (ao 6)) (ao 4))
    (wX (i := 2) (aO (s_ret (aM bY (qR aF (ao 2)) (bF cI q (aj (ao 0) (aj (dN (jY (aj aF (aj aF (aj aF (aj aF (aj aF (aj aF au)))))))) au))))))))))))))))))
abbrev QZ : List Str := ["_law_script", "_law_pen_here", "_law_lap", "_law_times_here", "_law_text", "_law_turn", "_law_nine", "_law_found", "_law_job"]
theorem Oc : FnScope QZ ["_law_script"] (defScope wW) := ⟨rfl, rfl, rfl, by decide +kernel, rfl, by decide +kernel, by decide +kernel⟩
def zX : M Fl :=
    (jX 1 (bL jd (ak (aC 0) aN)))
def wg : M Fl :=
    (bU (jX 4 (bL fJ (ak (aC 1) (ak (aC 4) aN))))
    (mIf (bf (aG neX (mCB qY (ak (bL aH (ak (aC 4) aN)) aN)) (mCB qY (ak (bL cO (ak (aC 4) aN)) aN))))
    (lg (mC (.bl false)))
    mNx))
def Aq : M Fl :=
    (bU (jX 3 (bL dU (ak (aC 1) (ak (aG cP (mC (.int 1)) (bL aJ (ak (aC 1) (ak (mC (.int 8)) aN)))) aN))))
    (bU (mIf (bf (aG eqX (bL aJ (ak (aC 1) (ak (mC (.int 5)) aN))) (mC (.int 0))))
    (jX 3 (qp (ak (aG cP (mSl (aG ixD (aC 3) (mC (.int 0))) uX (dW (mUn Hh (mC (.int 1))))) (qp (ak (aG J8 (aG yQ (mC (.int 10)) (mC (.int 61))) (mC (.int 1))) aN))) (ak (aG cP (aG yQ (mC (.int 10)) (mC (.int 60))) (bL aJ (ak (aC 1) (ak (mC (.int 10)) aN)))) aN))))
    mNx)
    (bU (jX 4 (bL bQ (ak (aC 3) aN)))
    (bU (mIf (mOr (bf (aG neX (bL cQ (ak (aC 3) aN)) (aC 4))) (bf (aG neX (mCB qY (ak (bL aH (ak (aC 4) aN)) aN)) (mCB qY (ak (qp (ak (mC (.str "told")) (ak (aC 3) aN))) aN)))))
    (lg (mC (.bl false)))
    mNx)
    (El (Ek (ak (mC (.int 4)) aN)) (gN 5)
    wg)))))
def zW : M Fl :=
    (El (Ek (ak (mC (.int 5)) aN)) (gN 2)
    Aq)
def Bp : M D :=
    (aG cP (aG cP (mC (.str "job ")) (mCB uN (ak (aC 8) aN))) (mC (.str ": 1 2 3 / 4\n")))
def zV : M Fl :=
    (jX 6 (uY (mC (.str "")) (jf (nH (Ek (ak (mC (.int 9)) aN)) [8] (gN 8) yC Bp))))
def zU : M Fl :=
    (Gk 7 (uM (ak (bL aH (ak (mC (.str "")) aN)) (ak (bL aH (ak (mC (.str "\n")) aN)) (ak (bL aH (ak (mC (.str "job 0: 1 2 3 / 1")) aN)) (ak (bL aH (ak (mC (.str "job 0: 1 2 3 / 0\n")) aN)) aN))))))
def zR : M Fl :=
    (Em (zf 7 (bL aH (ak (aG cP (aG cP (mC (.str "job 0: 1 2 ")) (aG Hl (mC (.str "3")) (mC (.int 5000)))) (mC (.str " / 1\n"))) aN))))
def zQ : M Fl :=
    (lg (Ld (aG eqX (aC 7) (jf (Ph (uM (ak (qp (ak (mC (.str "line")) (ak (mC (.int 0)) aN))) aN)) (mC (.int 5))))) (aG eqX (bL aH (ak (aC 6) aN)) (qp (ak (mC (.str "line")) (ak (mC (.int 8)) aN))))))
def Ml : M Fl :=
    (bU zX
    (bU zW
    (bU zV
    (bU zU
    (bU zR
    (bU (BW 7) zQ))))))
def xQ : MF := fnM 9 (Ml)
theorem Om {f : Addr} {fd : FuncData} (F : FunD K "law" "law" (defArgs wW) (defBody wW) (defScope wW) [] [] f fd) (T : Tx w K mg) (uL : Def True P w K mg base "_law_pen" ["_law_script"] 1 jd) (nR : Def True P w K mg base "_law_times" ["_law_pen_here", "_law_jobs"] 4 dU) (aV : Def True P w K mg base "_law_draw" ["_law_pen_here", "_law_bound"] 2 aJ) (fU : Def True P w K mg base "_law_times_text" ["_law_times_here"] 1 bQ) (iT : Def True P w K mg base "format_times" ["times"] 1 cQ) (cR : Def True P w K mg base "_law_told" ["_law_text"] 4 aH) (lY : Def True P w K mg base "_law_marred" ["_law_pen_here", "_law_text"] 4 fJ) (fV : Def True P w K mg base "_law_read_times" ["_law_text"] 2 cO) : FOk True P w K mg base 5 f fd ["_law_script"] xQ := by
  refine Jx F Oc fun cdv A outer s H E q po => ?_
  show PSs _ _ (lS K mg _ Ml)
  exact (aq (fG q.nd (bF uL q (aj (ao 0) au)))
    (aq (yM po q.cm (zu T.nQ (aj aA au)) (dJ q.nd)
    (aq (fG q.nd (bF nR q (aj (ao 1) (aj (aM bY aA (bF aV q (aj (ao 1) (aj aA au)))) au))))
    (aq (s_if (cC (mJ q) (bF aV q (aj (ao 1) (aj aA au))) aA)
    (aO (fG q.nd (lJ (aj (aM bY (uZ (rO tD (ao 3) aA) fH (cG (Qv Ed aA))) (lJ (aj (aM Ky (aM Ec aA aA) aA) au))) (aj (aM bY (aM Ec aA aA) (bF aV q (aj (ao 1) (aj aA au)))) au)))))
    fD)
    (aq (fG q.nd (bF fU q (aj (ao 3) au)))
    (aq (s_if (PW.pt (w_or (cC (qZ q) (bF iT q (aj (ao 3) au)) (ao 4)) (dB (cC (qZ q) (cU (wz q T.sm) T.Br (by decide +kernel) (aj (bF cR q (aj (ao 4) au)) au)) (cU (wz q T.sm) T.Br (by decide +kernel) (aj (lJ (aj aF (aj (ao 3) au))) au))))))
    (aO (s_ret U4))
    fD)
    (aO (yM po q.cm (zu T.nQ (aj aA au)) (dJ q.nd)
    (aq (fG q.nd (bF lY q (aj (ao 1) (aj (ao 4) au))))
    (aO (s_if (cC (qZ q) (cU (wz q T.sm) T.Br (by decide +kernel) (aj (bF cR q (aj (ao 4) au)) au)) (cU (wz q T.sm) T.Br (by decide +kernel) (aj (bF fV q (aj (ao 4) au)) au)))
    (aO (s_ret U4))
    fD))))))))))
    (aq (fG q.nd (qR aF (dN (uo (own := [("_law_job", 8)]) q.cm q.nd (zu T.nQ (aj aA au)) (blkOk_by (own := [("_law_job", 8)]) (N := QZ) (sc := defScope wW) (by decide +kernel)) (fun _ _ _ _ _ => (dJ q.blk.nd)) (fun _ _ _ _ _ => rW) (fun _ _ _ _ _ => (aM bY (aM bY aF (aY wu T.wC (by decide +kernel) (aj (ao 8) au))) aF))))))
    (aq (DN q.nd (jY (aj (bF cR q (aj aF au)) (aj (bF cR q (aj aF au)) (aj (bF cR q (aj aF au)) (aj (bF cR q (aj aF au)) au))))))
    (aq (Jc (Jv (i := 7) (bF cR q (aj (aM bY (aM bY aF (aM Ef aF aA)) aF) au))))
    (wX (i := 7) (aO (s_ret (U5 (Fv (mJ q) (ao 7) (dN (Uz (es := []) (jY (aj (lJ (aj aF (aj aA au))) au)) aA))) (Qw (Fv (mJ q) (bF cR q (aj (ao 6) au)) (lJ (aj aF (aj aA au))))))))))))))
end
end Lw
end
section
set_option maxHeartbeats 0
namespace Lw
open PySem PySem.Spec PyProof.Rows L2 Dm
theorem facts {P : Program} {w : World} {K : PySem.W.Frag} {h : Heap} {mg : Str → Option Value} {f : Addr} (X : K.In h) (G : h.Ns mainGlobals mg) (hfa : mg ("law" : Str) = some (.ref f)) (c2 : Iv faL fnL [] more h K) :
    ∃ fd : FuncData, (∀ (s : Shared) (v : Value), BindsTo s fd ⟨[v], []⟩ [("_law_script", v)]) ∧ ∀ base : Heap, FOk True P w K mg base 5 f fd ["_law_script"] xQ := by
  have c := c2.d
  obtain ⟨fd0, F0⟩ := c.def_ 0 (d := lQ) rfl
  obtain ⟨fd1, F1⟩ := c.def_ 1 (d := lK) rfl
  obtain ⟨fd2, F2⟩ := c.def_ 2 (d := ux) rfl
  obtain ⟨fd3, F3⟩ := c.def_ 3 (d := iz) rfl
  obtain ⟨fd4, F4⟩ := c.def_ 4 (d := mY) rfl
  obtain ⟨fd5, F5⟩ := c.def_ 5 (d := vB) rfl
  obtain ⟨fd6, F6⟩ := c.def_ 6 (d := qU) rfl
  obtain ⟨fd7, F7⟩ := c.def_ 7 (d := uD) rfl
  obtain ⟨fd8, F8⟩ := c.def_ 8 (d := oY) rfl
  obtain ⟨fd9, F9⟩ := c.def_ 9 (d := qT) rfl
  obtain ⟨W3, F10⟩ := c.def_ 10 (d := mZ) rfl
  obtain ⟨WY, F11⟩ := c.def_ 11 (d := ji) rfl
  obtain ⟨WW, F12⟩ := c.def_ 12 (d := jk) rfl
  obtain ⟨WT, F13⟩ := c.def_ 13 (d := uz) rfl
  obtain ⟨WR, F14⟩ := c.def_ 14 (d := oZ) rfl
  obtain ⟨Wx, F15⟩ := c.def_ 15 (d := Jy) rfl
  obtain ⟨WQ, F16⟩ := c.def_ 16 (d := o7) rfl
  have T : Tx w K mg := ⟨yX c2.more 0 rfl, He.free_ok X G (c.fact 16 (f := .free "len") rfl), He.free_ok X G (c.fact 17 (f := .free "range") rfl), He.free_ok X G (c.fact 18 (f := .free "str") rfl), He.free_ok X G (c.fact 19 (f := .free "all") rfl), He.free_ok X G (c.fact 20 (f := .free "int") rfl), He.free_ok X G (c.fact 21 (f := .free "enumerate") rfl), He.free_ok X G (c.fact 22 (f := .free "tuple") rfl), He.free_ok X G (c.fact 23 (f := .free "list") rfl), He.free_ok X G (c.fact 24 (f := .free "repr") rfl), He.free_ok X G (c.fact 25 (f := .free "ValueError") rfl), He.int_ok X G (c.fact 26 (f := .int "MOST_DIGITS" 61) rfl), He.str_ok X G (c.fact 27 (f := .str "DIGITS" "0123456789") rfl), He.int_ok X G (c.fact 28 (f := .int "MOST_JOBS" 8) rfl)⟩
  have qW := He.glo_ok X G (c.fact 29 (f := .glo "ParseError") rfl)
  have lZ : JF K mg "ParseError" [] := Mp qW (fun y hy => by cases hy) (yX c2.more 2 rfl)
  have e := hfa.symm.trans (He.glo_ok X G (c.fact 15 (f := .glo "law") rfl))
  cases e
  have bl := FunD.bindsA (ps := ["_law_script"]) F15 fun _ _ _ _ _ _ us hl => match us, hl with | [_], _ => rfl
  refine ⟨Wx, fun s v => bl s [v] rfl, fun base => ?_⟩
  have cH : XCl P w K mg base "ParseError" "line" (He.ga K "ParseError") "ValueError" := Ny yd qW (yX c2.more 1 rfl) (F16.bindsN fun _ _ _ _ _ _ us hl => match us, hl with | [_, _], _ => rfl) fun TC hno => vQ F16 T TC hno
  have iT := sY (gp := True) (P := P) (w := w) (base := base) F0 (He.glo_ok X G (c.fact 0 (f := .glo "format_times") rfl)) T
  have iQ := sX (gp := True) (P := P) (w := w) (base := base) F1 (He.glo_ok X G (c.fact 1 (f := .glo "read_integer") rfl)) T
  have qb := yS (gp := True) (P := P) (w := w) (base := base) F2 (He.glo_ok X G (c.fact 2 (f := .glo "lines_of") rfl)) T
  have eX := oF (gp := True) (P := P) (w := w) (base := base) F3 (He.glo_ok X G (c.fact 3 (f := .glo "read_times_line") rfl)) T iQ
  have jD := uU (gp := True) (P := P) (w := w) (base := base) F4 (He.glo_ok X G (c.fact 4 (f := .glo "parse_times") rfl)) T qb eX cH
  have uL := BP (gp := True) (P := P) (w := w) (base := base) F5 (He.glo_ok X G (c.fact 5 (f := .glo "_law_pen") rfl)) T
  have nU := xJ (gp := True) (P := P) (w := w) (base := base) F6 (He.glo_ok X G (c.fact 6 (f := .glo "_law_fresh") rfl)) T
  have aV := yV (gp := True) (P := P) (w := w) (base := base) F7 (He.glo_ok X G (c.fact 7 (f := .glo "_law_draw") rfl)) T nU
  have cI := vO (gp := True) (P := P) (w := w) (base := base) F8 (He.glo_ok X G (c.fact 8 (f := .glo "_law_one_of") rfl)) T aV
  have nR := xH (gp := True) (P := P) (w := w) (base := base) F9 (He.glo_ok X G (c.fact 9 (f := .glo "_law_times") rfl)) T cI aV
  have jE := uV (gp := True) (P := P) (w := w) (base := base) F10 (He.glo_ok X G (c.fact 10 (f := .glo "_law_figures") rfl)) T
  have fU := pC (gp := True) (P := P) (w := w) (base := base) F11 (He.glo_ok X G (c.fact 11 (f := .glo "_law_times_text") rfl)) T
  have fV := pD (gp := True) (P := P) (w := w) (base := base) F12 (He.glo_ok X G (c.fact 12 (f := .glo "_law_read_times") rfl)) T jE
  have cR := yU (gp := True) (P := P) (w := w) (base := base) F13 (He.glo_ok X G (c.fact 13 (f := .glo "_law_told") rfl)) T jD cH lZ
  have lY := vP (gp := True) (P := P) (w := w) (base := base) F14 (He.glo_ok X G (c.fact 14 (f := .glo "_law_marred") rfl)) T aV cI
  exact Om (P := P) (w := w) (base := base) F15 T uL nR aV fU iT cR lY fV
end Lw
open PySem PySem.W PySem.Calls PyProof.Rows
theorem Lw.closes (plain : ∀ ns : List Int, ns.length ≤ 63 → ∃ hd, Lw.xQ [.ro (ns.map Dm.D.int)] [] = .ok (.bl true) [] hd) : PySem.Challenge.rw_twobenches_k65_texts_of_times.Holds := by
  w_on; o_law
  refine HandSHeadRun.head_any (r := OpenLaw.row PySem.Challenge.rw_twobenches_k65_texts_of_times) (q := view (OpenLaw.row PySem.Challenge.rw_twobenches_k65_texts_of_times).prog [22]) (H := Lw.hk) (ob := Lw.obs) (M := 20000) (loose := Lw.Jl) (d := HandSHeadRun.topDef (OpenLaw.row PySem.Challenge.rw_twobenches_k65_texts_of_times).prog 22) (kwd := []) Lw.Oq
    (by kernel_rfl) (fun s => by kernel_rfl) Lw.HW (by kernel_rfl) (by kernel_rfl) (by kernel_rfl) (by rfl) (by first | assumption | decide +kernel) (by decide +kernel) ⟨rfl, rfl, rfl, rfl, rfl, by decide +kernel⟩ ?hw ?hc
  case hw => w_witness2
  case hc =>
    refine Dm.Ln (l := PySem.Challenge.rw_twobenches_k65_texts_of_times) (n := 63) (k := 5) (x := "_law_script") rfl (by decide) (by kernel_rfl) ⟨rfl, by decide, by decide⟩ ?F
    intro w mg fa h Y G Wu
    obtain ⟨K, KX, c⟩ := Y
    have hmg : mg ("law" : PySem.Str) = some (.ref fa) := by
      have e : (HandSHeadRun.topDef (OpenLaw.row PySem.Challenge.rw_twobenches_k65_texts_of_times).prog 22).name = ("law" : PySem.Str) := by kernel_rfl
      rw [← e]
      exact Wu
    obtain ⟨fd, hb, hF⟩ := Lw.facts (P := (PySem.Challenge.rw_twobenches_k65_texts_of_times).prog) (w := w) KX G hmg c
    exact ⟨K, fd, Lw.xQ, KX, hb, plain, fun base _ _ => hF base⟩
namespace Lw
end Lw
end
section
namespace Lw
open PySem L2 Dm
local macro_rules
  | `(tactic| simp!) => `(tactic| simp (disch := first | decide | omega | assumption) only [↓wpA, wpB, fB, List.map_cons, List.map_nil, List.replicate_succ, List.replicate_zero, List.length_cons, List.length_nil, List.cons_append, List.nil_append, List.set_cons_succ, List.set_cons_zero, Nat.reduceAdd, Nat.reduceSub, Nat.reduceLeDiff, Nat.reduceEqDiff, Int.cast_ofNat_Int, Int.reduceEq, Int.reduceLT, Int.reduceLE, Bool.not_true, Bool.not_false, Bool.not_not, cW, iJ, zp, Option.map_some, Option.bind_some, List.getElem?_cons_succ, List.getElem?_cons_zero, Bool.or_true, Bool.true_or, Bool.or_false, Bool.false_or])
  | `(tactic| simp! [$ls,*]) => `(tactic| simp (disch := first | decide | omega | assumption) only [↓wpA, wpB, fB, List.map_cons, List.map_nil, List.replicate_succ, List.replicate_zero, List.length_cons, List.length_nil, List.cons_append, List.nil_append, List.set_cons_succ, List.set_cons_zero, Nat.reduceAdd, Nat.reduceSub, Nat.reduceLeDiff, Nat.reduceEqDiff, Int.cast_ofNat_Int, Int.reduceEq, Int.reduceLT, Int.reduceLE, Bool.not_true, Bool.not_false, Bool.not_not, cW, iJ, zp, Option.map_some, Option.bind_some, List.getElem?_cons_succ, List.getElem?_cons_zero, Bool.or_true, Bool.true_or, Bool.or_false, Bool.false_or, $ls,*])
  | `(tactic| simp! only) => `(tactic| simp (disch := first | decide | omega | assumption) only [↓wpA, wpB, fB, List.map_cons, List.map_nil, List.replicate_succ, List.replicate_zero, List.length_cons, List.length_nil, List.cons_append, List.nil_append, List.set_cons_succ, List.set_cons_zero, Nat.reduceAdd, Nat.reduceSub, Nat.reduceLeDiff, Nat.reduceEqDiff, Int.cast_ofNat_Int, Int.reduceEq, Int.reduceLT, Int.reduceLE, Bool.not_true, Bool.not_false, Bool.not_not, cW, iJ, zp, Option.map_some, Option.bind_some, List.getElem?_cons_succ, List.getElem?_cons_zero, Bool.or_true, Bool.true_or, Bool.or_false, Bool.false_or, Vx, tyN, lB, jP, jh, lu, jN, jO, ug, qP, oR, uf, qN, qO, vp, tX, qJ, vo, tV, tW, vm, tQ, qF, vh, tM, tO, qD, oM, mX, qC, oJ, oK, tU, qI, oN, tR, qG, qH, tZ, qM, oO, tY, qK, qL])
  | `(tactic| simp! only [$ls,*]) => `(tactic| simp (disch := first | decide | omega | assumption) only [↓wpA, wpB, fB, List.map_cons, List.map_nil, List.replicate_succ, List.replicate_zero, List.length_cons, List.length_nil, List.cons_append, List.nil_append, List.set_cons_succ, List.set_cons_zero, Nat.reduceAdd, Nat.reduceSub, Nat.reduceLeDiff, Nat.reduceEqDiff, Int.cast_ofNat_Int, Int.reduceEq, Int.reduceLT, Int.reduceLE, Bool.not_true, Bool.not_false, Bool.not_not, cW, iJ, zp, Option.map_some, Option.bind_some, List.getElem?_cons_succ, List.getElem?_cons_zero, Bool.or_true, Bool.true_or, Bool.or_false, Bool.false_or, Vx, tyN, lB, jP, jh, lu, jN, jO, ug, qP, oR, uf, qN, qO, vp, tX, qJ, vo, tV, tW, vm, tQ, qF, vh, tM, tO, qD, oM, mX, qC, oJ, oK, tU, qI, oN, tR, qG, qH, tZ, qM, oO, tY, qK, qL, $ls,*])
def g8 (given : List Int) (bV rest : Int) : O := .lst [.lst (given.map .int), .int bV, .int rest]
def Pen (h : Hd) : Prop := ∃ given bV rest, given.length ≤ 63 ∧ h = [g8 given bV rest]
theorem Ab : ∀ ns : List Int, D.pyL (ns.map .int) = some (ns.map PyData.int)
  | [] => rfl
  | n :: ns => by simp [D.pyL, D.py, Ab ns]
theorem lay_ints : ∀ ns : List Int, PyData.canLayAll0 (ns.map PyData.int) = true
  | [] => rfl
  | n :: ns => by simp [PyData.canLayAll0, PyData.canLay0, lay_ints ns]
theorem Bl : ∀ ns : List Int, PyData.depthAll (ns.map PyData.int) = 0
  | [] => rfl
  | n :: ns => by simp [PyData.depthAll, PyData.depth, Bl ns]
theorem shaped_ints (ns : List Int) : SeqAt.shaped (.list (ns.map PyData.int)) = true := by
  simp [SeqAt.shaped, PyData.canLay0, lay_ints, PyData.depth, Bl]
theorem vU (h : Hd) (given : List Int) : neD h (.lst (given.map .int)) (.lst []) = some (.bl (!given.isEmpty)) := by
  have e1 : D.py (.lst (given.map .int)) = some (.list (given.map PyData.int)) := by simp [D.py, Ab]
  have e2 : D.py (.lst []) = some (.list []) := rfl
  have e3 : SeqAt.shaped (.list []) = true := shaped_ints []
  unfold neD eqB
  simp only [e1, e2, shaped_ints, e3, Bool.and_self, if_true]
  cases given <;> rfl
theorem TF (h : Hd) : yQ h (.int 10) (.int 18) = some (.int 1000000000000000000) := by
  rw [GX (by decide) (by decide) (by decide)]
  rfl
theorem Mh {h : Hd} {given : List Int} {bV : Int} {s : Sd} (h1 : s[1]? = some (.val (.int bV))) (h2 : s[2]? = some (.val (.lst (given.map .int)))) :
    ∃ cell : Int, eZ s h = .ok .nx (s.set 3 (.val (.int cell))) h := by
  cases given with
  | nil => exact ⟨0, by
      have e : neD h (.lst []) (.lst []) = some (.bl false) := vU h []
      simp [eZ, h2, e]⟩
  | cons g gs =>
    have hp : (0 : Int) < ((g :: gs).map D.int).length := by simp
    refine ⟨(g :: gs).getD (bV % (((g :: gs).map D.int).length : Int)).toNat 0, ?_⟩
    have e := vU h (g :: gs)
    have ix : atI ((g :: gs).map D.int) (bV % (((g :: gs).map D.int).length : Int)) = some (.int ((g :: gs).getD (bV % (((g :: gs).map D.int).length : Int)).toNat 0)) := Mq (Int.emod_nonneg _ (by omega)) (by have := Int.emod_lt_of_pos bV hp; simpa using this)
    unfold eZ
    simp only [Eo, Ak, rG, pK, pJ, h2, nO, KZ, K7, vX, List.length_nil, Nat.zero_le, if_true, e, mG, List.isEmpty_cons, Bool.not_false, cond_true, Am, rH, h1, int_int, zm, Hq hp, Jo, ix]
theorem P0 {h : Hd} {p g : D} {bV cell st fo : Int} {i : Nat} (hi : i < 6) (h0 : 0 ≤ st) (h1 : st < 2305843009213693951) :
    ∃ st' fo' : Int, 0 ≤ st' ∧ st' < 2305843009213693951 ∧ fj [.val p, .val (.int bV), .val g, .val (.int cell), .val (.int 2305843009213693951), .val (.int st), .val (.int fo), .val (.int (0 + (i : Int)))] h
      = .ok .nx [.val p, .val (.int bV), .val g, .val (.int cell), .val (.int 2305843009213693951), .val (.int st'), .val (.int fo'), .val (.int (0 + (i : Int)))] h := by
  have n1 : pH h (.int st) (.int st) = some (.int (st * st)) := yW (DP (by omega) (by omega))
  have n2 : pH h (.int 70139) (.int (0 + (i : Int) + 5)) = some (.int (70139 * (0 + (i : Int) + 5))) := yW (by decide)
  have n3 : pH h (.int (70139 * (0 + (i : Int) + 5))) (.int (bV + 1)) = some (.int (70139 * (0 + (i : Int) + 5) * (bV + 1))) := yW (DP (by omega) (by omega))
  have n4 : pH h (.int fo) (.int 2305843009213693951) = some (.int (fo * 2305843009213693951)) := mul_r (DP (by omega) (by omega))
  have m3 : ∀ z, Gj h (.int z) (.int 2305843009213693951) = some (.int (z % 2305843009213693951)) := fun z => Hq (by decide)
  generalize e1 : (st * st + 70139 * (0 + (i : Int) + 5) * (bV + 1) + cell) = z1 at *
  refine ⟨z1 % 2305843009213693951, fo * 2305843009213693951 + z1 % 2305843009213693951, Int.emod_nonneg _ (by decide), Int.emod_lt_of_pos _ (by decide), ?_⟩
  simp only [fj, yZ, Eo, pK, Am, rH, vX, pJ, En, nO, List.set_cons_succ, List.set_cons_zero, List.getElem?_cons_succ, List.getElem?_cons_zero, n1, n2, n3, n4, m3, mG, add_int, int_int, e1]
theorem Ib {h : Hd} (P : Pen h) : ∃ v h', eU [.ref 0] h = .ok (.int v) [] h' ∧ Pen h' := by
  obtain ⟨given, bV, rest, hl, rfl⟩ := P
  have P' : Pen [g8 given (bV + 1) rest] := ⟨given, bV + 1, rest, hl, rfl⟩
  obtain ⟨cell, hc⟩ := Mh (h := [g8 given (bV + 1) rest]) (given := given) (bV := bV) (s := [.val (.ref 0), .val (.int bV), .val (.lst (given.map .int)), .no, .no, .no, .no, .no]) rfl rfl
  have e0 : mW [.val (.ref 0), .no, .no, .no, .no, .no, .no, .no] [g8 given bV rest] = .ok .nx [.val (.ref 0), .val (.int bV), .val (.lst (given.map .int)), .no, .no, .no, .no, .no] [g8 given bV rest] := rfl
  have e1 : mV [.val (.ref 0), .val (.int bV), .val (.lst (given.map .int)), .no, .no, .no, .no, .no] [g8 given bV rest] = .ok .nx [.val (.ref 0), .val (.int bV), .val (.lst (given.map .int)), .no, .no, .no, .no, .no] [g8 given (bV + 1) rest] := rfl
  have start : eU [.ref 0] [g8 given bV rest] = fin (jC [.val (.ref 0), .no, .no, .no, .no, .no, .no, .no] [g8 given bV rest]) := rfl
  rw [start]
  unfold jC
  rw [ig e0, ig e1, ig hc]
  simp only [List.set_cons_succ, List.set_cons_zero]
  have Tp : ∀ s h, s[1]? = some (.val (.int bV)) → s[2]? = some (.val (.lst (given.map .int))) → s[3]? = some (.val (.int cell)) → eY s h = .ok .nx s h ∨ eY s h = .ok (.rt (.int (cell - 1000000000000000000))) s h := by
    intro s h e1 e2 e3
    unfold eY
    simp only [Ak, La, rG, pK, pJ, Am, rH, vX, En, K6, Jk, nO, e1, e2, e3, zm, mG, lt_int, TF, ge_int, sub_int]
    cases decide (bV < ((given.map D.int).length : Int)) <;> simp
    by_cases hb : (1000000000000000000 : Int) ≤ cell
    · right; simp [hb, e3]
    · left; simp [hb]
  rcases Tp [.val (.ref 0), .val (.int bV), .val (.lst (given.map .int)), .val (.int cell), .no, .no, .no, .no] [g8 given (bV + 1) rest] rfl rfl rfl with e3 | e3
  · rw [ig e3]
    have m1 : pH [g8 given (bV + 1) rest] (.int cell) (.int 48271) = some (.int (cell * 48271)) := mul_r (by decide)
    have m2 : pH [g8 given (bV + 1) rest] (.int 60013) (.int bV) = some (.int (60013 * bV)) := yW (by decide)
    have m3 : ∀ z, Gj [g8 given (bV + 1) rest] (.int z) (.int 2305843009213693951) = some (.int (z % 2305843009213693951)) := fun z => Hq (by decide)
    rw [ig (m := mU) (s1 := [.val (.ref 0), .val (.int bV), .val (.lst (given.map .int)), .val (.int cell), .val (.int 2305843009213693951), .no, .no, .no]) (h1 := [g8 given (bV + 1) rest]) rfl]
    rw [ig (m := iH) (s1 := [.val (.ref 0), .val (.int bV), .val (.lst (given.map .int)), .val (.int cell), .val (.int 2305843009213693951), .val (.int ((cell * 48271 + 60013 * bV + 31) % 2305843009213693951)), .no, .no]) (h1 := [g8 given (bV + 1) rest]) (by simp [iH, m1, m2, m3])]
    rw [ig (m := mQ) (s1 := [.val (.ref 0), .val (.int bV), .val (.lst (given.map .int)), .val (.int cell), .val (.int 2305843009213693951), .val (.int ((cell * 48271 + 60013 * bV + 31) % 2305843009213693951)), .val (.int ((cell * 48271 + 60013 * bV + 31) % 2305843009213693951)), .no]) (h1 := [g8 given (bV + 1) rest]) rfl]
    obtain ⟨s', h', e1, st, fo, lp, e2, _, _, e4⟩ := Es (g := gN 7) (b := fj) (xs := rg 0 6) (s := [.val (.ref 0), .val (.int bV), .val (.lst (given.map .int)), .val (.int cell), .val (.int 2305843009213693951), .val (.int ((cell * 48271 + 60013 * bV + 31) % 2305843009213693951)), .val (.int ((cell * 48271 + 60013 * bV + 31) % 2305843009213693951)), .no]) (h := [g8 given (bV + 1) rest])
      (fun _ s2 h2 => ∃ (st fo : Int) (lp : Sl), s2 = [Sl.val (.ref 0), .val (.int bV), .val (.lst (given.map .int)), .val (.int cell), .val (.int 2305843009213693951), .val (.int st), .val (.int fo), lp] ∧ 0 ≤ st ∧ st < 2305843009213693951 ∧ h2 = [g8 given (bV + 1) rest])
      ⟨_, _, _, rfl, Int.emod_nonneg _ (by decide), Int.emod_lt_of_pos _ (by decide), rfl⟩ (fun i x s2 h2 hx ⟨st, fo, lp, e1, e2, e3, e4⟩ => by
        subst e1; subst e4
        have hi : i < 6 := by have := (List.getElem?_eq_some_iff.mp hx).1; simpa [rg] using this
        have ex : x = .int (0 + (i : Int)) := by rw [DQ 0 6 i hi] at hx; cases hx; rfl
        subst ex
        obtain ⟨st', fo', g0, g1, eb⟩ := P0 (h := [g8 given (bV + 1) rest]) (p := .ref 0) (g := .lst (given.map .int)) (bV := bV) (cell := cell) (fo := fo) hi e2 e3
        exact ⟨_, _, _, _, rfl, eb, st', fo', _, rfl, g0, g1, rfl⟩)
    refine ⟨fo, _, ?_, P'⟩
    have e7 : mO [.val (.ref 0), .val (.int bV), .val (.lst (given.map .int)), .val (.int cell), .val (.int 2305843009213693951), .val (.int ((cell * 48271 + 60013 * bV + 31) % 2305843009213693951)), .val (.int ((cell * 48271 + 60013 * bV + 31) % 2305843009213693951)), .no] [g8 given (bV + 1) rest] = .ok .nx s' h' := e1
    rw [ig e7, e2, e4]
    rfl
  · refine ⟨cell - 1000000000000000000, _, ?_, P'⟩
    rw [Oa e3]
    rfl
theorem z9 {a b e : M D} {s s1 : Sd} {h : Hd} {given : List Int} {bV rest z : Int} (he : e s h = .ok (.int z) s1 [g8 given bV rest]) (ha : a s1 [g8 given bV rest] = .ok (.ref 0) s1 [g8 given bV rest]) (hb : b s1 [g8 given bV rest] = .ok (.int 2) s1 [g8 given bV rest]) :
    xR a b e s h = .ok .nx s1 [g8 given bV z] := by
  unfold xR
  rw [he]
  simp only [nO, ha, hb]
  rfl
theorem zF {h : Hd} (P : Pen h) {b : Int} (hb : 0 < b) (hb2 : b ≤ 10 ^ 400) : ∃ d h', aJ [.ref 0, .int b] h = .ok (.int d) [] h' ∧ 0 ≤ d ∧ d < b ∧ Pen h' := by
  have go : ∀ h, Pen h → ∃ d h', fin (bU d8 (bU fX jx) [.val (.ref 0), .val (.int b), .no] h) = .ok (.int d) [] h' ∧ 0 ≤ d ∧ d < b ∧ Pen h' := by
    rintro h ⟨given, bV, rest, hl, rfl⟩
    refine ⟨rest % b, [g8 given bV (rest / b)], ?_, Int.emod_nonneg _ (by omega), Int.emod_lt_of_pos _ hb, given, bV, rest / b, hl, rfl⟩
    have e1 : d8 [.val (.ref 0), .val (.int b), .no] [g8 given bV rest] = .ok .nx [.val (.ref 0), .val (.int b), .val (.int (rest % b))] [g8 given bV rest] := by
      have i2 : ixD [g8 given bV rest] (.ref 0) (.int 2) = some (.int rest) := rfl
      simp [d8, i2, Hq hb]
    have e2 : fX [.val (.ref 0), .val (.int b), .val (.int (rest % b))] [g8 given bV rest] = .ok .nx [.val (.ref 0), .val (.int b), .val (.int (rest % b))] [g8 given bV (rest / b)] := by
      have i2 : ixD [g8 given bV rest] (.ref 0) (.int 2) = some (.int rest) := rfl
      have f := Qq (h := [g8 given bV rest]) (i := rest) hb (Bq (by omega) hb2)
      exact z9 (rest := rest) (by simp only [pJ, En, pK, Am, rH, vX, nO, List.getElem?_cons_succ, List.getElem?_cons_zero, i2, mG, int_int, f]) rfl rfl
    rw [ig e1, ig e2]
    rfl
  obtain ⟨given, bV, rest, hl, rfl⟩ := id P
  have start : aJ [.ref 0, .int b] [g8 given bV rest] = fin (bU dG (bU d8 (bU fX jx)) [.val (.ref 0), .val (.int b), .no] [g8 given bV rest]) := rfl
  rw [start]
  have i2 : ixD [g8 given bV rest] (.ref 0) (.int 2) = some (.int rest) := rfl
  by_cases hr : rest < b
  · obtain ⟨v, h1, ef, P1⟩ := Ib P
    obtain ⟨Fp, Kg, Tv, hl1, rfl⟩ := id P1
    have es : xR (aC 0) (mC (.int 2)) (bL eU (ak (aC 0) aN)) [.val (.ref 0), .val (.int b), .no] [g8 given bV rest] = .ok .nx [.val (.ref 0), .val (.int b), .no] [g8 Fp Kg v] :=
      z9 (rest := Tv) (by simp [ef]) rfl rfl
    have e0 : dG [.val (.ref 0), .val (.int b), .no] [g8 given bV rest] = .ok .nx [.val (.ref 0), .val (.int b), .no] [g8 Fp Kg v] := by
      simp only [dG, Ak, rG, pJ, En, pK, nO, List.getElem?_cons_succ, List.getElem?_cons_zero, i2, mG, lt_int, decide_eq_true hr, es, cond_true]
    rw [ig e0]
    exact go _ ⟨Fp, Kg, v, hl1, rfl⟩
  · have e0 : dG [.val (.ref 0), .val (.int b), .no] [g8 given bV rest] = .ok .nx [.val (.ref 0), .val (.int b), .no] [g8 given bV rest] := by
      simp only [dG, Ak, rG, pJ, En, pK, nO, List.getElem?_cons_succ, List.getElem?_cons_zero, i2, mG, lt_int, decide_eq_false hr, cond_false, Jk]
    rw [ig e0]
    exact go _ P
theorem sW {h : Hd} (P : Pen h) {xs : List D} (hn : xs ≠ []) (hl : xs.length ≤ 100000) : ∃ d h', bJ [.ref 0, .lst xs] h = .ok d [] h' ∧ d ∈ xs ∧ Pen h' := by
  have hp : (0 : Int) < xs.length := by have := List.length_pos_iff.mpr hn; omega
  obtain ⟨k, h', e, h0, h1, P'⟩ := zF P hp (by omega)
  have hk : k.toNat < xs.length := by omega
  refine ⟨xs[k.toNat], h', ?_, List.getElem_mem hk, P'⟩
  have ix : atI xs k = some xs[k.toNat] := jT h0 (List.getElem?_eq_getElem hk)
  simp [bJ, lV, j6, fB, e, ix]
theorem Oj {ns : List Int} (hl : ns.length ≤ 63) : ∃ h, jd [.ro (ns.map .int)] [] = .ok (.ref 0) [] h ∧ Pen h := by
  have e : cut (ns.map D.int) none (some 63) = ns.map D.int := by
    unfold cut
    have : HT.sIx (ns.map D.int).length (ns.map D.int).length (some 63) = (ns.map D.int).length := by
      rw [show (63 : Int) = ((63 : Nat) : Int) from rfl, HT.sIx_nat]
      simp; omega
    rw [this]
    have hz : HT.sIx (ns.map D.int).length 0 none = 0 := rfl
    rw [hz, Nat.sub_zero, List.drop_zero, List.take_length]
  refine ⟨[g8 ns 0 0], ?_, ns, 0, 0, hl, rfl⟩
  have e2 : slD [] (.ro (ns.map .int)) none (some 63) = some (.lst (ns.map .int)) := by simp [slD, e]
  have e3 : uP [] (.lst (ns.map D.int)) = some (ns.map D.int) := rfl
  simp [jd, uI, qd, fB, e2, e3, g8]
theorem nJ {h : Hd} {b : Int} {Q : D → Sd → Hd → Prop} {E : Ex} (P : Pen h) (hb : 0 < b) (hb2 : b ≤ 10 ^ 400) (k : ∀ d h', 0 ≤ d → d < b → Pen h' → Q (.int d) [] h') : Wq Q E () (aJ [.ref 0, .int b] h) := by
  obtain ⟨d, h', e, h0, h1, P'⟩ := zF P hb hb2
  exact Wq.of e (k d h' h0 h1 P')
theorem xG {h : Hd} {xs : List D} {Q : D → Sd → Hd → Prop} {E : Ex} (P : Pen h) (hn : xs ≠ []) (hl : xs.length ≤ 100000) (k : ∀ d h', d ∈ xs → Pen h' → Q d [] h') : Wq Q E () (bJ [.ref 0, .lst xs] h) := by
  obtain ⟨d, h', e, hd, P'⟩ := sW P hn hl
  exact Wq.of e (k d h' hd P')
theorem Oi {ns : List Int} {Q : D → Sd → Hd → Prop} {E : Ex} (hl : ns.length ≤ 63) (k : ∀ h', Pen h' → Q (.ref 0) [] h') : Wq Q E () (jd [.ro (ns.map .int)] []) := by
  obtain ⟨h', e, P'⟩ := Oj hl
  exact Wq.of e (k h' P')
theorem PN {ns : List Int} (w : Wq (fun d s _ => d = .bl true ∧ s = []) nX () (xQ [.ro (ns.map .int)] [])) : ∃ hd, xQ [.ro (ns.map .int)] [] = .ok (.bl true) [] hd := by
  obtain ⟨d, s, h, e, rfl, rfl⟩ := w.ex
  exact ⟨h, e⟩
theorem BK {n i : Nat} {x : D} (hx : (rg 0 n)[i]? = some x) : i < n ∧ x = .int (i : Int) := by
  have hi : i < n := by have := (List.getElem?_eq_some_iff.mp hx).1; rw [qj] at this; exact this
  rw [DQ 0 n i hi] at hx
  cases hx
  exact ⟨hi, by simp⟩
@[simp] theorem Vb {x : D} {r : List D} : atI (x :: r) 0 = some x := jT (by decide) rfl
@[simp] theorem WD {x y : D} {r : List D} : atI (x :: y :: r) 1 = some y := jT (by decide) rfl
@[simp] theorem W4 {x y z : D} {r : List D} : atI (x :: y :: z :: r) 2 = some z := jT (by decide) rfl
theorem Wn {h : Hd} {z : Int} : pH h (.int 3) (.int z) = some (.int (3 * z)) := yW (by decide)
def NN (T : List Int) : Prop := ∀ x ∈ T, (0 : Int) ≤ x
theorem Ms {h : Hd} {xs ys : List D} (h1 : xs.length ≤ 50000) (h2 : ys.length ≤ 50000) : cP h (.tup xs) (.tup ys) = some (.tup (xs ++ ys)) := by
  simp [cP]
  try omega
theorem QC {xs : List D} {k : Nat} (hk : k ≤ xs.length) : cut xs none (some (k : Int)) = xs.take k := by
  unfold cut
  rw [HT.sIx_nat]
  have hz : HT.sIx xs.length 0 none = 0 := rfl
  rw [hz, Nat.min_eq_left hk]
  simp
theorem Il {xs : List D} {k : Nat} (hk : k ≤ xs.length) : cut xs (some (k : Int)) none = xs.drop k := by
  unfold cut
  rw [HT.sIx_nat]
  have hz : HT.sIx xs.length xs.length none = xs.length := rfl
  rw [hz, Nat.min_eq_left hk]
  exact List.take_of_length_le (by simp)
abbrev sg (k : Nat) : Str := ⟨#[k]⟩
theorem vD (k : Nat) : TL.tl (sg k) = [k] := rfl
def ss (k : Nat) : List Nat → List (List Nat)
  | [] => [[]]
  | c :: r => if c = k then [] :: ss k r else match ss k r with
    | p :: ps => (c :: p) :: ps
    | [] => [[c]]
theorem GF (k : Nat) : ∀ l, ss k l ≠ []
  | [] => by simp [ss]
  | c :: r => by
    unfold ss
    split
    · simp
    · split <;> simp
theorem yH (k : Nat) : ∀ l, ∀ p ∈ ss k l, k ∉ p
  | [], p, h => by
    simp [ss] at h
    subst h
    simp
  | c :: r, p, h => by
    have ih := yH k r
    unfold ss at h
    split at h
    · rcases List.mem_cons.mp h with h | h
      · subst h; simp
      · exact ih p h
    · rename_i hc
      split at h
      · rename_i q qs e
        rw [e] at ih
        rcases List.mem_cons.mp h with h | h
        · subst h
          simp only [List.mem_cons, not_or]
          exact ⟨fun z => hc z.symm, ih q List.mem_cons_self⟩
        · exact ih p (List.mem_cons_of_mem _ h)
      · rename_i e
        exact (GF k r e).elim
theorem yG (k : Nat) : ∀ l, TL.joinL [k] (ss k l) = l
  | [] => rfl
  | c :: r => by
    have ih := yG k r
    have hn := GF k r
    unfold ss
    split
    · rename_i hc
      subst hc
      cases e : ss c r with
      | nil => exact (hn e).elim
      | cons q qs =>
        rw [e] at ih
        show [] ++ ([c] ++ TL.joinL [c] (q :: qs)) = _
        rw [ih]
        rfl
    · split
      · rename_i q qs e
        rw [e] at ih
        cases qs with
        | nil =>
          have ih2 : q = r := ih
          rw [ih2]
          rfl
        | cons q2 qs =>
          show (c :: q) ++ ([k] ++ TL.joinL [k] (q2 :: qs)) = _
          have ih2 : q ++ ([k] ++ TL.joinL [k] (q2 :: qs)) = r := ih
          rw [List.cons_append, ih2]
      · rename_i e
        exact (hn e).elim
theorem cX {x : Str} {k : Nat} (hk : k < 256) : ∃ ps : List Str, Txt.split x (sg k) = ps ∧ ps ≠ [] ∧ (∀ p ∈ ps, k ∉ TL.tl p) ∧ Str.join (sg k) ps = x := by
  have ks : (sg k).cps.all (· < 256) = true := by simp [hk]
  have e1 : (Txt.split x (sg k)).map TL.tl = TL.spl [k] 0 [] (TL.tl x) := TL.split_spl x (sg k) (by simp [TL.tl]) (TL.kind_ok ks)
  have e2 := TL.spl_join (s := k) (S := []) (GF k (TL.tl x)) (yH k (TL.tl x))
  rw [yG] at e2
  rw [e2] at e1
  refine ⟨_, rfl, fun z => ?_, fun p hp => ?_, ?_⟩
  · rw [z] at e1
    exact GF k _ e1.symm
  · exact yH k (TL.tl x) _ (by rw [← e1]; exact List.mem_map_of_mem hp)
  · refine TL.ext_tl ?_
    rw [TL.tl_join, e1, vD, yG]
theorem rC {k : Nat} (hk : k < 256) {ps : List Str} (hne : ps ≠ []) (hp : ∀ p ∈ ps, k ∉ TL.tl p) : Txt.split (Str.join (sg k) ps) (sg k) = ps := by
  have e := TL.split_join (y := sg k) (s := k) (S := []) rfl (by simp [hk]) hne hp
  rwa [TL.join_eq] at e
theorem len_app (a b : Str) : (a ++ b).length = a.length + b.length := by
  rw [TL.len_tl, TL.tl_append, List.length_append, ← TL.len_tl, ← TL.len_tl]
theorem xY {S : List Nat} : ∀ ps : List (List Nat), ps ≠ [] → (TL.joinL S ps).length + S.length = (ps.map (·.length)).sum + ps.length * S.length
  | [], h => absurd rfl h
  | [p], _ => by simp [TL.joinL]
  | p :: q :: r, _ => by
    have ih := xY (S := S) (q :: r) (by simp)
    show (p ++ (S ++ TL.joinL S (q :: r))).length + S.length = _
    rw [List.length_append, List.length_append, List.map_cons, List.sum_cons, List.length_cons, Nat.succ_mul]
    omega
theorem oU {sep : Str} {ps : List Str} (h : ps ≠ []) : (Str.join sep ps).length + sep.length = (ps.map (·.length)).sum + ps.length * sep.length := by
  have e := xY (S := TL.tl sep) (ps.map TL.tl) (fun z => h (List.map_eq_nil_iff.mp z))
  rw [← TL.tl_join, ← TL.len_tl, ← TL.len_tl, List.map_map, List.length_map] at e
  rw [e]
  congr 2
theorem Dq {α : Type} {f : α → Nat} : ∀ {l : List α} {a : α}, a ∈ l → f a ≤ (l.map f).sum
  | b :: l, a, h => by
    rw [List.map_cons, List.sum_cons]
    rcases List.mem_cons.mp h with h | h
    · subst h; omega
    · have := Dq (f := f) h; omega
theorem sS {k : Nat} {x : Str} {ps : List Str} (hn : ps ≠ []) (e : Str.join (sg k) ps = x) : (ps.map (·.length)).sum + ps.length = x.length + 1 := by
  have h := oU (sep := sg k) hn
  rw [e] at h
  have e1 : (sg k).length = 1 := rfl
  rw [e1] at h
  omega
theorem jy {k : Nat} {x : Str} {ps : List Str} (hn : ps ≠ []) (e : Str.join (sg k) ps = x) : ps.length ≤ x.length + 1 ∧ ∀ p ∈ ps, p.length ≤ x.length := by
  have h := sS hn e
  refine ⟨by omega, fun p hp => ?_⟩
  have h2 := Dq (f := fun p : Str => p.length) hp
  have h3 : 0 < ps.length := List.length_pos_iff.mpr hn
  omega
def As (x : Str) : Prop := ∀ c ∈ TL.tl x, c < 128
theorem As.app {x y : Str} (h : As x) (g : As y) : As (x ++ y) := fun c hc => by
  rw [TL.tl_append] at hc
  rcases List.mem_append.mp hc with z | z
  · exact h c z
  · exact g c z
theorem xP {S : List Nat} {c : Nat} : ∀ {ps : List (List Nat)}, c ∈ TL.joinL S ps → (∃ p ∈ ps, c ∈ p) ∨ c ∈ S
  | [p], h => .inl ⟨p, List.mem_singleton.mpr rfl, h⟩
  | p :: q :: r, h => by
    have h2 : c ∈ p ++ (S ++ TL.joinL S (q :: r)) := h
    rcases List.mem_append.mp h2 with z | z
    · exact .inl ⟨p, List.mem_cons_self, z⟩
    · rcases List.mem_append.mp z with z | z
      · exact .inr z
      · rcases xP z with ⟨u, hu, z⟩ | z
        · exact .inl ⟨u, List.mem_cons_of_mem _ hu, z⟩
        · exact .inr z
theorem xX {S : List Nat} {c : Nat} : ∀ {ps : List (List Nat)} {p : List Nat}, p ∈ ps → c ∈ p → c ∈ TL.joinL S ps
  | [q], p, h, hc => by
    rw [List.mem_singleton.mp h] at hc
    exact hc
  | q :: q2 :: r, p, h, hc => by
    show c ∈ q ++ (S ++ TL.joinL S (q2 :: r))
    rcases List.mem_cons.mp h with h | h
    · subst h
      exact List.mem_append_left _ hc
    · exact List.mem_append_right _ (List.mem_append_right _ (xX h hc))
theorem As.join {sep : Str} {ps : List Str} (hs : As sep) (h : ∀ p ∈ ps, As p) : As (Str.join sep ps) := fun c hc => by
  rw [TL.tl_join] at hc
  rcases xP hc with ⟨u, hu, z⟩ | z
  · obtain ⟨p, hp, rfl⟩ := List.mem_map.mp hu
    exact h p hp c z
  · exact hs c z
theorem As.piece {k : Nat} {x : Str} {ps : List Str} (h : As x) (e : Str.join (sg k) ps = x) : ∀ p ∈ ps, As p := fun p hp c hc => h c (by
  rw [← e, TL.tl_join]
  exact xX (List.mem_map_of_mem hp) hc)
theorem As.ok {x : Str} (h : As x) : PyData.strOk x = true := by
  unfold PyData.strOk
  rw [← Array.all_toList]
  exact List.all_eq_true.mpr fun c hc => decide_eq_true (Nat.lt_trans (h c hc) (by decide))
theorem Ir {k : Nat} (h : k < 128) : As (sg k) := fun c hc => by
  rw [vD] at hc
  rw [List.mem_singleton.mp hc]
  exact h
theorem Aa : ∀ xs : List Str, D.pyL (xs.map .str) = some (xs.map PyData.str)
  | [] => rfl
  | x :: xs => by simp [D.pyL, D.py, Aa xs]
theorem Ar : ∀ {xs : List Str}, (∀ x ∈ xs, As x) → PyData.canLayAll0 (xs.map PyData.str) = true
  | [], _ => rfl
  | x :: xs, h => by simp [PyData.canLayAll0, PyData.canLay0, (h x List.mem_cons_self).ok, Ar fun y hy => h y (List.mem_cons_of_mem _ hy)]
theorem Bj : ∀ xs : List Str, PyData.depthAll (xs.map PyData.str) = 0
  | [] => rfl
  | x :: xs => by simp [PyData.depthAll, PyData.depth, Bj xs]
theorem VL : ∀ a b : List Str, PyData.eqvAll (a.map PyData.str) (b.map PyData.str) = decide (a = b)
  | [], [] => by simp [PyData.eqvAll]
  | [], y :: b => by simp [PyData.eqvAll]
  | x :: a, [] => by simp [PyData.eqvAll]
  | x :: a, y :: b => by
    have ih := VL a b
    rw [List.map_cons, List.map_cons]
    simp only [PyData.eqvAll, PyData.eqv, ih]
    by_cases h1 : x = y <;> by_cases h2 : a = b <;> simp [h1, h2]
theorem Bf {a b : List Str} (ha : ∀ x ∈ a, As x) (hb : ∀ x ∈ b, As x) : eqB (.lst (a.map .str)) (.lst (b.map .str)) = some (decide (a = b)) := by
  have sh : ∀ {c : List Str}, (∀ x ∈ c, As x) → SeqAt.shaped (.list (c.map PyData.str)) = true := fun {c} h => by
    simp [SeqAt.shaped, PyData.canLay0, Ar h, PyData.depth, Bj]
  unfold eqB
  simp only [D.py, Aa, Option.map_some, sh ha, sh hb, Bool.and_self, if_true, PyData.eqv, VL]
theorem Ag {h : Hd} {a b : List Str} (ha : ∀ x ∈ a, As x) (hb : ∀ x ∈ b, As x) : neD h (.lst (a.map .str)) (.lst (b.map .str)) = some (.bl (!decide (a = b))) := by
  unfold neD
  rw [Bf ha hb]
  rfl
theorem Hi {h : Hd} {a b : List Str} (ha : ∀ x ∈ a, As x) (hb : ∀ x ∈ b, As x) : neX h (.lst (a.map .str)) (.lst (b.map .str)) = some (.bl (!decide (a = b))) := Ag (h := h) ha hb
theorem Ih {h : Hd} {a b : List Str} (ha : ∀ x ∈ a, As x) (hb : ∀ x ∈ b, As x) : eqX h (.lst (a.map .str)) (.lst (b.map .str)) = some (.bl (decide (a = b))) := by
  show (eqB (.lst (a.map .str)) (.lst (b.map .str))).map D.bl = _
  rw [Bf ha hb]
  rfl
abbrev nS (n : Nat) : Str := toString ((n : Nat) : Int)
theorem jZ (n : Nat) : TL.tl (nS n) = TL.numL n := TL.tl_num n
theorem Jj {m n : Nat} (h : nS m = nS n) : m = n := TL.numL_inj (by rw [← jZ, ← jZ, h])
theorem Iu (n : Nat) : As (nS n) := fun c hc => by
  rw [jZ] at hc
  have := TL.numL_digits n c hc
  omega
theorem KN {n k : Nat} (h : k < 48 ∨ 57 < k) : k ∉ TL.tl (nS n) := by
  rw [jZ]
  exact TL.numL_free h
theorem oH {n k : Nat} (hk : 0 < k) (h : n < 10 ^ k) : (nS n).length ≤ k := by
  rw [TL.len_tl, jZ]
  exact TL.numL_len hk h
theorem qw {n k : Nat} (h : (nS n).length ≤ k) : n < 10 ^ k := by
  rw [TL.len_tl, jZ] at h
  have key : ∀ (l : List Nat) (a : Nat), NumText.AllDigits l → l.foldl (fun acc c => acc * 10 + (c - 48)) a < (a + 1) * 10 ^ l.length := by
    intro l
    induction l with
    | nil => intro a _; simp
    | cons c l ih =>
      intro a hd
      have hc := hd.head
      have := ih (a * 10 + (c - 48)) hd.tail
      rw [List.foldl_cons, List.length_cons, Nat.pow_succ]
      refine Nat.lt_of_lt_of_le this ?_
      have h2 : a * 10 + (c - 48) + 1 ≤ (a + 1) * 10 := by omega
      calc (a * 10 + (c - 48) + 1) * 10 ^ l.length ≤ ((a + 1) * 10) * 10 ^ l.length := Nat.mul_le_mul_right _ h2
        _ = (a + 1) * (10 ^ l.length * 10) := by rw [Nat.mul_assoc, Nat.mul_comm 10]
  have e := key (TL.numL n) 0 (TL.numL_digits n)
  have ev : (TL.numL n).foldl (fun acc c => acc * 10 + (c - 48)) 0 = n := TL.numL_val n
  rw [ev] at e
  exact Nat.lt_of_lt_of_le e (by rw [Nat.zero_add, Nat.one_mul]; exact Nat.pow_le_pow_right (by decide) h)
theorem Ah {n : Nat} (h : (nS n).length ≤ 4300) : PySem.intText? (nS n) = some (n : Int) := TL.int_num (by rw [← jZ, ← TL.len_tl]; exact h)
def isN (w : Str) : Bool := !decide (TL.tl w = []) && ((TL.tl w).all fun c => decide (48 ≤ c ∧ c ≤ 57)) && (decide (TL.tl w = [48]) || !decide ((TL.tl w).head? = some 48))
theorem Ls : ∀ (m : Nat) (l : List Nat), l.length = m → l ≠ [] → NumText.AllDigits l → (l = [48] ∨ l.head? ≠ some 48) → l = TL.numL (NumText.digitsVal l) := by
  intro m
  induction m with
  | zero => intro l h hn; exact absurd (List.length_eq_zero_iff.mp h) hn
  | succ m ih =>
    intro l hl hn hd hz
    rcases List.eq_nil_or_concat l with e | ⟨r, c, e⟩
    · exact absurd e hn
    · rw [List.concat_eq_append] at e
      subst e
      have hc : 48 ≤ c ∧ c ≤ 57 := hd c (by simp)
      have ev : NumText.digitsVal (r ++ [c]) = NumText.digitsVal r * 10 + (c - 48) := by
        unfold NumText.digitsVal
        rw [List.foldl_append]
        rfl
      cases hr : r with
      | nil =>
        subst hr
        have e2 : NumText.digitsVal ([] ++ [c]) = c - 48 := by
          rw [ev]
          show 0 * 10 + (c - 48) = c - 48
          omega
        rw [e2, TL.numL_lt (by omega)]
        have : 48 + (c - 48) = c := by omega
        rw [this]
        rfl
      | cons a r' =>
        have hr2 : r ≠ [] := by rw [hr]; simp
        have hz2 : r = [48] ∨ r.head? ≠ some 48 := by
          right
          rcases hz with hz | hz
          · rw [hr] at hz
            simp at hz
          · rw [List.head?_append] at hz
            rw [hr] at hz ⊢
            simpa using hz
        have i := ih r (by simpa using hl) hr2 (fun x hx => hd x (List.mem_append_left _ hx)) hz2
        have hpos : 1 ≤ NumText.digitsVal r := by
          rcases Nat.eq_zero_or_pos (NumText.digitsVal r) with z | z
          · rw [z] at i
            rw [TL.numL_lt (by decide)] at i
            rcases hz with hz | hz
            · rw [i] at hz
              simp at hz
            · rw [List.head?_append, i] at hz
              exact absurd rfl hz
          · exact z
        rw [← hr, ev, TL.numL_step (by omega)]
        have e3 : (NumText.digitsVal r * 10 + (c - 48)) / 10 = NumText.digitsVal r := by omega
        have e4 : 48 + (NumText.digitsVal r * 10 + (c - 48)) % 10 = c := by omega
        rw [e3, e4, ← i]
theorem EY {w : Str} (h : isN w = true) : ∃ n, w = nS n := by
  unfold isN at h
  simp only [Bool.and_eq_true, Bool.or_eq_true, Bool.not_eq_true', decide_eq_true_eq, decide_eq_false_iff_not, List.all_eq_true] at h
  obtain ⟨⟨h1, h2⟩, h3⟩ := h
  exact ⟨_, TL.ext_tl (by rw [jZ]; exact Ls _ _ rfl h1 h2 h3)⟩
theorem O9 (n : Nat) : isN (nS n) = true := by
  unfold isN
  rw [jZ]
  simp only [Bool.and_eq_true, Bool.or_eq_true, Bool.not_eq_true', decide_eq_true_eq, decide_eq_false_iff_not, List.all_eq_true]
  refine ⟨⟨TL.numL_ne n, TL.numL_digits n⟩, ?_⟩
  induction n using Nat.strongRecOn with
  | _ n ih =>
    by_cases hn : n < 10
    · rw [TL.numL_lt hn]
      by_cases h0 : n = 0
      · left; rw [h0]
      · right
        intro z
        have := Option.some.inj z
        omega
    · right
      have h10 : 10 ≤ n := by omega
      rw [TL.numL_step h10, List.head?_append]
      have i := ih (n / 10) (by omega)
      intro z
      cases e : (TL.numL (n / 10)).head? with
      | none => exact TL.numL_ne _ (List.head?_eq_none_iff.mp e)
      | some c =>
        rw [e] at z i
        have z2 : some c = some 48 := z
        rcases i with i | i
        · have e5 : n / 10 = 0 := TL.numL_inj (by rw [i]; rfl)
          omega
        · exact i z2
def jW (m : Nat) (w : Str) : Option Nat := if isN w = true ∧ w.length ≤ m then some (NumText.digitsVal (TL.tl w)) else none
theorem pF {m n : Nat} (h : (nS n).length ≤ m) : jW m (nS n) = some n := by
  unfold jW
  rw [if_pos ⟨O9 n, h⟩, jZ, TL.numL_val]
theorem oG {m n : Nat} {w : Str} (h : jW m w = some n) : w = nS n ∧ (nS n).length ≤ m := by
  unfold jW at h
  split at h
  · rename_i hc
    obtain ⟨k, e⟩ := EY hc.1
    subst e
    rw [jZ, TL.numL_val] at h
    cases h
    exact ⟨rfl, hc.2⟩
  · cases h
def optN : Option Nat → D
  | none => .non
  | some n => .int (n : Int)
theorem eV {h : Hd} {a b : Str} : eqX h (.str a) (.str b) = some (.bl (decide (a = b))) := rfl
theorem iw {h : Hd} {a b : Int} : neX h (.int a) (.int b) = some (.bl (!decide (a = b))) := rfl
theorem cM {h : Hd} {a b : Str} : neX h (.str a) (.str b) = some (.bl (!decide (a = b))) := rfl
theorem len_str {h : Hd} {x : Str} (hl : x.length ≤ 100000) : pO h [.str x] = some (.int (x.length : Nat)) := if_pos hl
abbrev D10 : List Nat := [48, 49, 50, 51, 52, 53, 54, 55, 56, 57]
theorem Jz : (Str.ofString "0123456789").cps.toList = D10 := by decide +kernel
theorem Fx {c : Nat} : c ∈ D10 ↔ 48 ≤ c ∧ c ≤ 57 := by
  simp only [D10, List.mem_cons, List.not_mem_nil, or_false]
  omega
theorem LC {h : Hd} {c : Nat} : inT h (.str ⟨#[c]⟩) (.str "0123456789") = some (.bl (decide (48 ≤ c ∧ c ≤ 57))) := by
  show some (D.bl (decide (c ∈ (Str.ofString "0123456789").cps.toList))) = _
  rw [Jz]
  exact congrArg (fun b => some (D.bl b)) (decide_eq_decide.mpr Fx)
theorem Hf {h : Hd} {c : Nat} : Rg h (.str ⟨#[c]⟩) (.str "0123456789") = some (.bl (!decide (48 ≤ c ∧ c ≤ 57))) := by
  show some (D.bl (!decide (c ∈ (Str.ofString "0123456789").cps.toList))) = _
  rw [Jz]
  exact congrArg (fun b => some (D.bl (!b))) (decide_eq_decide.mpr Fx)
theorem signs_get {x : Str} {i : Nat} {d : D} (e : (kY x)[i]? = some d) : ∃ c, (TL.tl x)[i]? = some c ∧ d = .str ⟨#[c]⟩ := by
  have e2 : ((TL.tl x)[i]?).map (fun k => D.str ⟨#[k]⟩) = some d := by
    rw [← List.getElem?_map]
    exact e
  cases q : (TL.tl x)[i]? with
  | none => rw [q] at e2; cases e2
  | some c =>
    rw [q] at e2
    cases e2
    exact ⟨c, rfl, rfl⟩
theorem wR (x : Str) : (kY x).length = x.length := by simp [kY, Str.length]
def CN : D → Bool
  | .str x => match x.cps.toList with
    | [c] => decide (48 ≤ c ∧ c ≤ 57)
    | _ => false
  | _ => false
theorem yj {α : Type} (f : α → Bool) : ∀ l : List α, boolsOf (l.map fun a => D.bl (f a)) = some (l.map f)
  | [] => rfl
  | a :: l => by
    show (boolsOf (l.map fun a => D.bl (f a))).map (f a :: ·) = _
    rw [yj f l]
    rfl
theorem Mr {α : Type} {h : Hd} (f : α → Bool) (l : List α) : QV h [.lst (l.map fun a => D.bl (f a))] = some (.bl (l.all f)) := by
  show ((boolsOf (l.map fun a => D.bl (f a))).map fun bs => D.bl (bs.all id)) = _
  rw [yj]
  show some (D.bl ((l.map f).all id)) = _
  rw [List.all_map]
  rfl
theorem z7 : (Str.ofString "0") = sg 48 := by decide +kernel
theorem rY {w : Str} : TL.tl w = [] ↔ w = "" := ⟨fun h => TL.ext_tl (h.trans (by decide +kernel)), fun h => by rw [h]; decide +kernel⟩
theorem JZ {w : Str} : TL.tl w = [48] ↔ w = "0" := ⟨fun h => TL.ext_tl (h.trans (by decide +kernel)), fun h => by rw [h]; decide +kernel⟩
theorem Jp (w : Str) : isN w = (!decide (w = "") && ((TL.tl w).all fun c => decide (48 ≤ c ∧ c ≤ 57)) && (decide (w = "0") || !decide ((TL.tl w).head? = some 48))) := by
  unfold isN
  rw [decide_eq_decide.mpr (rY (w := w)), decide_eq_decide.mpr (JZ (w := w))]
theorem ix0 {h : Hd} {w : Str} {c : Nat} (hl : w.length ≤ 100000) (e : (TL.tl w).head? = some c) : ixT h (.str w) (.int 0) = some (.str (sg c)) := by
  show (if w.length ≤ 100000 then (atI w.cps.toList 0).map fun k => D.str ⟨#[k]⟩ else none) = _
  rw [if_pos hl]
  cases q : w.cps.toList with
  | nil => rw [TL.tl, q] at e; cases e
  | cons a r =>
    rw [TL.tl, q] at e
    cases e
    have : atI (c :: r) 0 = some c := by
      unfold atI
      have : ixN (c :: r).length 0 = some 0 := by
        unfold ixN
        simp
      rw [this]
      rfl
    rw [this]
    rfl
theorem z8 {a b : Nat} : (sg a = sg b) ↔ a = b := ⟨fun h => by
  have := congrArg TL.tl h
  rw [vD, vD] at this
  exact List.head_eq_of_cons_eq this, fun h => by rw [h]⟩
theorem BL {h : Hd} {w : Str} {Q : D → Sd → Hd → Prop} {E : Ex} (hl : w.length ≤ 100000) (kk : Q (optN (jW 61 w)) [] h) : Wq Q E () (bW [.str w] h) := by
  have al : ∀ H, QV H [.lst ((TL.tl w).map fun c => D.bl (decide (48 ≤ c ∧ c ≤ 57)))] = some (.bl ((TL.tl w).all fun c => decide (48 ≤ c ∧ c ≤ 57))) := fun _ => Mr _ _
  have hln : ∀ H, pO H [.str w] = some (.int (w.length : Nat)) := fun _ => len_str hl
  have no : ¬ (isN w = true ∧ w.length ≤ 61) → jW 61 w = none := fun hn => if_neg hn
  have nn := Jp w
  by_cases h0 : w = ""
  · rw [no (by rw [nn, h0]; simp)] at kk
    simp! [dF, dD, dO, bW, eV, decide_eq_true h0]
    exact kk
  by_cases h1 : w.length ≤ 61
  · simp! [dF, dD, dO, bW, eV, decide_eq_false h0, hln, decide_eq_false (show ¬ (61 : Int) < (w.length : Nat) by omega), ↓CT, aZ]
    refine Wq.cfm (fun _ => true) (fun d => .bl (CN d)) (by rw [wR]; omega) ?_ ?_
    · intro i x ex
      obtain ⟨c, _, rfl⟩ := signs_get ex
      simp! [jm, LC]
      trivial
    · have em : (((kY w).filter fun _ => true).map fun d => D.bl (CN d)) = (TL.tl w).map fun c => D.bl (decide (48 ≤ c ∧ c ≤ 57)) := by
        rw [List.filter_eq_self.mpr fun _ _ => rfl, kY, List.map_map]
        rfl
      rw [em]
      simp! [al]
      cases ha : (TL.tl w).all fun c => decide (48 ≤ c ∧ c ≤ 57) with
      | false =>
        rw [no (by rw [nn, ha]; simp)] at kk
        simp!
        exact kk
      | true =>
        by_cases h2 : w = "0"
        · have e1 : jW 61 w = some 0 := by
            rw [h2]
            decide +kernel
          rw [e1] at kk
          simp! [eV, decide_eq_true h2]
          have e2 : Gm h [.str w] = some (.int 0) := by
            rw [h2]
            have e3 : intText? (Str.ofString "0") = some 0 := by decide +kernel
            show (if (Str.ofString "0").length ≤ 640 then (intText? "0").map D.int else none) = _
            rw [if_pos (by decide +kernel), e3]
            rfl
          simp! [e2]
          exact kk
        · cases q : (TL.tl w).head? with
          | none => exact (h0 (rY.mp (List.head?_eq_none_iff.mp q))).elim
          | some c =>
            by_cases h3 : c = 48
            · rw [no (by rw [nn, q, h3]; simp [h2])] at kk
              simp! [eV, decide_eq_false h2, ix0 hl q, decide_eq_true (show sg c = Str.ofString "0" from (z8.mpr h3).trans z7.symm)]
              exact kk
            · have hN : isN w = true := by
                rw [nn, ha, q]
                simp [h0, h3]
              obtain ⟨n, en⟩ := EY hN
              have e1 : jW 61 w = some n := by
                rw [en]
                exact pF (by rw [← en]; exact h1)
              rw [e1] at kk
              have e2 : Gm h [.str w] = some (.int (n : Int)) := by
                show (if w.length ≤ 640 then (intText? w).map D.int else none) = _
                rw [if_pos (by omega), en, Ah (by rw [← en]; omega)]
                rfl
              simp! [eV, decide_eq_false h2, ix0 hl q, decide_eq_false (show ¬ sg c = Str.ofString "0" from fun z => h3 (z8.mp (z.trans z7))), e2]
              exact kk
  · rw [no fun z => h1 z.2] at kk
    simp! [dF, dD, dO, bW, eV, decide_eq_false h0, hln, decide_eq_true (show (61 : Int) < (w.length : Nat) by omega)]
    exact kk
theorem qm : (Str.ofString "\n") = sg 10 := by decide +kernel
theorem vf : (Str.ofString " ") = sg 32 := by decide +kernel
theorem add_str {h : Hd} {x y : Str} (hl : x.length + y.length ≤ 100000) : cP h (.str x) (.str y) = some (.str (x ++ y)) := by
  show (if x.length + y.length ≤ 100000 then some (D.str (x ++ y)) else none) = _
  rw [if_pos hl]
theorem j5 {h : Hd} {n : Nat} (hn : n < 10 ^ 62) : uN h [.int (n : Int)] = some (.str (nS n)) := by
  refine str_int ?_
  rw [Int.natAbs_natCast]
  by_cases h0 : n = 0
  · rw [h0]; decide
  · exact Nat.lt_trans ((Nat.log2_lt h0).mpr (Nat.lt_trans hn (by decide : 10 ^ 62 < 2 ^ 207))) (by decide)
theorem Bm {xs : List D} {d : D} : cut (xs ++ [d]) none (some (-1)) = xs := by
  have e : HT.sIx (xs ++ [d]).length (xs ++ [d]).length (some (-1)) = xs.length := by
    show (if (-1 : Int) < 0 then ((-1 : Int) + ((xs ++ [d]).length : Int)).toNat else min (-1 : Int).toNat (xs ++ [d]).length) = _
    rw [if_pos (by decide), List.length_append, List.length_singleton]
    omega
  unfold cut
  rw [e]
  have z : HT.sIx (xs ++ [d]).length 0 none = 0 := rfl
  rw [z]
  simp
theorem Du {h : Hd} {xs : List D} {d : D} : slD h (.lst (xs ++ [d])) none (some (-1)) = some (.lst xs) := by
  show some (D.lst (cut (xs ++ [d]) none (some (-1)))) = _
  rw [Bm]
theorem Bs {xs : List D} {d : D} : atI (xs ++ [d]) (-1) = some d := by
  unfold atI
  have e : ixN (xs ++ [d]).length (-1) = some xs.length := by
    unfold ixN
    simp
    omega
  rw [e]
  simp
theorem pieces {x : Str} {k : Nat} (hk : k < 256) : ∃ (ls : List Str) (r : Str), Txt.split x (sg k) = ls ++ [r] ∧ (∀ p ∈ ls ++ [r], k ∉ TL.tl p) ∧ Str.join (sg k) (ls ++ [r]) = x := by
  obtain ⟨ps, e, hn, hf, hj⟩ := cX (x := x) hk
  rcases List.eq_nil_or_concat ps with z | ⟨ls, r, z⟩
  · exact absurd z hn
  · rw [List.concat_eq_append] at z
    subst z
    exact ⟨ls, r, e, hf, hj⟩
theorem cV {h : Hd} {a b : Int} : eqX h (.int a) (.int b) = some (.bl (decide (a = b))) := rfl
def wY (c d e z : Str) : Option (Nat × Nat × Nat × Nat) := match jW 61 c, jW 61 d, jW 61 e, jW 61 z with
  | some i, some j, some k, some p => if p = 0 then none else some (i, j, k, p)
  | _, _, _, _ => none
def sO (n : Nat) : List Str → Option (Nat × Nat × Nat × Nat)
  | [a, b, c, d, e, g, z] => if a = "job" ∧ b = nS n ++ ":" ∧ g = "/" then wY c d e z else none
  | _ => none
def Tt : Option (Nat × Nat × Nat × Nat) → D
  | none => .non
  | some (i, j, k, p) => .lst [.int i, .int j, .int k, .int p]
theorem seven {α : Type} : ∀ {l : List α}, l.length = 7 → ∃ a b c d e g z, l = [a, b, c, d, e, g, z]
  | [a, b, c, d, e, g, z], _ => ⟨a, b, c, d, e, g, z, rfl⟩
theorem vM {n : Nat} {l : List Str} (h : l.length ≠ 7) : sO n l = none := by
  unfold sO
  split
  · exact absurd rfl h
  · rfl
theorem Lz {h : Hd} {a b c d : Option Nat} : inX h .non (.lst [optN a, optN b, optN c, optN d]) = some (.bl (!(a.isSome && b.isSome && c.isSome && d.isSome))) := by
  cases a <;> cases b <;> cases c <;> cases d <;> rfl
theorem m9 {s : String} (h : (Str.ofString s).cps.toList.all (fun c => decide (c < 128)) = true) : As (Str.ofString s) := fun c hc => of_decide_eq_true (List.all_eq_true.mp h c hc)
theorem yN {h : Hd} {n : Nat} {w : Str} {Q : D → Sd → Hd → Prop} {E : Ex} (hn : n < 100000) (hl : w.length ≤ 50000) (ha : As w) (kk : Q (Tt (sO n (Txt.split w (sg 32)))) [] h) : Wq Q E () (aU [.int (n : Int), .str w] h) := by
  obtain ⟨ps, e, hp, hf, hj⟩ := cX (x := w) (k := 32) (by decide)
  have pl := jy hp hj
  have pa := ha.piece hj
  rw [e] at kk
  have lp : ∀ H, pO H [.lst (ps.map .str)] = some (.int ((ps.length : Nat) : Int)) := fun _ => by
    show some (D.int ((ps.map D.str).length : Nat)) = _
    rw [List.length_map]
  have s0 : (0 < (Str.ofString " ").length ∧ w.length ≤ 100000) := ⟨by decide, by omega⟩
  have ex : Txt.split w (Str.ofString " ") = ps := by rw [vf, e]
  by_cases h7 : ps.length = 7
  · obtain ⟨a, b, c, d, e2, g, z, rfl⟩ := seven h7
    have ea : ∀ x ∈ [a, b], As x := fun x hx => pa x (by simp at hx; rcases hx with rfl | rfl <;> simp)
    have hcl : nS n ++ ":" = nS n ++ Str.ofString ":" := rfl
    have en : ∀ x ∈ [Str.ofString "job", nS n ++ ":"], As x := fun x hx => by
      simp at hx
      rcases hx with rfl | rfl
      · exact m9 (by decide +kernel)
      · exact (Iu n).app (m9 (by decide +kernel))
    have q2 : ∀ H, neX H (.lst [.str a, .str b]) (.lst [.str "job", .str (nS n ++ ":")]) = some (.bl (!decide ([a, b] = [Str.ofString "job", nS n ++ ":"]))) := fun H => Hi (h := H) ea en
    have nl := oH (n := n) (k := 5) (by decide) (by omega)
    have sn : ∀ H, uN H [.int (n : Int)] = some (.str (nS n)) := fun H => j5 (Nat.lt_trans hn (by decide))
    have l1 : (Str.ofString ":").length = 1 := by decide +kernel
    have ad : ∀ H, cP H (.str (nS n)) (.str ":") = some (.str (nS n ++ ":")) := fun H => add_str (by rw [l1]; omega)
    have c1 : ∀ H, slD H (.lst [.str a, .str b, .str c, .str d, .str e2, .str g, .str z]) none (some 2) = some (.lst [.str a, .str b]) := fun _ => rfl
    have c2 : ∀ H, slD H (.lst [.str a, .str b, .str c, .str d, .str e2, .str g, .str z]) (some 2) (some 5) = some (.lst [.str c, .str d, .str e2]) := fun _ => rfl
    have c3 : ∀ H, slD H (.lst [.str a, .str b, .str c, .str d, .str e2, .str g, .str z]) (some 6) none = some (.lst [.str z]) := fun _ => rfl
    have a5 : atI [D.str a, .str b, .str c, .str d, .str e2, .str g, .str z] 5 = some (.str g) := jT (by decide) rfl
    by_cases hab : [a, b] = [Str.ofString "job", nS n ++ ":"]
    · by_cases hg : g = "/"
      · have er : sO n [a, b, c, d, e2, g, z] = wY c d e2 z := by
          have h0 := List.cons.inj hab
          exact if_pos ⟨h0.1, (List.cons.inj h0.2).1, hg⟩
        rw [er] at kk
        have av : ∀ H, cP H (.lst [.str c, .str d, .str e2]) (.lst [.str z]) = some (.lst [.str c, .str d, .str e2, .str z]) := fun _ => rfl
        simp! [bD, bA, bx, bh, bK, aU, ↓y_split, aZ, s0, ex, List.map, iw, cM, c1, q2, sn, ad, decide_eq_true hab, a5, decide_eq_true hg, c2, c3, av, dM]
        refine Wq.cfm (fun _ => true) (fun x => match x with | .str x => optN (jW 61 x) | _ => .non) (by simp) ?_ ?_
        · intro i x ex
          have hx : ∃ y : Str, x = .str y ∧ y.length ≤ 100000 := by
            have hm : x ∈ [D.str c, .str d, .str e2, .str z] := List.mem_of_getElem? ex
            simp at hm
            rcases hm with rfl | rfl | rfl | rfl
            · exact ⟨_, rfl, by have := pl.2 c (by simp); omega⟩
            · exact ⟨_, rfl, by have := pl.2 d (by simp); omega⟩
            · exact ⟨_, rfl, by have := pl.2 e2 (by simp); omega⟩
            · exact ⟨_, rfl, by have := pl.2 z (by simp); omega⟩
          obtain ⟨y, rfl, hy⟩ := hx
          simp! [dM]
          refine BL hy ?_
          simp!
        · show Wq _ _ () _
          have e5 : (([D.str c, .str d, .str e2, .str z].filter fun _ => true).map fun x => match x with | .str x => optN (jW 61 x) | _ => .non) = [optN (jW 61 c), optN (jW 61 d), optN (jW 61 e2), optN (jW 61 z)] := rfl
          rw [e5]
          simp! [Lz]
          unfold wY at kk
          cases q1 : jW 61 c with
          | none => simp only [q1] at kk; simp!; exact kk
          | some i =>
            cases q2 : jW 61 d with
            | none => simp only [q1, q2] at kk; simp!; exact kk
            | some j =>
              cases q3 : jW 61 e2 with
              | none => simp only [q1, q2, q3] at kk; simp!; exact kk
              | some k =>
                cases q4 : jW 61 z with
                | none => simp only [q1, q2, q3, q4] at kk; simp!; exact kk
                | some p =>
                  simp only [q1, q2, q3, q4] at kk
                  have a3 : atI [D.int (i : Int), .int (j : Int), .int (k : Int), .int (p : Int)] 3 = some (.int (p : Int)) := jT (by decide) rfl
                  by_cases hz : p = 0
                  · rw [if_pos hz] at kk
                    simp! [optN, a3, cV, Option.isSome_some, Bool.and_self, decide_eq_true (show (p : Int) = 0 by omega)]
                    exact kk
                  · rw [if_neg hz] at kk
                    simp! [optN, a3, cV, Option.isSome_some, Bool.and_self, decide_eq_false (show ¬ (p : Int) = 0 by omega)]
                    exact kk
      · have er : sO n [a, b, c, d, e2, g, z] = none := if_neg fun h => hg h.2.2
        rw [er] at kk
        simp! [bD, bA, bx, bh, bK, aU, ↓y_split, aZ, s0, ex, List.map, iw, cM, c1, q2, sn, ad, decide_eq_true hab, a5, decide_eq_false hg]
        exact kk
    · have er : sO n [a, b, c, d, e2, g, z] = none := if_neg fun h => hab (by rw [h.1, h.2.1])
      rw [er] at kk
      simp! [bD, bA, bx, bh, bK, aU, ↓y_split, aZ, s0, ex, List.map, iw, cM, c1, q2, sn, ad, decide_eq_false hab]
      exact kk
  · rw [vM h7] at kk
    simp! [bD, bA, bx, bh, bK, aU, ↓y_split, aZ, s0, ex, lp, iw, decide_eq_false (show ¬ ((ps.length : Nat) : Int) = 7 by omega)]
    exact kk
theorem Cg {h : Hd} {x : Str} {ls : List Str} {r : Str} {Q : D → Sd → Hd → Prop} {E : Ex} (hl : x.length ≤ 50000) (e : Txt.split x (sg 10) = ls ++ [r]) (kk : Q (.tup [.lst (ls.map .str), .str r]) [] h) : Wq Q E () (jc [.str x] h) := by
  have s0 : (0 < (Str.ofString "\n").length ∧ x.length ≤ 100000) := ⟨by decide, by omega⟩
  have ex : (Txt.split x (Str.ofString "\n")).map D.str = ls.map D.str ++ [.str r] := by rw [qm, e, List.map_append]; rfl
  have s1 : ∀ H, slD H (.lst (ls.map D.str ++ [.str r])) none (some (-1)) = some (.lst (ls.map .str)) := fun _ => Du
  have s2 : atI (ls.map D.str ++ [.str r]) (-1) = some (.str r) := Bs
  simp! [nZ, nY, pY, jc, ↓y_split, aZ, s0, ex, s1, s2, show (2 : Nat) ≤ 100000 by decide]
  exact kk
def goP : Nat → List Nat → Option Nat → List Str → Nat ⊕ (List Nat × Option Nat)
  | _, ns, p, [] => .inr (ns, p)
  | k, ns, p, l :: ls => match sO k (Txt.split l (sg 32)) with
    | none => .inl k
    | some (a, b, c, q) => if 8 ≤ k ∨ (p ≠ none ∧ p ≠ some q) then .inl k else goP (k + 1) (ns ++ [a, b, c]) (some q) ls
theorem oW {k : Nat} {ns : List Nat} {p : Option Nat} {l : Str} {ls : List Str} : goP k ns p (l :: ls) = match sO k (Txt.split l (sg 32)) with
    | none => .inl k
    | some (a, b, c, q) => if 8 ≤ k ∨ (p ≠ none ∧ p ≠ some q) then .inl k else goP (k + 1) (ns ++ [a, b, c]) (some q) ls := rfl
theorem Fj {k : Nat} {ns : List Nat} {p : Option Nat} : goP k ns p [] = .inr (ns, p) := rfl
def endP (ls : List Str) (r : Str) : Nat ⊕ (List Nat × Option Nat) := match goP 0 [] none ls with
  | .inl k => .inl k
  | .inr x => if ls = [] ∨ ¬ r = "" then .inl ls.length else .inr x
theorem vA {ls : List Str} {r : Str} {k : Nat} (e : goP 0 [] none ls = .inl k) : endP ls r = .inl k := by
  unfold endP
  rw [e]
theorem Bg {ls : List Str} {r : Str} {x : List Nat × Option Nat} (e : goP 0 [] none ls = .inr x) : endP ls r = if ls = [] ∨ ¬ r = "" then .inl ls.length else .inr x := by
  unfold endP
  rw [e]
def fM (ns : List Nat) : List D := ns.map fun n : Nat => .int (n : Int)
theorem Lr {h : Hd} {xs : List D} : Qh h (.lst xs) .non = some (.bl false) := rfl
theorem Uu {h : Hd} : Qh h .non .non = some (.bl true) := rfl
theorem sJ {i j k p : Nat} : Tt (some (i, j, k, p)) = .lst [.int i, .int j, .int k, .int p] := rfl
theorem Af {h : Hd} {p : Option Nat} {q : Nat} : O8 h (optN p) (.tup [.non, .int (q : Int)]) = some (.bl (decide (p ≠ none ∧ p ≠ some q))) := by
  cases p with
  | none => rfl
  | some p =>
    show some (D.bl (!((false : Bool) || ((decide ((q : Int) = (p : Int))) || false)))) = _
    by_cases hp : p = q
    · subst hp; simp
    · simp [hp, show ¬ (q : Int) = (p : Int) by omega]
theorem G5 {h : Hd} {x : Str} {ls : List Str} {r : Str} {Q : D → Sd → Hd → Prop} {E : Ex} (hl : x.length ≤ 50000) (ha : As x) (e : Txt.split x (sg 10) = ls ++ [r])
    (kk : match endP ls r with | .inl k => E "ParseError" [("line", .int (k : Int))] [] h | .inr (ns, p) => Q (.tup [.tup (fM ns), optN p]) [] h) : Wq Q E () (d9 [.str x] h) := by
  obtain ⟨ps, e2, hp, hf, hj⟩ := cX (x := x) (k := 10) (by decide)
  rw [e] at e2
  subst e2
  have pl := jy hp hj
  have pa := ha.piece hj
  have hll : ls.length ≤ 50000 := by have := pl.1; rw [List.length_append, List.length_singleton] at this; omega
  simp! [jK, jJ, jH, jG, jF, jA, d9]
  refine Cg hl e ?_
  simp!
  refine Wq.loop (fun i s h' => (∃ ns p s5 s6 s7, s = [.val (.str x), .val (.lst (ls.map .str)), .val (.str r), .val (.lst (fM ns)), .val (optN p), s5, s6, s7] ∧ ns.length ≤ 3 * i ∧ goP 0 [] none ls = goP i ns p (ls.drop i)) ∧ h' = h) ⟨⟨[], none, _, _, _, rfl, Nat.le_refl _, rfl⟩, rfl⟩ ?_ ?_
  · rintro i y s h' ey ⟨⟨ns, p, s5, s6, s7, rfl, hns, eg⟩, rfl⟩
    obtain ⟨d, ed, rfl⟩ := lH 0 _ i y ey
    rw [Nat.zero_add]
    have hi : i < ls.length := by
      have := (List.getElem?_eq_some_iff.mp ed).1
      rwa [List.length_map] at this
    have ed2 : d = .str ls[i] := by
      rw [List.getElem?_map, List.getElem?_eq_getElem hi] at ed
      exact (Option.some.inj ed).symm
    subst ed2
    rw [List.drop_eq_getElem_cons hi] at eg
    have hm : ls[i] ∈ ls ++ [r] := List.mem_append_left _ (List.getElem_mem hi)
    rw [oW] at eg
    simp! [jM]
    refine yN (by omega) (by have := pl.2 _ hm; omega) (pa _ hm) ?_
    cases er : sO i (Txt.split ls[i] (sg 32)) with
    | none =>
      rw [er] at eg
      rw [vA eg] at kk
      simp! [Tt, Uu]
      exact kk
    | some q =>
      obtain ⟨a, b, c, q⟩ := q
      rw [er] at eg
      have eg2 : goP 0 [] none ls = if 8 ≤ i ∨ (p ≠ none ∧ p ≠ some q) then .inl i else goP (i + 1) (ns ++ [a, b, c]) (some q) (ls.drop (i + 1)) := eg
      have a3 : atI [D.int (a : Int), .int (b : Int), .int (c : Int), .int (q : Int)] 3 = some (.int (q : Int)) := jT (by decide) rfl
      have c3 : ∀ H, slD H (.lst [D.int (a : Int), .int (b : Int), .int (c : Int), .int (q : Int)]) none (some 3) = some (.lst [.int a, .int b, .int c]) := fun _ => rfl
      by_cases h8 : 8 ≤ i
      · rw [if_pos (.inl h8)] at eg2
        rw [vA eg2] at kk
        simp! [sJ, Lr, decide_eq_true (show (8 : Int) ≤ (i : Int) by omega)]
        exact kk
      · by_cases hq : p ≠ none ∧ p ≠ some q
        · rw [if_pos (.inr hq)] at eg2
          rw [vA eg2] at kk
          simp! [sJ, Lr, decide_eq_false (show ¬ (8 : Int) ≤ (i : Int) by omega), a3, Af, decide_eq_true hq]
          exact kk
        · rw [if_neg (by rintro (z | z); exact h8 z; exact hq z)] at eg2
          have ad : ∀ H, cP H (.lst (fM ns)) (.lst [.int a, .int b, .int c]) = some (.lst (fM (ns ++ [a, b, c]))) := fun _ => by
            show (if (fM ns).length + 3 ≤ 100000 then some (D.lst (fM ns ++ [.int a, .int b, .int c])) else none) = _
            rw [if_pos (by simp [fM]; omega)]
            simp [fM]
          simp! [sJ, Lr, decide_eq_false (show ¬ (8 : Int) ≤ (i : Int) by omega), a3, Af, decide_eq_false hq, c3, ad]
          exact ⟨_, some q, _, _, _, rfl, by simp; omega, eg2⟩
  · rintro s h' ⟨⟨ns, p, s5, s6, s7, rfl, hns, eg⟩, rfl⟩
    rw [lD, List.length_map, List.drop_length] at eg
    rw [Fj] at eg
    rw [Bg eg] at kk
    have e1 : ∀ H, eqX H (.lst (ls.map .str)) (.lst []) = some (.bl (decide (ls = []))) := fun H => Ih (h := H) (b := []) (fun z hz => pa z (List.mem_append_left _ hz)) (fun z hz => nomatch hz)
    have lp : ∀ H, pO H [.lst (ls.map .str)] = some (.int ((ls.length : Nat) : Int)) := fun _ => by
      show some (D.int ((ls.map D.str).length : Nat)) = _
      rw [List.length_map]
    by_cases h0 : ls = []
    · have kk2 : E "ParseError" [("line", .int (ls.length : Int))] [] h' := by
        rw [if_pos (.inl h0)] at kk
        exact kk
      simp! [e1, decide_eq_true h0, lp]
      exact kk2
    · by_cases hr : r = ""
      · have kk2 : Q (.tup [.tup (fM ns), optN p]) [] h' := by
          rw [if_neg (by rintro (z | z); exact h0 z; exact z hr)] at kk
          exact kk
        simp! [e1, decide_eq_false h0, decide_eq_true hr, show (2 : Nat) ≤ 100000 by decide]
        exact kk2
      · have kk2 : E "ParseError" [("line", .int (ls.length : Int))] [] h' := by
          rw [if_pos (.inr hr)] at kk
          exact kk
        simp! [e1, decide_eq_false h0, decide_eq_false hr, lp]
        exact kk2
def wL : Nat ⊕ (List Nat × Option Nat) → D
  | .inl k => .tup [.str "line", .int (k : Int)]
  | .inr (ns, p) => .tup [.str "told", .tup [.tup (fM ns), optN p]]
theorem yE {h : Hd} {x : Str} {ls : List Str} {r : Str} {Q : D → Sd → Hd → Prop} {E : Ex} (hl : x.length ≤ 50000) (ha : As x) (e : Txt.split x (sg 10) = ls ++ [r])
    (kk : Q (wL (endP ls r)) [] h) : Wq Q E () (aH [.str x] h) := by
  simp! [ju, ou, oh, pZ, aH]
  refine G5 hl ha e ?_
  cases ee : endP ls r with
  | inl k =>
    rw [ee] at kk
    simp! [ju, List.lookup_cons_self]
    exact kk
  | inr z =>
    obtain ⟨ns, p⟩ := z
    rw [ee] at kk
    simp!
    exact kk
theorem Bw (w : Str) : kY w = ((TL.tl w).map sg).map D.str := by
  rw [List.map_map]
  rfl
theorem yc (p : D → Bool) : ∀ xs : List Str, (xs.map D.str).filter p = (xs.filter fun x => p (.str x)).map D.str
  | [] => rfl
  | x :: xs => by
    rw [List.map_cons, List.filter_cons, List.filter_cons, yc p xs]
    split <;> simp_all
theorem Cp {h : Hd} {w : Str} {Q : D → Sd → Hd → Prop} {E : Ex} (hl : w.length ≤ 50000) (ha : As w) (kk : Q (.bl (isN w)) [] h) : Wq Q E () (dI [.str w] h) := by
  have nn := Jp w
  by_cases h0 : w = ""
  · have e : isN w = false := by rw [nn, h0]; rfl
    rw [e] at kk
    simp! [fL, fK, fZ, dI, eV, decide_eq_true h0]
    exact kk
  · simp! [fL, fK, fZ, dI, eV, decide_eq_false h0, ↓CT, aZ]
    refine Wq.cfm (fun d => !CN d) id (by rw [wR]; omega) ?_ ?_
    · intro i x ex
      obtain ⟨c, _, rfl⟩ := signs_get ex
      have e : CN (.str ⟨#[c]⟩) = decide (48 ≤ c ∧ c ≤ 57) := rfl
      simp! [jQ, Hf, e]
      cases decide (48 ≤ c ∧ c ≤ 57) <;> simp! [jR]
      rfl
    · have em : ((kY w).filter fun d => !CN d).map id = (((TL.tl w).map sg).filter fun x => !CN (.str x)).map D.str := by
        rw [List.map_id, Bw, yc]
      have fa : ∀ x ∈ ((TL.tl w).map sg).filter fun x => !CN (.str x), As x := fun x hx => by
        obtain ⟨c, hc, rfl⟩ := List.mem_map.mp (List.mem_filter.mp hx).1
        exact Ir (ha c hc)
      have ne : ∀ H, neD H (.lst ((((TL.tl w).map sg).filter fun x => !CN (.str x)).map D.str)) (.lst []) = some (.bl (!decide (((TL.tl w).map sg).filter (fun x => !CN (.str x)) = []))) := fun H => Ag (h := H) (b := []) fa (fun z hz => nomatch hz)
      have iff : (((TL.tl w).map sg).filter (fun x => !CN (.str x)) = []) ↔ ((TL.tl w).all fun c => decide (48 ≤ c ∧ c ≤ 57)) = true := by
        rw [List.filter_eq_nil_iff, List.all_eq_true]
        refine ⟨fun h c hc => ?_, fun h x hx => ?_⟩
        · have := h (sg c) (List.mem_map_of_mem hc)
          have e : CN (.str (sg c)) = decide (48 ≤ c ∧ c ≤ 57) := rfl
          rw [e] at this
          simpa using this
        · obtain ⟨c, hc, rfl⟩ := List.mem_map.mp hx
          have e : CN (.str (sg c)) = decide (48 ≤ c ∧ c ≤ 57) := rfl
          rw [e, h c hc]
          decide
      rw [em]
      simp! [ne]
      by_cases hd : ((TL.tl w).all fun c => decide (48 ≤ c ∧ c ≤ 57)) = true
      · simp! [decide_eq_true (iff.mpr hd)]
        by_cases h2 : w = "0"
        · have e : isN w = true := by rw [nn, hd, decide_eq_false h0, decide_eq_true h2]; rfl
          rw [e] at kk
          simp! [eV, decide_eq_true h2]
          exact kk
        · cases q : (TL.tl w).head? with
          | none => exact (h0 (rY.mp (List.head?_eq_none_iff.mp q))).elim
          | some c =>
            by_cases h3 : c = 48
            · have e : isN w = false := by rw [nn, q, h3]; simp [h2]
              rw [e] at kk
              simp! [eV, decide_eq_false h2, ix0 (by omega) q, decide_eq_true (show sg c = Str.ofString "0" from (z8.mpr h3).trans z7.symm)]
              exact kk
            · have e : isN w = true := by rw [nn, hd, q]; simp [h0, h3]
              rw [e] at kk
              simp! [eV, decide_eq_false h2, ix0 (by omega) q, decide_eq_false (show ¬ sg c = Str.ofString "0" from fun z => h3 (z8.mp (z.trans z7)))]
              exact kk
      · have e : isN w = false := by
          rw [nn]
          simp only [Bool.not_eq_true] at hd
          rw [hd]
          simp
        rw [e] at kk
        simp! [decide_eq_false (fun z => hd (iff.mp z))]
        exact kk
abbrev hdS (n : Nat) : Str := Str.ofString "job " ++ nS n ++ Str.ofString ": "
theorem JX (n : Nat) : TL.tl (hdS n) = [106, 111, 98] ++ ([32] ++ ((TL.numL n ++ [58]) ++ ([32] ++ []))) := by
  rw [TL.tl_append, TL.tl_append, jZ]
  have e1 : TL.tl (Str.ofString "job ") = [106, 111, 98, 32] := by decide +kernel
  have e2 : TL.tl (Str.ofString ": ") = [58, 32] := by decide +kernel
  rw [e1, e2]
  simp
theorem u6 : TL.tl (Str.ofString "job") = [106, 111, 98] := by decide +kernel
theorem zM : TL.tl (Str.ofString ":") = [58] := by decide +kernel
theorem IW {w : Str} {k : Nat} : TL.tl (cutS w none (some (k : Int))) = (TL.tl w).take k := by
  show (w.cps.toList.drop (HT.sIx w.length 0 none)).take (HT.sIx w.length w.length (some (k : Int)) - HT.sIx w.length 0 none) = _
  rw [HT.sIx_none, HT.sIx_nat, List.drop_zero, Nat.sub_zero]
  have e : w.length = w.cps.toList.length := TL.len_tl w
  by_cases hk : k ≤ w.length
  · rw [Nat.min_eq_left hk]
  · have e2 : (TL.tl w).length = w.length := (TL.len_tl w).symm
    rw [Nat.min_eq_right (by omega), List.take_of_length_le (by omega), List.take_of_length_le (by omega)]
theorem Ax {n : Nat} {w a b : Str} {r : List Str} (hr : r ≠ []) (hj : Str.join (sg 32) (a :: b :: r) = w) (hf : ∀ p ∈ a :: b :: r, 32 ∉ TL.tl p) : cutS w none (some (((hdS n).length : Nat) : Int)) = hdS n ↔ a = "job" ∧ b = nS n ++ ":" := by
  have ew : TL.tl w = TL.tl a ++ ([32] ++ (TL.tl b ++ ([32] ++ TL.joinL [32] (r.map TL.tl)))) := by
    rw [← hj, TL.tl_join]
    cases r with
    | nil => exact absurd rfl hr
    | cons c r => rfl
  have es : TL.spl [32] 0 [] (TL.tl w) = (a :: b :: r).map TL.tl := by
    rw [← hj, TL.tl_join]
    exact TL.spl_join (s := 32) (S := []) (by simp) fun p hp => by
      obtain ⟨z, hz, rfl⟩ := List.mem_map.mp hp
      exact hf z hz
  refine ⟨fun e => ?_, fun e => ?_⟩
  · have e1 : (TL.tl w).take (hdS n).length = TL.tl (hdS n) := by rw [← IW, e]
    have e2 : TL.tl w = TL.tl (hdS n) ++ (TL.tl w).drop (hdS n).length := by rw [← e1, List.take_append_drop]
    rw [JX] at e2
    have e3 : TL.tl w = [106, 111, 98] ++ ([32] ++ ((TL.numL n ++ [58]) ++ ([32] ++ (TL.tl w).drop (hdS n).length))) := by
      rw [← List.append_assoc, ← List.append_assoc, ← List.append_assoc]
      simpa [List.append_assoc] using e2
    rw [e3, TL.spl_part1 (s := 32) (S := []) (by decide), TL.spl_part1 (s := 32) (S := []) (fun hm => by
      rcases List.mem_append.mp hm with z | z
      · exact TL.numL_free (.inl (by decide)) z
      · exact absurd z (by decide))] at es
    have h1 := List.cons.inj es
    have h2 := List.cons.inj h1.2
    refine ⟨TL.ext_tl (h1.1.symm.trans (u6.symm)), TL.ext_tl ?_⟩
    rw [TL.tl_append, jZ, zM]
    exact h2.1.symm
  · obtain ⟨rfl, rfl⟩ := e
    refine TL.ext_tl ?_
    rw [IW, ew, TL.tl_append, jZ, u6, zM]
    have e : (hdS n).length = ([106, 111, 98] ++ ([32] ++ ((TL.numL n ++ [58]) ++ ([32] ++ [])))).length := by rw [TL.len_tl, JX]
    rw [e, JX]
    have e2 : ([106, 111, 98] ++ ([32] ++ ((TL.numL n ++ [58]) ++ ([32] ++ TL.joinL [32] (r.map TL.tl)))) : List Nat) = ([106, 111, 98] ++ ([32] ++ ((TL.numL n ++ [58]) ++ ([32] ++ [])))) ++ TL.joinL [32] (r.map TL.tl) := by simp
    rw [e2, List.take_left]
def okN (w : Str) : Bool := isN w && decide (w.length ≤ 61)
theorem rE {w : Str} (h : okN w = true) : ∃ n, w = nS n ∧ jW 61 w = some n ∧ (nS n).length ≤ 61 := by
  unfold okN at h
  rw [Bool.and_eq_true, decide_eq_true_eq] at h
  obtain ⟨n, rfl⟩ := EY h.1
  exact ⟨n, rfl, pF h.2, h.2⟩
theorem rF {w : Str} (h : okN w = false) : jW 61 w = none := by
  refine if_neg fun z => ?_
  unfold okN at h
  rw [z.1, decide_eq_true z.2] at h
  cases h
theorem KJ {n : Nat} : nS n = "0" ↔ n = 0 := ⟨fun h => Jj (h.trans (by decide +kernel)), fun h => by rw [h]; decide +kernel⟩
def okF : D → Bool
  | .str w => !okN w
  | _ => false
theorem vR (w : Str) : okF (.str w) = !okN w := rfl
theorem Bb : ∀ l : List Str, (((l.map D.str).filter okF).map fun _ => (1 : Int)).isEmpty = l.all okN
  | [] => rfl
  | w :: l => by
    have ih := Bb l
    rw [List.map_cons, List.filter_cons, vR, List.all_cons]
    cases h : okN w with
    | false => rfl
    | true => exact ih
def Ol : Option Nat → Str
  | none => ""
  | some q => nS q
theorem pB (q : Nat) : Ol (some q) = nS q := rfl
theorem Av {x0 x1 x2 x3 x4 x5 x6 x7 : Sl} {h : Hd} {n1 n2 n3 : Nat} {Q : List D → Sd → Hd → Prop} {E : Ex} (v1 : (nS n1).length ≤ 61) (v2 : (nS n2).length ≤ 61) (v3 : (nS n3).length ≤ 61)
    (kk : Q (fM [n1, n2, n3]) [x0, x1, x2, x3, x4, x5, x6, x7, .no] h) : Wq Q E () (fY [8] (gN 8) yC dY [.str (nS n1), .str (nS n2), .str (nS n3)] [] [x0, x1, x2, x3, x4, x5, x6, x7, .no] h) := by
  have i3 : ∀ n : Nat, (nS n).length ≤ 61 → ∀ H, Gm H [.str (nS n)] = some (.int (n : Int)) := fun n hn H => by
    show (if (nS n).length ≤ 640 then (intText? (nS n)).map D.int else none) = _
    rw [if_pos (by omega), Ah (by omega)]
    rfl
  refine Wq.cfm (fun _ => true) (fun d => match d with | .str w => .int ((NumText.digitsVal (TL.tl w) : Nat) : Int) | _ => .non) (by simp) ?_ ?_
  · intro j x ex
    have hm : x ∈ [D.str (nS n1), .str (nS n2), .str (nS n3)] := List.mem_of_getElem? ex
    have hx : ∃ n : Nat, x = .str (nS n) ∧ (nS n).length ≤ 61 := by
      simp only [List.mem_cons, List.not_mem_nil, or_false] at hm
      rcases hm with rfl | rfl | rfl
      · exact ⟨_, rfl, v1⟩
      · exact ⟨_, rfl, v2⟩
      · exact ⟨_, rfl, v3⟩
    obtain ⟨n, rfl, hn⟩ := hx
    simp! [dY, i3 n hn]
    rw [jZ, TL.numL_val]
  · have em : (([D.str (nS n1), .str (nS n2), .str (nS n3)].filter fun _ => true).map fun d => match d with | .str w => D.int ((NumText.digitsVal (TL.tl w) : Nat) : Int) | _ => .non) = fM [n1, n2, n3] := by
      simp only [List.filter_cons, List.filter_nil, if_true, List.map_cons, List.map_nil, jZ, TL.numL_val]
      rfl
    rw [em]
    exact kk
theorem Cj {h : Hd} {x : Str} {ls : List Str} {r : Str} {Q : D → Sd → Hd → Prop} {E : Ex} (hl : x.length ≤ 50000) (ha : As x) (e : Txt.split x (sg 10) = ls ++ [r])
    (kk : Q (wL (endP ls r)) [] h) : Wq Q E () (cO [.str x] h) := by
  obtain ⟨ps, e2, hp, hf, hj⟩ := cX (x := x) (k := 10) (by decide)
  rw [e] at e2
  subst e2
  have pl := jy hp hj
  have pa := ha.piece hj
  have hll : ls.length ≤ 50000 := by have := pl.1; rw [List.length_append, List.length_singleton] at this; omega
  have s0 : (0 < (Str.ofString "\n").length ∧ x.length ≤ 100000) := ⟨by decide, by omega⟩
  have ex : (Txt.split x (Str.ofString "\n")).map D.str = ls.map D.str ++ [.str r] := by rw [qm, e, List.map_append]; rfl
  have s1 : ∀ H, slD H (.lst (ls.map D.str ++ [.str r])) none (some (-1)) = some (.lst (ls.map .str)) := fun _ => Du
  have s2 : atI (ls.map D.str ++ [.str r]) (-1) = some (.str r) := Bs
  have lp : ∀ H, pO H [.lst (ls.map D.str ++ [.str r])] = some (.int ((ls.length + 1 : Nat) : Int)) := fun _ => by
    show some (D.int ((ls.map D.str ++ [D.str r]).length : Nat)) = _
    rw [List.length_append, List.length_map, List.length_singleton]
  simp! [gJ, gH, gG, gD, fP, cO, ↓y_split, aZ, s0, ex, s1]
  refine Wq.loop (fun i s h' => (∃ ns p s4 s5 s6 s7 s8, s = [.val (.str x), .val (.lst (ls.map D.str ++ [.str r])), .val (.lst (fM ns)), .val (.str (Ol p)), s4, s5, s6, s7, s8] ∧ ns.length ≤ 3 * i ∧ (p = none ↔ i = 0) ∧ (∀ q, p = some q → (nS q).length ≤ 61) ∧ goP 0 [] none ls = goP i ns p (ls.drop i)) ∧ h' = h) ⟨⟨[], none, _, _, _, _, _, rfl, Nat.le_refl _, by simp, by simp, rfl⟩, rfl⟩ ?_ ?_
  · rintro i y s h' ey ⟨⟨ns, p, s4, s5, s6, s7, s8, rfl, hns, hp0, hp1, eg⟩, rfl⟩
    obtain ⟨d, ed, rfl⟩ := lH 0 _ i y ey
    rw [Nat.zero_add]
    have hi : i < ls.length := by
      have := (List.getElem?_eq_some_iff.mp ed).1
      rwa [List.length_map] at this
    have ed2 : d = .str ls[i] := by
      rw [List.getElem?_map, List.getElem?_eq_getElem hi] at ed
      exact (Option.some.inj ed).symm
    subst ed2
    rw [List.drop_eq_getElem_cons hi] at eg
    have hm : ls[i] ∈ ls ++ [r] := List.mem_append_left _ (List.getElem_mem hi)
    rw [oW] at eg
    generalize ew : ls[i] = w at *
    obtain ⟨qs, e3, hq, hfq, hjq⟩ := cX (x := w) (k := 32) (by decide)
    rw [e3] at eg
    have wl : w.length ≤ 50000 := by have := pl.2 _ hm; omega
    have ql := jy hq hjq
    have qa := (pa _ hm).piece hjq
    have nl := oH (n := i) (k := 5) (by decide) (by omega)
    have l1 : (Str.ofString "job ").length = 4 := by decide +kernel
    have l2 : (Str.ofString ": ").length = 2 := by decide +kernel
    have hl1 : (Str.ofString "job " ++ nS i).length ≤ 9 := by rw [len_app, l1]; omega
    have hl2 : (hdS i).length ≤ 11 := by rw [len_app, l2]; omega
    have sn : ∀ H, uN H [.int (i : Int)] = some (.str (nS i)) := fun H => j5 (by omega)
    have a1 : ∀ H, cP H (.str "job ") (.str (nS i)) = some (.str (Str.ofString "job " ++ nS i)) := fun H => add_str (by omega)
    have a2 : ∀ H, cP H (.str (Str.ofString "job " ++ nS i)) (.str ": ") = some (.str (hdS i)) := fun H => add_str (by omega)
    have t0 : (0 < (Str.ofString " ").length ∧ w.length ≤ 100000) := ⟨by decide, by omega⟩
    have tx : Txt.split w (Str.ofString " ") = qs := by rw [vf, e3]
    have lh : ∀ H, pO H [.str (hdS i)] = some (.int (((hdS i).length : Nat) : Int)) := fun H => len_str (by omega)
    have cs : ∀ H, slT H (.str w) none (some (((hdS i).length : Nat) : Int)) = some (.str (cutS w none (some (((hdS i).length : Nat) : Int)))) := fun _ => Kc (by omega)
    have lq : ∀ H, pO H [.lst (qs.map D.str)] = some (.int ((qs.length : Nat) : Int)) := fun _ => by
      show some (D.int ((qs.map D.str).length : Nat)) = _
      rw [List.length_map]
    have bad : sO i qs = none → goP 0 [] none ls = .inl i := fun z => by rw [eg, z]
    have fin : goP 0 [] none ls = .inl i → Q (.tup [.str "line", .int (i : Int)]) [] h' := fun z => by
      rw [vA z] at kk
      exact kk
    by_cases h8 : 8 ≤ i
    · have eb : goP 0 [] none ls = .inl i := by
        rw [eg]
        cases sO i qs with
        | none => rfl
        | some q => exact if_pos (.inl h8)
      simp! [aQ, sn, a1, a2, ↓y_split, aZ, t0, tx, decide_eq_true (show (7 : Int) < (i : Int) by omega)]
      exact fin eb
    · by_cases hh : cutS w none (some (((hdS i).length : Nat) : Int)) = hdS i
      · by_cases h7 : qs.length = 7
        · obtain ⟨a, b, c, d, e2, g, z, rfl⟩ := seven h7
          have hab := (Ax (n := i) (by simp) hjq hfq).mp hh
          have er : sO i [a, b, c, d, e2, g, z] = if g = "/" then wY c d e2 z else none := by
            show (if a = "job" ∧ b = nS i ++ ":" ∧ g = "/" then wY c d e2 z else none) = _
            by_cases hg : g = "/"
            · rw [if_pos hg, if_pos ⟨hab.1, hab.2, hg⟩]
            · rw [if_neg hg, if_neg fun z => hg z.2.2]
          have g5 : atI [D.str a, .str b, .str c, .str d, .str e2, .str g, .str z] 5 = some (.str g) := jT (by decide) rfl
          have g6 : atI [D.str a, .str b, .str c, .str d, .str e2, .str g, .str z] 6 = some (.str z) := jT (by decide) rfl
          have c2 : ∀ H, slD H (.lst [.str a, .str b, .str c, .str d, .str e2, .str g, .str z]) (some 2) (some 5) = some (.lst [.str c, .str d, .str e2]) := fun _ => rfl
          have c3 : ∀ H, slD H (.lst [.str a, .str b, .str c, .str d, .str e2, .str g, .str z]) (some 6) none = some (.lst [.str z]) := fun _ => rfl
          have av : ∀ H, cP H (.lst [.str c, .str d, .str e2]) (.lst [.str z]) = some (.lst [.str c, .str d, .str e2, .str z]) := fun _ => rfl
          by_cases hg : g = "/"
          · rw [if_pos hg] at er
            by_cases hz : z = "0"
            · have eb : sO i [a, b, c, d, e2, g, z] = none := by
                rw [er]
                unfold wY
                have : jW 61 z = some 0 := by rw [hz]; decide +kernel
                rw [this]
                cases jW 61 c <;> cases jW 61 d <;> cases jW 61 e2 <;> rfl
              simp! [aQ, sn, a1, a2, ↓y_split, aZ, t0, tx, List.map, decide_eq_false (show ¬ (7 : Int) < (i : Int) by omega), lh, ↓CQ, cs, cM, decide_eq_true hh, iw, g5, decide_eq_true hg, g6, eV, decide_eq_true hz]
              exact fin (bad eb)
            · simp! [aQ, sn, a1, a2, ↓y_split, aZ, t0, tx, List.map, decide_eq_false (show ¬ (7 : Int) < (i : Int) by omega), lh, ↓CQ, cs, cM, decide_eq_true hh, iw, g5, decide_eq_true hg, g6, eV, decide_eq_false hz, c2, c3, av]
              refine Wq.cfm okF (fun _ => .int 1) (by simp) ?_ ?_
              · intro j x ex
                have hx : ∃ y : Str, x = .str y ∧ y.length ≤ 50000 ∧ As y := by
                  have hm : x ∈ [D.str c, .str d, .str e2, .str z] := List.mem_of_getElem? ex
                  simp at hm
                  rcases hm with rfl | rfl | rfl | rfl
                  · exact ⟨_, rfl, by have := ql.2 c (by simp); omega, qa c (by simp)⟩
                  · exact ⟨_, rfl, by have := ql.2 d (by simp); omega, qa d (by simp)⟩
                  · exact ⟨_, rfl, by have := ql.2 e2 (by simp); omega, qa e2 (by simp)⟩
                  · exact ⟨_, rfl, by have := ql.2 z (by simp); omega, qa z (by simp)⟩
                obtain ⟨y, rfl, hy, hya⟩ := hx
                have ly : ∀ H, pO H [.str y] = some (.int ((y.length : Nat) : Int)) := fun H => len_str (by omega)
                simp! [gW]
                refine Cp hy hya ?_
                simp!
                cases hN : isN y with
                | false =>
                  have : okN y = false := by unfold okN; rw [hN]; rfl
                  simp! [vR, this, dZ]
                | true =>
                  by_cases h61 : y.length ≤ 61
                  · have : okN y = true := by unfold okN; rw [hN, decide_eq_true h61]; rfl
                    simp! [vR, this, ly, decide_eq_false (show ¬ (61 : Int) < (y.length : Int) by omega)]
                  · have : okN y = false := by unfold okN; rw [hN, decide_eq_false h61]; rfl
                    simp! [vR, this, ly, decide_eq_true (show (61 : Int) < (y.length : Int) by omega), dZ]
              · have em : (([D.str c, .str d, .str e2, .str z].filter okF).map fun _ => D.int 1) = ((([D.str c, .str d, .str e2, .str z].filter okF).map fun _ => (1 : Int)).map D.int) := by rw [List.map_map]; rfl
                have ne : ∀ H, neX H (.lst ((([D.str c, .str d, .str e2, .str z].filter okF).map fun _ => (1 : Int)).map D.int)) (.lst []) = some (.bl (!(([D.str c, .str d, .str e2, .str z].filter okF).map fun _ => (1 : Int)).isEmpty)) := fun H => vU H _
                rw [em]
                simp! [ne]
                have iff : (([D.str c, .str d, .str e2, .str z].filter okF).map fun _ => (1 : Int)).isEmpty = (okN c && okN d && okN e2 && okN z) := by
                  have := Bb [c, d, e2, z]
                  simp only [List.map_cons, List.map_nil, List.all_cons, List.all_nil, Bool.and_true] at this
                  rw [this, Bool.and_assoc, Bool.and_assoc]
                rw [iff]
                cases hc : okN c with
                | false =>
                  have eb : sO i [a, b, c, d, e2, g, z] = none := by rw [er]; unfold wY; rw [rF hc]
                  simp! [Bool.false_and]
                  exact fin (bad eb)
                | true =>
                  cases hd : okN d with
                  | false =>
                    have eb : sO i [a, b, c, d, e2, g, z] = none := by rw [er]; unfold wY; rw [rF hd]; cases jW 61 c <;> rfl
                    simp! [Bool.false_and, Bool.and_false]
                    exact fin (bad eb)
                  | true =>
                    cases he : okN e2 with
                    | false =>
                      have eb : sO i [a, b, c, d, e2, g, z] = none := by rw [er]; unfold wY; rw [rF he]; cases jW 61 c <;> cases jW 61 d <;> rfl
                      simp! [Bool.false_and, Bool.and_false]
                      exact fin (bad eb)
                    | true =>
                      cases ho : okN z with
                      | false =>
                        have eb : sO i [a, b, c, d, e2, g, z] = none := by rw [er]; unfold wY; rw [rF ho]; cases jW 61 c <;> cases jW 61 d <;> cases jW 61 e2 <;> rfl
                        simp! [Bool.false_and, Bool.and_false]
                        exact fin (bad eb)
                      | true =>
                        obtain ⟨n1, rfl, u1, v1⟩ := rE hc
                        obtain ⟨n2, rfl, u2, v2⟩ := rE hd
                        obtain ⟨n3, rfl, u3, v3⟩ := rE he
                        obtain ⟨n4, rfl, u4, v4⟩ := rE ho
                        have n4z : ¬ n4 = 0 := fun z => hz (KJ.mpr z)
                        have eb : sO i [a, b, nS n1, nS n2, nS n3, g, nS n4] = some (n1, n2, n3, n4) := by
                          rw [er]
                          unfold wY
                          rw [u1, u2, u3, u4]
                          exact if_neg n4z
                        rw [eb] at eg
                        have eg2 : goP 0 [] none ls = if 8 ≤ i ∨ (p ≠ none ∧ p ≠ some n4) then .inl i else goP (i + 1) (ns ++ [n1, n2, n3]) (some n4) (ls.drop (i + 1)) := eg
                        have i3 : ∀ n : Nat, (nS n).length ≤ 61 → ∀ H, Gm H [.str (nS n)] = some (.int (n : Int)) := fun n hn H => by
                          show (if (nS n).length ≤ 640 then (intText? (nS n)).map D.int else none) = _
                          rw [if_pos (by omega), Ah (by omega)]
                          rfl
                        have hl : (fM ns).length + (fM [n1, n2, n3]).length ≤ 100000 := by simp [fM]; omega
                        have ed3 : fM ns ++ fM [n1, n2, n3] = fM (ns ++ [n1, n2, n3]) := by simp [fM]
                        cases hpp : p with
                        | none =>
                          have h0 : i = 0 := hp0.mp hpp
                          rw [hpp, if_neg (by rintro (z | z); exact h8 z; exact z.1 rfl)] at eg2
                          simp! [Bool.and_true, decide_eq_false (show ¬ (0 : Int) < (i : Int) by omega), g6, c2]
                          refine Av v1 v2 v3 ?_
                          simp! [hl, ed3]
                          exact ⟨ns ++ [n1, n2, n3], some n4, _, _, _, _, _, rfl, by simp; omega, by simp, fun q z => by cases z; exact v4, eg2⟩
                        | some q =>
                          have h0 : ¬ i = 0 := fun z => by rw [hp0.mpr z] at hpp; cases hpp
                          by_cases hq : q = n4
                          · subst hq
                            rw [hpp, if_neg (by rintro (z | z); exact h8 z; exact z.2 rfl)] at eg2
                            simp! [Bool.and_true, decide_eq_true (show (0 : Int) < (i : Int) by omega), g6, cM, pB, c2]
                            refine Av v1 v2 v3 ?_
                            simp! [hl, ed3]
                            exact ⟨ns ++ [n1, n2, n3], some q, _, _, _, _, _, rfl, by simp; omega, by simp, fun q z => by cases z; exact v4, eg2⟩
                          · rw [hpp, if_pos (.inr ⟨by simp, fun z => hq (Option.some.inj z)⟩)] at eg2
                            simp! [Bool.and_true, decide_eq_true (show (0 : Int) < (i : Int) by omega), g6, cM, pB, decide_eq_false (show ¬ nS n4 = nS q from fun z => hq (Jj z).symm)]
                            exact fin eg2
          · rw [if_neg hg] at er
            simp! [aQ, sn, a1, a2, ↓y_split, aZ, t0, tx, List.map, decide_eq_false (show ¬ (7 : Int) < (i : Int) by omega), lh, ↓CQ, cs, cM, decide_eq_true hh, iw, g5, decide_eq_false hg]
            exact fin (bad er)
        · simp! [aQ, sn, a1, a2, ↓y_split, aZ, t0, tx, decide_eq_false (show ¬ (7 : Int) < (i : Int) by omega), lh, ↓CQ, cs, cM, decide_eq_true hh, lq, iw, decide_eq_false (show ¬ ((qs.length : Nat) : Int) = 7 by omega)]
          exact fin (bad (vM h7))
      · have eb : sO i qs = none := by
          by_cases h7 : qs.length = 7
          · obtain ⟨a, b, c, d, e2, g, z, rfl⟩ := seven h7
            exact if_neg fun z => hh ((Ax (n := i) (by simp) hjq hfq).mpr ⟨z.1, z.2.1⟩)
          · exact vM h7
        simp! [aQ, sn, a1, a2, ↓y_split, aZ, t0, tx, decide_eq_false (show ¬ (7 : Int) < (i : Int) by omega), lh, ↓CQ, cs, cM, decide_eq_false hh]
        exact fin (bad eb)
  · rintro s h' ⟨⟨ns, p, s4, s5, s6, s7, s8, rfl, hns, hp0, hp1, eg⟩, rfl⟩
    rw [lD, List.length_map] at hns eg hp0
    rw [List.drop_length, Fj] at eg
    rw [Bg eg] at kk
    by_cases h0 : ls = []
    · rw [if_pos (.inl h0)] at kk
      have hz : ls.length = 0 := by rw [h0]; rfl
      simp! [lp, cV, decide_eq_true (show ((ls.length + 1 : Nat) : Int) = 1 by omega)]
      have e2 : ((ls.length + 1 : Nat) : Int) - 1 = (ls.length : Int) := by omega
      rw [e2]
      exact kk
    · have hz : 0 < ls.length := List.length_pos_iff.mpr h0
      by_cases hr : r = ""
      · rw [if_neg (by rintro (z | z); exact h0 z; exact z hr)] at kk
        cases p with
        | none => exact absurd (hp0.mp rfl) (by omega)
        | some q =>
          have i3 : ∀ H, Gm H [.str (nS q)] = some (.int (q : Int)) := fun H => by
            have := hp1 q rfl
            show (if (nS q).length ≤ 640 then (intText? (nS q)).map D.int else none) = _
            rw [if_pos (by omega), Ah (by omega)]
            rfl
          simp! [lp, cV, decide_eq_false (show ¬ ((ls.length + 1 : Nat) : Int) = 1 by omega), s2, cM, decide_eq_true hr, pB, i3]
          exact kk
      · rw [if_pos (.inr hr)] at kk
        simp! [lp, cV, decide_eq_false (show ¬ ((ls.length + 1 : Nat) : Int) = 1 by omega), s2, cM, decide_eq_false hr]
        have e2 : ((ls.length + 1 : Nat) : Int) - 1 = (ls.length : Int) := by omega
        rw [e2]
        exact kk
theorem TJ (h : Hd) : yQ h (.int 10) (.int 11) = some (.int 100000000000) := by
  rw [GX (by decide) (by decide) (by decide)]
  rfl
theorem Ij {vs : List Nat} {g : D → M Unit} {e : M D} {s : Sd} {h : Hd} {m : Nat} {b : Int} (hb : 0 < b) (hb2 : b ≤ 10 ^ 400) (hm : m ≤ 1000) (P : Pen h)
    (st : ∀ (i : Nat) h, i < m → Pen h → ∃ s1, g (.int (i : Int)) s h = .ok () s1 h ∧ (∀ d h', aJ [.ref 0, .int b] h = .ok (.int d) [] h' → ∃ s2, e s1 h = .ok (.int d) s2 h' ∧ cW s2 vs = s)) :
    ∃ (T : List Int) (h' : Hd), fY vs g yC e (rg 0 m) [] s h = .ok (T.map D.int) s h' ∧ T.length = m ∧ (∀ x ∈ T, 0 ≤ x ∧ x < b) ∧ Pen h' := by
  obtain ⟨ys, h', e1, e2, ⟨P', T, e3, e4⟩⟩ := Io (vs := vs) (g := g) (e := e) (xs := rg 0 m) (s := s) (h := h) (fun _ acc h => Pen h ∧ ∃ T : List Int, acc = T.map D.int ∧ ∀ x ∈ T, 0 ≤ x ∧ x < b) ⟨P, [], rfl, by simp⟩ (by rw [qj]; exact hm)
    (fun i x acc h hx ha ⟨P, T, e3, e4⟩ => by
      obtain ⟨hi, rfl⟩ := BK hx
      obtain ⟨d, h', ed, d0, d1, P'⟩ := zF P hb hb2
      obtain ⟨s1, f1, f2⟩ := st i h hi P
      obtain ⟨s2, f3, f4⟩ := f2 d h' ed
      refine ⟨s1, .int d, s2, h', f1, f3, f4, P', T ++ [d], by simp [e3], fun x hx => ?_⟩
      rcases List.mem_append.mp hx with hx | hx
      · exact e4 x hx
      · rw [List.mem_singleton] at hx
        subst hx
        exact ⟨d0, d1⟩)
  rw [qj] at e2
  refine ⟨T, h', by rw [e1, e3], ?_, e4, P'⟩
  rw [e3] at e2
  simpa using e2
theorem Gy {h : Hd} (P : Pen h) {n : Nat} (hn : n ≤ 300) : ∃ (T : List Int) (p : Int) (h' : Hd), dU [.ref 0, .int (n : Int)] h = .ok (.tup [.tup (T.map .int), .int p]) [] h' ∧ T.length = 3 * n ∧ NN T ∧ (∀ x ∈ T, x ≤ 100000000000) ∧ 1 ≤ p ∧ p ≤ 10 ∧ Pen h' := by
  obtain ⟨d, h1, e, hd, P1⟩ := sW P (xs := [.int 2, .int 3, .int 6, .int 12, .int 100, .int 100000000000]) (by simp) (by simp)
  have ht : ∃ t : Int, d = .int t ∧ 2 ≤ t ∧ t ≤ 100000000000 := by
    simp only [List.mem_cons, List.not_mem_nil, or_false] at hd
    rcases hd with rfl | rfl | rfl | rfl | rfl | rfl <;> exact ⟨_, rfl, by decide, by decide⟩
  obtain ⟨t, rfl, t0, t1⟩ := ht
  have e0 : iG [.val (.ref 0), .val (.int (n : Int)), .no, .no, .no] h = .ok .nx [.val (.ref 0), .val (.int (n : Int)), .val (.int t), .no, .no] h1 := by
    simp [iG, TJ, e]
  obtain ⟨T, h2, e1, hT, hx, P2⟩ := Ij (vs := [4]) (g := gN 4) (e := iI) (s := [.val (.ref 0), .val (.int (n : Int)), .val (.int t), .no, .no]) (h := h1) (m := 3 * n) (b := t + 1) (by omega) (by omega) (by omega) P1
    (fun i h hi P => ⟨_, rfl, fun d h' ed => ⟨_, by simp [iI, ed]; rfl, rfl⟩⟩)
  have sm : small (3 * (n : Int)) = true := vG (by omega) (by omega)
  have tn : (3 * (n : Int)).toNat = 3 * n := by omega
  have e1' : iD [.val (.ref 0), .val (.int (n : Int)), .val (.int t), .no, .no] h1 = .ok .nx [.val (.ref 0), .val (.int (n : Int)), .val (.int t), .val (.tup (T.map .int)), .no] h2 := by
    simp [iD, Wn, sm, tn, cW, e1, iJ, zp]
  obtain ⟨d, h3, e3, hd, P3⟩ := sW P2 (xs := [.int 1, .int 1, .int 1, .int 2, .int 3, .int 10]) (by simp) (by simp)
  have ht : ∃ p : Int, d = .int p ∧ 1 ≤ p ∧ p ≤ 10 := by
    simp only [List.mem_cons, List.not_mem_nil, or_false] at hd
    rcases hd with rfl | rfl | rfl | rfl | rfl | rfl <;> exact ⟨_, rfl, by decide, by decide⟩
  obtain ⟨p, rfl, p0, p1⟩ := ht
  refine ⟨T, p, h3, ?_, hT, fun x h => (hx x h).1, fun x h => by have := (hx x h).2; omega, p0, p1, P3⟩
  have st : dU [.ref 0, .int (n : Int)] h = fin (jB [.val (.ref 0), .val (.int (n : Int)), .no, .no, .no] h) := rfl
  rw [st]
  unfold jB
  rw [ig e0, ig e1']
  simp [mK, e3]
def cat : List Str → Str
  | [] => ""
  | x :: xs => x ++ cat xs
theorem yF (x : Str) : (Str.ofString "") ++ x = x := TL.ext_tl (by
  rw [TL.tl_append]
  have : TL.tl (Str.ofString "") = [] := by decide +kernel
  rw [this]
  rfl)
theorem nA (x : Str) : x ++ (Str.ofString "") = x := TL.ext_tl (by
  rw [TL.tl_append]
  have : TL.tl (Str.ofString "") = [] := by decide +kernel
  rw [this, List.append_nil])
theorem wQ (x y z : Str) : x ++ y ++ z = x ++ (y ++ z) := TL.ext_tl (by simp [TL.tl_append])
theorem qQ : ∀ ls : List Str, Str.join (Str.ofString "") ls = cat ls
  | [] => by show Str.empty = Str.ofString ""; decide +kernel
  | [x] => (nA x).symm
  | x :: y :: r => by
    show x ++ (Str.ofString "") ++ Str.join (Str.ofString "") (y :: r) = x ++ cat (y :: r)
    rw [qQ (y :: r), nA]
theorem FJ : ∀ xs ys : List Str, cat (xs ++ ys) = cat xs ++ cat ys
  | [], ys => (yF _).symm
  | x :: xs, ys => by
    show x ++ cat (xs ++ ys) = x ++ cat xs ++ cat ys
    rw [FJ xs ys, wQ]
theorem wk : ∀ ls : List Str, cat (ls.map fun l => l ++ sg 10) = Str.join (sg 10) (ls ++ [Str.ofString ""])
  | [] => rfl
  | [l] => by
    show (l ++ sg 10) ++ Str.ofString "" = l ++ sg 10 ++ Str.ofString ""
    rfl
  | l :: m :: r => by
    show (l ++ sg 10) ++ cat ((m :: r).map fun l => l ++ sg 10) = l ++ sg 10 ++ Str.join (sg 10) ((m :: r) ++ [Str.ofString ""])
    rw [wk (m :: r)]
theorem pP : ∀ (ls : List Str) (b : Nat), (∀ l ∈ ls, l.length ≤ b) → (cat ls).length ≤ ls.length * b
  | [], b, _ => by
    have : (cat []).length = 0 := by decide +kernel
    omega
  | l :: ls, b, h => by
    show (l ++ cat ls).length ≤ _
    rw [len_app, List.length_cons, Nat.succ_mul]
    have h1 := h l List.mem_cons_self
    have h2 := pP ls b fun m hm => h m (List.mem_cons_of_mem _ hm)
    omega
def lnS (j a b c q : Nat) : Str := hdS j ++ Str.join (sg 32) [nS a, nS b, nS c] ++ Str.ofString " / " ++ nS q
theorem Hz (j a b c q : Nat) : lnS j a b c q = Str.join (sg 32) [Str.ofString "job", nS j ++ Str.ofString ":", nS a, nS b, nS c, Str.ofString "/", nS q] := by
  refine TL.ext_tl ?_
  have e1 : TL.tl (Str.ofString "job ") = [106, 111, 98, 32] := by decide +kernel
  have e2 : TL.tl (Str.ofString ": ") = [58, 32] := by decide +kernel
  have e3 : TL.tl (Str.ofString " / ") = [32, 47, 32] := by decide +kernel
  have e4 : TL.tl (Str.ofString "/") = [47] := by decide +kernel
  unfold lnS
  simp only [TL.tl_append, TL.tl_join, List.map_cons, List.map_nil, TL.joinL, vD, u6, zM, e1, e2, e3, e4]
  simp
theorem Et (j a b c q : Nat) : Txt.split (lnS j a b c q) (sg 32) = [Str.ofString "job", nS j ++ Str.ofString ":", nS a, nS b, nS c, Str.ofString "/", nS q] := by
  rw [Hz]
  refine rC (by decide) (by simp) fun p hp => ?_
  have f : ∀ n, 32 ∉ TL.tl (nS n) := fun n => KN (.inl (by decide))
  simp only [List.mem_cons, List.not_mem_nil, or_false] at hp
  rcases hp with rfl | rfl | rfl | rfl | rfl | rfl | rfl
  · rw [u6]; decide
  · rw [TL.tl_append, zM]
    intro hm
    rcases List.mem_append.mp hm with z | z
    · exact f _ z
    · exact absurd z (by decide)
  · exact f _
  · exact f _
  · exact f _
  · have e4 : TL.tl (Str.ofString "/") = [47] := by decide +kernel
    rw [e4]; decide
  · exact f _
theorem HD (j a b c q : Nat) : 10 ∉ TL.tl (lnS j a b c q) := by
  have e1 : TL.tl (Str.ofString "job ") = [106, 111, 98, 32] := by decide +kernel
  have e2 : TL.tl (Str.ofString ": ") = [58, 32] := by decide +kernel
  have e3 : TL.tl (Str.ofString " / ") = [32, 47, 32] := by decide +kernel
  have f : ∀ n, 10 ∉ TL.numL n := fun n => TL.numL_free (.inl (by decide))
  unfold lnS
  simp only [TL.tl_append, TL.tl_join, List.map_cons, List.map_nil, TL.joinL, vD, e1, e2, e3, jZ, List.mem_append, List.mem_cons, List.not_mem_nil, or_false, f, false_or, or_self]
  decide
theorem PL (j a b c q : Nat) : As (lnS j a b c q) := by
  have l1 : As (Str.ofString "job ") := m9 (by decide +kernel)
  have l2 : As (Str.ofString ": ") := m9 (by decide +kernel)
  have l3 : As (Str.ofString " / ") := m9 (by decide +kernel)
  refine ((((l1.app (Iu j)).app l2).app (As.join (Ir (by decide)) fun p hp => ?_)).app l3).app (Iu q)
  simp only [List.mem_cons, List.not_mem_nil, or_false] at hp
  rcases hp with rfl | rfl | rfl <;> exact Iu _
theorem zj {j a b c q m : Nat} (hj : j < 100000) (ha : (nS a).length ≤ m) (hb : (nS b).length ≤ m) (hc : (nS c).length ≤ m) (hq : (nS q).length ≤ m) : (lnS j a b c q).length ≤ 16 + 4 * m := by
  have l1 : (Str.ofString "job ").length = 4 := by decide +kernel
  have l2 : (Str.ofString ": ").length = 2 := by decide +kernel
  have l3 : (Str.ofString " / ").length = 3 := by decide +kernel
  have nl := oH (n := j) (k := 5) (by decide) (by omega)
  have e := oU (sep := sg 32) (ps := [nS a, nS b, nS c]) (by simp)
  have e1 : (sg 32).length = 1 := rfl
  rw [e1] at e
  simp only [List.map_cons, List.map_nil, List.sum_cons, List.sum_nil, List.length_cons, List.length_nil] at e
  unfold lnS
  rw [len_app, len_app, len_app, len_app, len_app, l1, l2, l3]
  omega
def pN (q : Nat) : Nat → List Nat → List Str
  | j, a :: b :: c :: r => lnS j a b c q :: pN q (j + 1) r
  | _, _ => []
theorem tG {q j a b c : Nat} {r : List Nat} : pN q j (a :: b :: c :: r) = lnS j a b c q :: pN q (j + 1) r := rfl
theorem iy {q : Nat} : ∀ (n j : Nat) (ns : List Nat), ns.length = 3 * n → (pN q j ns).length = n
  | 0, j, [], _ => rfl
  | n + 1, j, a :: b :: c :: r, h => by
    rw [tG, List.length_cons, iy n (j + 1) r (by simp at h; omega)]
  | n + 1, j, [], h => by simp at h
  | n + 1, j, [a], h => by simp at h; omega
  | n + 1, j, [a, b], h => by simp at h; omega
theorem rJ {q : Nat} : ∀ (n j : Nat) (ns : List Nat) (i : Nat), ns.length = 3 * n → i < n → ∃ a b c, (ns.drop (3 * i)).take 3 = [a, b, c] ∧ (pN q j ns)[i]? = some (lnS (j + i) a b c q) ∧ a ∈ ns ∧ b ∈ ns ∧ c ∈ ns
  | n + 1, j, a :: b :: c :: r, 0, h, _ => ⟨a, b, c, rfl, rfl, by simp, by simp, by simp⟩
  | n + 1, j, a :: b :: c :: r, i + 1, h, hi => by
    obtain ⟨a', b', c', e1, e2, m1, m2, m3⟩ := rJ n (j + 1) r i (by simp at h; omega) (by omega)
    refine ⟨a', b', c', ?_, ?_, by simp [m1], by simp [m2], by simp [m3]⟩
    · rw [← e1]
      have : 3 * (i + 1) = 3 * i + 3 := by omega
      rw [this]
      rfl
    · rw [tG, List.getElem?_cons_succ, e2]
      have : j + 1 + i = j + (i + 1) := by omega
      rw [this]
  | n + 1, j, [], _, h, _ => by simp at h
  | n + 1, j, [a], _, h, _ => by simp at h; omega
  | n + 1, j, [a, b], _, h, _ => by simp at h; omega
theorem Fo {q : Nat} (hq0 : q ≠ 0) (hq : (nS q).length ≤ 61) : ∀ (n j : Nat) (ns acc : List Nat) (p : Option Nat), ns.length = 3 * n → j + n ≤ 8 → (∀ a ∈ ns, (nS a).length ≤ 61) → (p = none ∨ p = some q) →
    goP j acc p (pN q j ns) = .inr (acc ++ ns, if n = 0 then p else some q)
  | 0, j, [], acc, p, _, _, _, _ => by
    show Sum.inr (acc, p) = _
    simp
  | n + 1, j, a :: b :: c :: r, acc, p, h, hj, hl, hp => by
    rw [tG, oW, Et]
    have er : sO j [Str.ofString "job", nS j ++ Str.ofString ":", nS a, nS b, nS c, Str.ofString "/", nS q] = some (a, b, c, q) := by
      show (if Str.ofString "job" = "job" ∧ nS j ++ Str.ofString ":" = nS j ++ ":" ∧ Str.ofString "/" = "/" then wY (nS a) (nS b) (nS c) (nS q) else none) = _
      rw [if_pos ⟨rfl, rfl, rfl⟩]
      unfold wY
      rw [pF (hl a (by simp)), pF (hl b (by simp)), pF (hl c (by simp)), pF hq]
      exact if_neg hq0
    rw [er]
    show (if 8 ≤ j ∨ (p ≠ none ∧ p ≠ some q) then Sum.inl j else goP (j + 1) (acc ++ [a, b, c]) (some q) (pN q (j + 1) r)) = _
    rw [if_neg (by
      rintro (z | ⟨z1, z2⟩)
      · omega
      · rcases hp with hp | hp
        · exact z1 hp
        · exact z2 hp), Fo hq0 hq n (j + 1) r _ _ (by simp at h; omega) (by omega) (fun x hx => hl x (by simp [hx])) (.inr rfl)]
    simp
  | n + 1, j, [], _, _, h, _, _, _ => by simp at h
  | n + 1, j, [a], _, _, h, _, _, _ => by simp at h; omega
  | n + 1, j, [a, b], _, _, h, _, _, _ => by simp at h; omega
def CK (ns : List Nat) (q : Nat) : Str := cat ((pN q 0 ns).map fun l => l ++ sg 10)
def Gz (ns : List Nat) (q : Nat) : D := .tup [.tup (fM ns), .int (q : Int)]
theorem v8 {q : Nat} {l : Str} : ∀ (n j : Nat) (ns : List Nat), ns.length = 3 * n → l ∈ pN q j ns → ∃ i a b c, i < n ∧ l = lnS (j + i) a b c q ∧ a ∈ ns ∧ b ∈ ns ∧ c ∈ ns := fun n j ns h hm => by
  obtain ⟨i, hi, e⟩ := List.getElem_of_mem hm
  rw [iy n j ns h] at hi
  obtain ⟨a, b, c, _, e2, m⟩ := rJ (q := q) n j ns i h hi
  rw [List.getElem?_eq_getElem (by rw [iy n j ns h]; exact hi), e] at e2
  exact ⟨i, a, b, c, hi, Option.some.inj e2, m⟩
theorem Bt {n q : Nat} {ns : List Nat} (hn : ns.length = 3 * n) (h8 : n ≤ 8) (hn0 : 0 < n) (hl : ∀ a ∈ ns, (nS a).length ≤ 61) (hq0 : q ≠ 0) (hq : (nS q).length ≤ 61) :
    Txt.split (CK ns q) (sg 10) = pN q 0 ns ++ [Str.ofString ""] ∧ As (CK ns q) ∧ (CK ns q).length ≤ 2100 ∧ endP (pN q 0 ns) (Str.ofString "") = .inr (ns, some q) := by
  have key : ∀ l ∈ pN q 0 ns, ∃ i a b c, i < n ∧ l = lnS i a b c q ∧ a ∈ ns ∧ b ∈ ns ∧ c ∈ ns := fun l hm => by
    obtain ⟨i, a, b, c, h1, h2, h3⟩ := v8 n 0 ns hn hm
    rw [Nat.zero_add] at h2
    exact ⟨i, a, b, c, h1, h2, h3⟩
  refine ⟨?_, ?_, ?_, ?_⟩
  · unfold CK
    rw [wk]
    refine rC (by decide) (by simp) fun p hp => ?_
    rcases List.mem_append.mp hp with z | z
    · obtain ⟨i, a, b, c, _, rfl, _⟩ := key p z
      exact HD i a b c q
    · rw [List.mem_singleton.mp z]
      have : TL.tl (Str.ofString "") = [] := by decide +kernel
      rw [this]
      simp
  · unfold CK
    rw [wk]
    refine As.join (Ir (by decide)) fun p hp => ?_
    rcases List.mem_append.mp hp with z | z
    · obtain ⟨i, a, b, c, _, rfl, _⟩ := key p z
      exact PL i a b c q
    · rw [List.mem_singleton.mp z]
      exact m9 (by decide +kernel)
  · have h := pP ((pN q 0 ns).map fun l => l ++ sg 10) 261 fun l hm => by
      obtain ⟨m, hm2, rfl⟩ := List.mem_map.mp hm
      obtain ⟨i, a, b, c, hi, rfl, m1, m2, m3⟩ := key m hm2
      have := zj (j := i) (m := 61) (by omega) (hl a m1) (hl b m2) (hl c m3) hq
      rw [len_app]
      have e1 : (sg 10).length = 1 := rfl
      omega
    rw [List.length_map, iy n 0 ns hn] at h
    unfold CK
    omega
  · have g := Fo hq0 hq n 0 ns [] none hn (by omega) hl (.inl rfl)
    rw [List.nil_append, if_neg (by omega)] at g
    rw [Bg g, if_neg]
    rintro (z | z)
    · have := congrArg List.length z
      rw [iy n 0 ns hn] at this
      simp at this
      omega
    · exact z rfl
theorem Mg {xs : List D} {i j : Nat} (h1 : i ≤ j) (h2 : j ≤ xs.length) : cut xs (some (i : Int)) (some (j : Int)) = (xs.drop i).take (j - i) := by
  unfold cut
  rw [HT.sIx_nat, HT.sIx_nat, Nat.min_eq_left h2, Nat.min_eq_left (Nat.le_trans h1 h2)]
theorem wM {h : Hd} {ns : List Nat} {i n a b c : Nat} (hn : ns.length = 3 * n) (hi : i < n) (e : (ns.drop (3 * i)).take 3 = [a, b, c]) : slD h (.tup (fM ns)) (some (3 * (i : Int))) (some (3 * (i : Int) + 3)) = some (.tup [.int (a : Int), .int (b : Int), .int (c : Int)]) := by
  show some (D.tup (cut (fM ns) (some (3 * (i : Int))) (some (3 * (i : Int) + 3)))) = _
  have e1 : (3 * (i : Int)) = ((3 * i : Nat) : Int) := by omega
  have e2 : (3 * (i : Int) + 3) = ((3 * i + 3 : Nat) : Int) := by omega
  rw [e2, e1, Mg (by omega) (by unfold fM; rw [List.length_map]; omega)]
  have e3 : 3 * i + 3 - 3 * i = 3 := by omega
  rw [e3]
  unfold fM
  rw [← List.map_drop, ← List.map_take, e]
  rfl
theorem Qc {h : Hd} {a b c m : Nat} (hm : m ≤ 100) (ha : (nS a).length ≤ m) (hb : (nS b).length ≤ m) (hc : (nS c).length ≤ m) : oV (Str.ofString " ") h (.lst [.str (nS a), .str (nS b), .str (nS c)]) = some (.str (Str.join (sg 32) [nS a, nS b, nS c])) := by
  have e := rM (x := Str.ofString " ") (h := h) (ys := [nS a, nS b, nS c]) (by
    have l1 : (Str.ofString " ").length = 1 := by decide +kernel
    rw [l1]
    simp only [List.map_cons, List.map_nil, List.sum_cons, List.sum_nil, List.length_cons, List.length_nil]
    omega)
  rw [TL.join_eq, vf] at e
  rw [vf]
  exact e
theorem Dr {vs : List Nat} {s0 : List Sl} {h : Hd} {a b c : Nat} {e : M D} {v : Nat} {Q : List D → Sd → Hd → Prop} {E : Ex}
    (st : ∀ n : Nat, n < 10 ^ 61 → Wq (fun _ s1 h1 => Wq (fun d s3 h3 => cW s3 vs = s0 ∧ d = .str (nS n) ∧ h3 = h) nX () (e s1 h1)) nX () (gN v (.int (n : Int)) s0 h))
    (ha : (nS a).length ≤ 61) (hb : (nS b).length ≤ 61) (hc : (nS c).length ≤ 61) (kk : Q [.str (nS a), .str (nS b), .str (nS c)] s0 h) : Wq Q E () (fY vs (gN v) yC e [.int (a : Int), .int (b : Int), .int (c : Int)] [] s0 h) := by
  refine Wq.cfm (fun _ => true) (fun d => match d with | .int i => .str (nS i.toNat) | _ => .non) (by simp) ?_ ?_
  · intro j x ex
    have hm : x ∈ [D.int (a : Int), .int (b : Int), .int (c : Int)] := List.mem_of_getElem? ex
    have hx : ∃ n : Nat, x = .int (n : Int) ∧ n < 10 ^ 61 := by
      simp only [List.mem_cons, List.not_mem_nil, or_false] at hm
      rcases hm with rfl | rfl | rfl
      · exact ⟨_, rfl, qw ha⟩
      · exact ⟨_, rfl, qw hb⟩
      · exact ⟨_, rfl, qw hc⟩
    obtain ⟨n, rfl, hn⟩ := hx
    refine Wq.imp (st n hn) fun _ s1 h1 w => ?_
    show Wq (fun k s2 h2 => k = true ∧ _) nX () (yC s1 h1)
    rw [M4]
    exact ⟨rfl, w⟩
  · exact kk
theorem zP {h : Hd} {n : Nat} (hn : (nS n).length ≤ 61) : uN h [.int (n : Int)] = some (.str (nS n)) := j5 (Nat.lt_trans (qw hn) (by decide))
theorem VH {h : Hd} {n : Nat} : Jt h (.int ((3 * n : Nat) : Int)) (.int 3) = some (.int (n : Int)) := by
  rw [Qq (by decide) (Bq (by decide) (by decide))]
  have : ((3 * n : Nat) : Int) / 3 = (n : Int) := by omega
  rw [this]
theorem GD {q n : Nat} {ns : List Nat} {i a b c : Nat} (hn : ns.length = 3 * n) (hi : i < n) (e : (pN q 0 ns)[i]? = some (lnS i a b c q)) : cat (((pN q 0 ns).take (i + 1)).map fun l => l ++ sg 10) = cat (((pN q 0 ns).take i).map fun l => l ++ sg 10) ++ (lnS i a b c q ++ sg 10) := by
  rw [List.take_add_one, e, List.map_append, FJ]
  show _ ++ (lnS i a b c q ++ sg 10 ++ Str.ofString "") = _
  rw [nA]
theorem Fq {h : Hd} {n q : Nat} {ns : List Nat} {Q : D → Sd → Hd → Prop} {E : Ex} (hn : ns.length = 3 * n) (h8 : n ≤ 8) (hl : ∀ a ∈ ns, (nS a).length ≤ 61) (hq : (nS q).length ≤ 61)
    (kk : Q (.str (CK ns q)) [] h) : Wq Q E () (cQ [Gz ns q] h) := by
  have ll := iy (q := q) n 0 ns hn
  have ln : ∀ H, pO H [.tup (fM ns)] = some (.int ((3 * n : Nat) : Int)) := fun _ => by
    show some (D.int ((fM ns).length : Nat)) = _
    unfold fM
    rw [List.length_map, hn]
  have sm : small (n : Int) = true := vG (by omega) (by omega)
  have m3 : ∀ H (i : Nat), pH H (.int 3) (.int (i : Int)) = some (.int (3 * (i : Int))) := fun H i => yW (by decide)
  have l1 : (Str.ofString "job ").length = 4 := by decide +kernel
  have l2 : (Str.ofString ": ").length = 2 := by decide +kernel
  have l3 : (Str.ofString " / ").length = 3 := by decide +kernel
  have l4 : (Str.ofString "\n").length = 1 := by decide +kernel
  simp! [iY, iW, iV, iU, iK, cQ, Gz, ln, VH, sm]
  refine Wq.loop (fun i s h' => (∃ s4 s5 s6, s = [.val (Gz ns q), .val (.tup (fM ns)), .val (.int (q : Int)), .own ((((pN q 0 ns).take i).map fun l => l ++ sg 10).map .str), s4, s5, s6]) ∧ h' = h) ⟨⟨_, _, _, rfl⟩, rfl⟩ ?_ ?_
  · rintro i x s h' ex ⟨⟨s4, s5, s6, rfl⟩, rfl⟩
    obtain ⟨hi, rfl⟩ := BK ex
    obtain ⟨a, b, c, e1, e2, q1, q2, q3⟩ := rJ (q := q) n 0 ns i hn (by simpa using hi)
    rw [Nat.zero_add] at e2
    have hi2 : i < n := by simpa using hi
    have na := oH (n := i) (k := 5) (by decide) (by omega)
    have si : ∀ H, uN H [.int (i : Int)] = some (.str (nS i)) := fun H => j5 (by omega)
    have jl : (Str.join (sg 32) [nS a, nS b, nS c]).length ≤ 185 := by
      have e := oU (sep := sg 32) (ps := [nS a, nS b, nS c]) (by simp)
      have e1 : (sg 32).length = 1 := rfl
      rw [e1] at e
      have := hl a q1; have := hl b q2; have := hl c q3
      simp only [List.map_cons, List.map_nil, List.sum_cons, List.sum_nil, List.length_cons, List.length_nil] at e
      omega
    have k1 : (Str.ofString "job " ++ nS i).length ≤ 9 := by rw [len_app, l1]; omega
    have k2 : (Str.ofString "job " ++ nS i ++ Str.ofString ": ").length ≤ 11 := by rw [len_app, l2]; omega
    have k3 : (Str.ofString "job " ++ nS i ++ Str.ofString ": " ++ Str.join (sg 32) [nS a, nS b, nS c]).length ≤ 196 := by rw [len_app]; omega
    have k4 : (Str.ofString "job " ++ nS i ++ Str.ofString ": " ++ Str.join (sg 32) [nS a, nS b, nS c] ++ Str.ofString " / ").length ≤ 199 := by rw [len_app, l3]; omega
    have k5 : (Str.ofString "job " ++ nS i ++ Str.ofString ": " ++ Str.join (sg 32) [nS a, nS b, nS c] ++ Str.ofString " / " ++ nS q).length ≤ 260 := by rw [len_app]; omega
    have a1 : ∀ H, cP H (.str "job ") (.str (nS i)) = some (.str (Str.ofString "job " ++ nS i)) := fun H => add_str (by omega)
    have a2 : ∀ H, cP H (.str (Str.ofString "job " ++ nS i)) (.str ": ") = some (.str (Str.ofString "job " ++ nS i ++ Str.ofString ": ")) := fun H => add_str (by omega)
    have a3 : ∀ H, cP H (.str (Str.ofString "job " ++ nS i ++ Str.ofString ": ")) (.str (Str.join (sg 32) [nS a, nS b, nS c])) = some (.str (Str.ofString "job " ++ nS i ++ Str.ofString ": " ++ Str.join (sg 32) [nS a, nS b, nS c])) := fun H => add_str (by omega)
    have a4 : ∀ H, cP H (.str (Str.ofString "job " ++ nS i ++ Str.ofString ": " ++ Str.join (sg 32) [nS a, nS b, nS c])) (.str " / ") = some (.str (Str.ofString "job " ++ nS i ++ Str.ofString ": " ++ Str.join (sg 32) [nS a, nS b, nS c] ++ Str.ofString " / ")) := fun H => add_str (by omega)
    have a5 : ∀ H, cP H (.str (Str.ofString "job " ++ nS i ++ Str.ofString ": " ++ Str.join (sg 32) [nS a, nS b, nS c] ++ Str.ofString " / ")) (.str (nS q)) = some (.str (Str.ofString "job " ++ nS i ++ Str.ofString ": " ++ Str.join (sg 32) [nS a, nS b, nS c] ++ Str.ofString " / " ++ nS q)) := fun H => add_str (by omega)
    have a6 : ∀ H, cP H (.str (Str.ofString "job " ++ nS i ++ Str.ofString ": " ++ Str.join (sg 32) [nS a, nS b, nS c] ++ Str.ofString " / " ++ nS q)) (.str "\n") = some (.str (lnS i a b c q ++ sg 10)) := fun H => by
      rw [qm]
      exact add_str (by have : (sg 10).length = 1 := rfl; omega)
    have c3 : ∀ H, slD H (.tup (fM ns)) (some (3 * (i : Int))) (some (3 * (i : Int) + 3)) = some (.tup [.int (a : Int), .int (b : Int), .int (c : Int)]) := fun H => wM hn hi2 e1
    have j3 : ∀ H, oV (Str.ofString " ") H (.lst [.str (nS a), .str (nS b), .str (nS c)]) = some (.str (Str.join (sg 32) [nS a, nS b, nS c])) := fun H => Qc (m := 61) (by decide) (hl a q1) (hl b q2) (hl c q3)
    have sq : ∀ H, uN H [.int (q : Int)] = some (.str (nS q)) := fun H => zP hq
    simp! [jg, ↓nW, aZ, m3, c3]
    refine Dr (fun n hn => ?_) (hl a q1) (hl b q2) (hl c q3) ?_
    · have := fun H => j5 (h := H) (n := n) (Nat.lt_trans hn (by decide))
      simp! [jo, this]
    · simp! [j3, si, a1, a2, a3, a4, sq, a5, a6]
      refine ⟨by simp; omega, ?_⟩
      rw [List.take_add_one, e2, List.map_append, List.map_append]
      exact ⟨_, _, _, rfl⟩
  · rintro s h' ⟨⟨s4, s5, s6, rfl⟩, rfl⟩
    have e0 : (rg 0 ((n : Int)).toNat).length = n := by rw [qj]; omega
    rw [e0, List.take_of_length_le (by omega)]
    have cl : (((pN q 0 ns).map fun l => l ++ sg 10).map (·.length)).sum + ((pN q 0 ns).map fun l => l ++ sg 10).length * (Str.ofString "").length ≤ 100000 := by
      have le : (Str.ofString "").length = 0 := by decide +kernel
      rw [le, Nat.mul_zero, Nat.add_zero]
      have : ∀ (l : List Str) (b : Nat), (∀ x ∈ l, x.length ≤ b) → (l.map (·.length)).sum ≤ l.length * b := by
        intro l b
        induction l with
        | nil => intro _; simp
        | cons x l ih =>
          intro h
          have h1 := h x List.mem_cons_self
          have h2 := ih fun y hy => h y (List.mem_cons_of_mem _ hy)
          rw [List.map_cons, List.sum_cons, List.length_cons, Nat.succ_mul]
          omega
      have t := this ((pN q 0 ns).map fun l => l ++ sg 10) 261 fun x hx => by
        obtain ⟨l, hm, rfl⟩ := List.mem_map.mp hx
        obtain ⟨i, a, b, c, hi, rfl, m1, m2, m3⟩ := v8 n 0 ns hn hm
        have := zj (j := 0 + i) (m := 61) (by omega) (hl a m1) (hl b m2) (hl c m3) hq
        rw [len_app]
        have e1 : (sg 10).length = 1 := rfl
        omega
      rw [List.length_map, ll] at t
      omega
    have je : ∀ H, oV (Str.ofString "") H (.lst (((pN q 0 ns).map fun l => l ++ sg 10).map .str)) = some (.str (CK ns q)) := fun H => by
      rw [rM cl, TL.join_eq, qQ]
      rfl
    simp! [↓nW, aZ, je]
    exact kk
theorem Ci {h : Hd} {n q : Nat} {ns : List Nat} {Q : D → Sd → Hd → Prop} {E : Ex} (hn : ns.length = 3 * n) (h8 : n ≤ 8) (hl : ∀ a ∈ ns, (nS a).length ≤ 61) (hq : (nS q).length ≤ 61)
    (kk : Q (.str (CK ns q)) [] h) : Wq Q E () (bQ [Gz ns q] h) := by
  have ll := iy (q := q) n 0 ns hn
  have ln : ∀ H, pO H [.tup (fM ns)] = some (.int ((3 * n : Nat) : Int)) := fun _ => by
    show some (D.int ((fM ns).length : Nat)) = _
    unfold fM
    rw [List.length_map, hn]
  have sm : small (n : Int) = true := vG (by omega) (by omega)
  have m3 : ∀ H (i : Nat), pH H (.int 3) (.int (i : Int)) = some (.int (3 * (i : Int))) := fun H i => yW (by decide)
  have l1 : (Str.ofString "job ").length = 4 := by decide +kernel
  have l2 : (Str.ofString ": ").length = 2 := by decide +kernel
  have l3 : (Str.ofString " / ").length = 3 := by decide +kernel
  have l4 : (Str.ofString "\n").length = 1 := by decide +kernel
  simp! [gA, gq, gj, fO, bQ, Gz, Vb, ln, VH, sm]
  refine Wq.loop (fun i s h' => (∃ s2 s3 s4 s5, s = [.val (Gz ns q), .val (.str (cat (((pN q 0 ns).take i).map fun l => l ++ sg 10))), s2, s3, s4, s5]) ∧ h' = h) ⟨⟨_, _, _, _, rfl⟩, rfl⟩ ?_ ?_
  · rintro i x s h' ex ⟨⟨s2, s3, s4, s5, rfl⟩, rfl⟩
    obtain ⟨hi, rfl⟩ := BK ex
    obtain ⟨a, b, c, e1, e2, q1, q2, q3⟩ := rJ (q := q) n 0 ns i hn (by simpa using hi)
    rw [Nat.zero_add] at e2
    have hi2 : i < n := by simpa using hi
    have na := oH (n := i) (k := 5) (by decide) (by omega)
    have si : ∀ H, uN H [.int (i : Int)] = some (.str (nS i)) := fun H => j5 (by omega)
    have jl : (Str.join (sg 32) [nS a, nS b, nS c]).length ≤ 185 := by
      have e := oU (sep := sg 32) (ps := [nS a, nS b, nS c]) (by simp)
      have e1 : (sg 32).length = 1 := rfl
      rw [e1] at e
      have := hl a q1; have := hl b q2; have := hl c q3
      simp only [List.map_cons, List.map_nil, List.sum_cons, List.sum_nil, List.length_cons, List.length_nil] at e
      omega
    have cl : (cat (((pN q 0 ns).take i).map fun l => l ++ sg 10)).length ≤ 2100 := by
      have t := pP (((pN q 0 ns).take i).map fun l => l ++ sg 10) 261 fun x hx => by
        obtain ⟨l, hm, rfl⟩ := List.mem_map.mp hx
        obtain ⟨i, a, b, c, hi, rfl, m1, m2, m3⟩ := v8 n 0 ns hn (List.mem_of_mem_take hm)
        have := zj (j := 0 + i) (m := 61) (by omega) (hl a m1) (hl b m2) (hl c m3) hq
        rw [len_app]
        have e1 : (sg 10).length = 1 := rfl
        omega
      rw [List.length_map, List.length_take, ll] at t
      have : min i n * 261 ≤ 8 * 261 := Nat.mul_le_mul_right _ (by omega)
      omega
    generalize hC : cat (((pN q 0 ns).take i).map fun l => l ++ sg 10) = C at *
    have k1 : (Str.ofString "job " ++ nS i).length ≤ 9 := by rw [len_app, l1]; omega
    have k2 : (Str.ofString "job " ++ nS i ++ Str.ofString ": ").length ≤ 11 := by rw [len_app, l2]; omega
    have k3 : (Str.ofString "job " ++ nS i ++ Str.ofString ": " ++ Str.join (sg 32) [nS a, nS b, nS c]).length ≤ 196 := by rw [len_app]; omega
    have k4 : (C ++ (Str.ofString "job " ++ nS i ++ Str.ofString ": " ++ Str.join (sg 32) [nS a, nS b, nS c])).length ≤ 2300 := by rw [len_app]; omega
    have k5 : (C ++ (Str.ofString "job " ++ nS i ++ Str.ofString ": " ++ Str.join (sg 32) [nS a, nS b, nS c]) ++ Str.ofString " / ").length ≤ 2303 := by rw [len_app, l3]; omega
    have k6 : (C ++ (Str.ofString "job " ++ nS i ++ Str.ofString ": " ++ Str.join (sg 32) [nS a, nS b, nS c]) ++ Str.ofString " / " ++ nS q).length ≤ 2400 := by rw [len_app]; omega
    have a1 : ∀ H, cP H (.str "job ") (.str (nS i)) = some (.str (Str.ofString "job " ++ nS i)) := fun H => add_str (by omega)
    have a2 : ∀ H, cP H (.str (Str.ofString "job " ++ nS i)) (.str ": ") = some (.str (Str.ofString "job " ++ nS i ++ Str.ofString ": ")) := fun H => add_str (by omega)
    have a3 : ∀ H, cP H (.str (Str.ofString "job " ++ nS i ++ Str.ofString ": ")) (.str (Str.join (sg 32) [nS a, nS b, nS c])) = some (.str (Str.ofString "job " ++ nS i ++ Str.ofString ": " ++ Str.join (sg 32) [nS a, nS b, nS c])) := fun H => add_str (by omega)
    have a4 : ∀ H, cP H (.str C) (.str (Str.ofString "job " ++ nS i ++ Str.ofString ": " ++ Str.join (sg 32) [nS a, nS b, nS c])) = some (.str (C ++ (Str.ofString "job " ++ nS i ++ Str.ofString ": " ++ Str.join (sg 32) [nS a, nS b, nS c]))) := fun H => add_str (by omega)
    have a5 : ∀ H, cP H (.str (C ++ (Str.ofString "job " ++ nS i ++ Str.ofString ": " ++ Str.join (sg 32) [nS a, nS b, nS c]))) (.str " / ") = some (.str (C ++ (Str.ofString "job " ++ nS i ++ Str.ofString ": " ++ Str.join (sg 32) [nS a, nS b, nS c]) ++ Str.ofString " / ")) := fun H => add_str (by omega)
    have a6 : ∀ H, cP H (.str (C ++ (Str.ofString "job " ++ nS i ++ Str.ofString ": " ++ Str.join (sg 32) [nS a, nS b, nS c]) ++ Str.ofString " / ")) (.str (nS q)) = some (.str (C ++ (Str.ofString "job " ++ nS i ++ Str.ofString ": " ++ Str.join (sg 32) [nS a, nS b, nS c]) ++ Str.ofString " / " ++ nS q)) := fun H => add_str (by omega)
    have a7 : ∀ H, cP H (.str (C ++ (Str.ofString "job " ++ nS i ++ Str.ofString ": " ++ Str.join (sg 32) [nS a, nS b, nS c]) ++ Str.ofString " / " ++ nS q)) (.str "\n") = some (.str (C ++ (lnS i a b c q ++ sg 10))) := fun H => by
      rw [qm, add_str (by have : (sg 10).length = 1 := rfl; omega)]
      have : C ++ (Str.ofString "job " ++ nS i ++ Str.ofString ": " ++ Str.join (sg 32) [nS a, nS b, nS c]) ++ Str.ofString " / " ++ nS q ++ sg 10 = C ++ (lnS i a b c q ++ sg 10) := by
        unfold lnS
        simp only [wQ]
      rw [this]
    have c3 : ∀ H, slD H (.tup (fM ns)) (some (3 * (i : Int))) (some (3 * (i : Int) + 3)) = some (.tup [.int (a : Int), .int (b : Int), .int (c : Int)]) := fun H => wM hn hi2 e1
    have j3 : ∀ H, oV (Str.ofString " ") H (.lst [.str (nS a), .str (nS b), .str (nS c)]) = some (.str (Str.join (sg 32) [nS a, nS b, nS c])) := fun H => Qc (m := 61) (by decide) (hl a q1) (hl b q2) (hl c q3)
    have sq : ∀ H, uN H [.int (q : Int)] = some (.str (nS q)) := fun H => zP hq
    simp! [gR, ↓nW, aZ, m3, Gz, Vb, c3]
    refine Dr (fun n hn => ?_) (hl a q1) (hl b q2) (hl c q3) ?_
    · have := fun H => j5 (h := H) (n := n) (Nat.lt_trans hn (by decide))
      simp! [gY, this]
    · simp! [↓nW, aZ, j3, si, a1, a2, a3, a4, WD, sq, a5, a6, a7]
      rw [GD hn hi2 e2, hC]
      exact ⟨_, _, _, _, rfl⟩
  · rintro s h' ⟨⟨s2, s3, s4, s5, rfl⟩, rfl⟩
    have e0 : (rg 0 ((n : Int)).toNat).length = n := by rw [qj]; omega
    rw [e0, List.take_of_length_le (by omega)]
    simp!
    exact kk
def Tx' (b : Nat) (x : Str) : Prop := As x ∧ x.length ≤ b
theorem wj {k b : Nat} {ps : List Str} (hk : k < 128) (ha : ∀ p ∈ ps, As p) (hl : (ps.map (·.length)).sum + ps.length ≤ b + 1) : Tx' b (Str.join (sg k) ps) := by
  refine ⟨As.join (Ir hk) ha, ?_⟩
  by_cases h : ps = []
  · rw [h]
    show Str.empty.length ≤ b
    exact Nat.zero_le _
  · have e := oU (sep := sg k) h
    have e1 : (sg k).length = 1 := rfl
    rw [e1] at e
    omega
theorem rN {h : Hd} {k : Nat} {ps : List Str} (hl : (ps.map (·.length)).sum + ps.length ≤ 100000) : oV (sg k) h (.lst (ps.map .str)) = some (.str (Str.join (sg k) ps)) := by
  rw [rM (by have e1 : (sg k).length = 1 := rfl; rw [e1]; omega), TL.join_eq]
theorem rZ (xs ys : List Str) : ((xs ++ ys).map (·.length)).sum = (xs.map (·.length)).sum + (ys.map (·.length)).sum := by rw [List.map_append, List.sum_append]
theorem sum_take (xs : List Str) (i : Nat) : ((xs.take i).map (·.length)).sum + ((xs.drop i).map (·.length)).sum = (xs.map (·.length)).sum := by
  rw [← rZ, List.take_append_drop]
theorem v9 (xs : List Str) (i : Nat) : (xs.take i).length + (xs.drop i).length = xs.length := by
  rw [← List.length_append, List.take_append_drop]
theorem zN (xs : List Str) (i j : Nat) (h : i ≤ j) : ((xs.drop j).map (·.length)).sum + (xs.drop j).length ≤ ((xs.drop i).map (·.length)).sum + (xs.drop i).length := by
  have e : xs.drop j = (xs.drop i).drop (j - i) := by rw [List.drop_drop]; congr 1; omega
  have t := sum_take (xs.drop i) (j - i)
  have u := v9 (xs.drop i) (j - i)
  rw [e]
  omega
theorem Ja {h : Hd} {xs : List Str} {i : Nat} (hi : i ≤ xs.length) : slD h (.lst (xs.map .str)) none (some (i : Int)) = some (.lst ((xs.take i).map .str)) := by
  show some (D.lst (cut (xs.map .str) none (some (i : Int)))) = _
  rw [QC (by rw [List.length_map]; exact hi), List.map_take]
theorem rD {h : Hd} {xs : List Str} {i : Nat} (hi : i ≤ xs.length) : slD h (.lst (xs.map .str)) (some (i : Int)) none = some (.lst ((xs.drop i).map .str)) := by
  show some (D.lst (cut (xs.map .str) (some (i : Int)) none)) = _
  rw [Il (by rw [List.length_map]; exact hi), List.map_drop]
theorem Mu {h : Hd} {xs ys : List D} (hl : xs.length + ys.length ≤ 100000) : cP h (.lst xs) (.lst ys) = some (.lst (xs ++ ys)) := by
  show (if xs.length + ys.length ≤ 100000 then some (D.lst (xs ++ ys)) else none) = _
  rw [if_pos hl]
theorem xK {d : Int} (h : 0 ≤ d) : ∃ n : Nat, d = (n : Int) := ⟨d.toNat, by omega⟩
def CZ : List Str := ["job", "0:", "1:", "0", "00", "1", "7", "/", "", "1_0", "-1", "x", jV (Str.ofString "9") 61, jV (Str.ofString "9") 62, "Job", ":", "8:", "JOB", "1\t2", "\t"]
theorem CW : ∀ x ∈ CZ, As x ∧ x.length ≤ 62 := by
  have h : CZ.all (fun s => (s.cps.toList.all fun c => decide (c < 128)) && decide (s.length ≤ 62)) = true := by decide +kernel
  intro x hx
  have := List.all_eq_true.mp h x hx
  rw [Bool.and_eq_true] at this
  exact ⟨fun c hc => of_decide_eq_true (List.all_eq_true.mp this.1 c hc), of_decide_eq_true this.2⟩
theorem T8 {h : Hd} {n : Nat} (h1 : 2 ≤ n) (h2 : n ≤ 5000) (s : Str) (hs : s.length = 1) : Hl h (.str s) (.int (n : Int)) = some (.str (jV s n)) := by
  show (if 2 ≤ (n : Int) ∧ s.length * ((n : Int)).toNat ≤ 100000 ∧ 0 < s.length then some (D.str (jV s ((n : Int)).toNat)) else none) = _
  rw [hs, if_pos ⟨by omega, by omega, by decide⟩]
  rfl
theorem sum_set : ∀ (l : List Str) (t : Nat) (z : Str) (_ : l[t]? = some z) (y : Str), ((l.set t y).map (·.length)).sum + z.length = (l.map (·.length)).sum + y.length
  | x :: l, 0, z, e, y => by
    cases e
    show y.length + (l.map (·.length)).sum + x.length = x.length + (l.map (·.length)).sum + y.length
    omega
  | x :: l, t + 1, z, e, y => by
    have ih := sum_set l t z e y
    show x.length + ((l.set t y).map (·.length)).sum + z.length = x.length + (l.map (·.length)).sum + y.length
    omega
theorem JN {x0 x1 x2 x4 x5 x8 : Sl} {h : Hd} {o : Int} {v : Nat} {qs : List Str} {w : Str} {Q : Fl → Sd → Hd → Prop} {E : Ex} (hv : v ≤ qs.length) (wl : w.length ≤ 62) (wa : As w) (qa : ∀ p ∈ qs, As p) (hb : qs.length ≤ 50000)
    (kk : ∀ ws : List Str, (∀ p ∈ ws, As p) → (ws.map (·.length)).sum + ws.length ≤ (qs.map (·.length)).sum + qs.length + 63 → Q .nx [x0, x1, x2, .val (.int o), x4, x5, .own (ws.map .str), .val (.int (v : Int)), x8, .val (.str w)] h) :
    Wq Q E () (cD [x0, x1, x2, .val (.int o), x4, x5, .own (qs.map .str), .val (.int (v : Int)), x8, .val (.str w)] h) := by
  have lq : (qs.map D.str).length = qs.length := List.length_map ..
  have sv := sum_take qs v
  have lv := v9 qs v
  have sdv := zN qs v (v + 1) (by omega)
  have sv1 : ∀ H, slD H (.lst (qs.map D.str)) none (some (v : Int)) = some (.lst ((qs.take v).map .str)) := fun H => Ja (by omega)
  have sv3 : ∀ H, slD H (.lst (qs.map D.str)) (some (v : Int)) none = some (.lst ((qs.drop v).map .str)) := fun H => rD (by omega)
  have ins : (((qs.take v ++ (w :: qs.drop v)).map (·.length)).sum + (qs.take v ++ (w :: qs.drop v)).length) ≤ (qs.map (·.length)).sum + qs.length + 63 := by
    have e1 := rZ (qs.take v) (w :: qs.drop v)
    rw [List.map_cons, List.sum_cons] at e1
    rw [List.length_append, List.length_cons]
    omega
  have Vz : ∀ p ∈ qs.take v ++ (w :: qs.drop v), As p := fun p hp => by
    rcases List.mem_append.mp hp with z | z
    · exact qa p (List.mem_of_mem_take z)
    · rcases List.mem_cons.mp z with z | z
      · rw [z]; exact wa
      · exact qa p (List.mem_of_mem_drop z)
  have Vy : (qs.take v).map D.str ++ [D.str w] ++ (qs.drop v).map D.str = (qs.take v ++ (w :: qs.drop v)).map D.str := by simp
  have l1 : ((qs.take v).map D.str).length + 1 ≤ 100000 := by simp; omega
  have l2 : ((qs.take v).map D.str ++ [D.str w]).length + ((qs.drop v).map D.str).length ≤ 100000 := by simp; omega
  by_cases h2 : o = 2
  · simp! [cD, cV, decide_eq_true h2, sv1, sv3, l1, l2, Vy]
    exact kk _ Vz ins
  · by_cases h3 : v = qs.length
    · simp! [cD, cV, decide_eq_false h2, lq, decide_eq_true (show (v : Int) = (qs.length : Int) by omega), sv1, sv3, l1, l2, Vy]
      exact kk _ Vz ins
    · by_cases h4 : o = 3
      · have sv2 : ∀ H, slD H (.lst (qs.map D.str)) (some ((v : Int) + 1)) none = some (.lst ((qs.drop (v + 1)).map .str)) := fun H => by
          have e1 : (v : Int) + 1 = ((v + 1 : Nat) : Int) := by omega
          rw [e1]
          exact rD (by omega)
        have l3 : ((qs.take v).map D.str).length + ((qs.drop (v + 1)).map D.str).length ≤ 100000 := by simp; omega
        have Wz : (qs.take v).map D.str ++ (qs.drop (v + 1)).map D.str = (qs.take v ++ qs.drop (v + 1)).map D.str := by simp
        simp! [cD, cV, decide_eq_false h2, lq, decide_eq_false (show ¬ (v : Int) = (qs.length : Int) by omega), decide_eq_true h4, sv1, sv2, l3, Wz]
        refine kk _ (fun p hp => ?_) ?_
        · rcases List.mem_append.mp hp with z | z
          · exact qa p (List.mem_of_mem_take z)
          · exact qa p (List.mem_of_mem_drop z)
        · have e1 := rZ (qs.take v) (qs.drop (v + 1))
          rw [List.length_append]
          omega
      · have hv2 : v < qs.length := by omega
        have ix : ixN qs.length (v : Int) = some v := by
          unfold ixN
          simp [hv2]
        have se : (qs.map D.str).set v (.str w) = (qs.set v w).map D.str := by rw [List.map_set]
        simp! [cD, cV, decide_eq_false h2, lq, decide_eq_false (show ¬ (v : Int) = (qs.length : Int) by omega), decide_eq_false h4, ix, se]
        refine kk _ (fun p hp => ?_) ?_
        · rcases List.mem_or_eq_of_mem_set hp with z | z
          · exact qa p z
          · rw [z]; exact wa
        · have e1 := sum_set qs v qs[v] (List.getElem?_eq_getElem hv2) w
          rw [List.length_set]
          omega
theorem Ei {h : Hd} {b : Nat} {x : Str} {Q : D → Sd → Hd → Prop} {E : Ex} (P : Pen h) (hx : Tx' b x) (hb : b ≤ 20000) (kk : ∀ y h', Tx' (2 * b + 100) y → Pen h' → Q (.str y) [] h') : Wq Q E () (fJ [.ref 0, .str x] h) := by
  obtain ⟨ls, e, hp, hf, hj⟩ := cX (x := x) (k := 10) (by decide)
  obtain ⟨ax, lx⟩ := hx
  have pl := jy hp hj
  have pa := ax.piece hj
  have ps := sS hp hj
  have s0 : (0 < (Str.ofString "\n").length ∧ x.length ≤ 100000) := ⟨by decide, by omega⟩
  have ex : Txt.split x (Str.ofString "\n") = ls := by rw [qm, e]
  have hl0 : 0 < ls.length := List.length_pos_iff.mpr hp
  have ll : (ls.map D.str).length = ls.length := List.length_map ..
  simp! [fJ, lW, kW, ↓y_split, aZ, s0]
  rw [ex]
  refine nJ P (by decide) (by decide) fun o h1 o0 o1 P1 => ?_
  simp! [kJ, ll]
  refine nJ P1 (by omega) (by omega) fun t h2 t0 t1 P2 => ?_
  simp! [ll]
  refine nJ P2 (by omega) (by omega) fun u h3 u0 u1 P3 => ?_
  obtain ⟨t, rfl⟩ := xK t0
  obtain ⟨u, rfl⟩ := xK u0
  have ht : t < ls.length := by omega
  have hu : u < ls.length := by omega
  have st := sum_take ls t
  have lt := v9 ls t
  have sd := zN ls t (t + 1) (by omega)
  have sl1 : ∀ H, slD H (.lst (ls.map D.str)) none (some (t : Int)) = some (.lst ((ls.take t).map .str)) := fun H => Ja (by omega)
  have sl2 : ∀ H, slD H (.lst (ls.map D.str)) (some ((t : Int) + 1)) none = some (.lst ((ls.drop (t + 1)).map .str)) := fun H => by
    have e1 : (t : Int) + 1 = ((t + 1 : Nat) : Int) := by omega
    rw [e1]
    exact rD (by omega)
  have sl3 : ∀ H, slD H (.lst (ls.map D.str)) (some (t : Int)) none = some (.lst ((ls.drop t).map .str)) := fun H => rD (by omega)
  have iu : atI (ls.map D.str) (u : Int) = some (.str ls[u]) := jT (by omega) (by simp [hu])
  have it : atI (ls.map D.str) (t : Int) = some (.str ls[t]) := jT (by omega) (by simp [ht])
  by_cases o2 : o = 0
  · have ad : ∀ H, cP H (.lst ((ls.take t).map .str)) (.lst ((ls.drop (t + 1)).map .str)) = some (.lst ((ls.take t ++ ls.drop (t + 1)).map .str)) := fun H => by
      rw [Mu (by rw [List.length_map, List.length_map, List.length_take, List.length_drop]; omega), List.map_append]
    have hs := rZ (ls.take t) (ls.drop (t + 1))
    have hs2 : (ls.take t ++ ls.drop (t + 1)).length = (ls.take t).length + (ls.drop (t + 1)).length := List.length_append
    have jn : ∀ H, oV (Str.ofString "\n") H (.lst ((ls.take t ++ ls.drop (t + 1)).map .str)) = some (.str (Str.join (sg 10) (ls.take t ++ ls.drop (t + 1)))) := fun H => by
      rw [qm]
      exact rN (by omega)
    simp! [d7, cV, decide_eq_true o2, ↓nW, aZ, sl1, sl2, ad, jn]
    refine kk _ _ (wj (by decide) (fun p hp => ?_) (by omega)) P3
    rcases List.mem_append.mp hp with z | z
    · exact pa p (List.mem_of_mem_take z)
    · exact pa p (List.mem_of_mem_drop z)
  · by_cases o3 : o = 1
    · have hs := rZ (ls.take t) (ls[u] :: ls.drop t)
      have hm := pl.2 ls[u] (List.getElem_mem hu)
      have hs2 : (ls.take t ++ (ls[u] :: ls.drop t)).length = (ls.take t).length + (ls.drop t).length + 1 := by rw [List.length_append, List.length_cons]; omega
      rw [List.map_cons, List.sum_cons] at hs
      have jn : ∀ H, oV (Str.ofString "\n") H (.lst ((ls.take t).map D.str ++ [D.str ls[u]] ++ (ls.drop t).map D.str)) = some (.str (Str.join (sg 10) (ls.take t ++ (ls[u] :: ls.drop t)))) := fun H => by
        rw [qm]
        have e1 : (ls.take t).map D.str ++ [D.str ls[u]] ++ (ls.drop t).map D.str = (ls.take t ++ (ls[u] :: ls.drop t)).map D.str := by simp
        rw [e1]
        exact rN (by omega)
      have l1 : ((ls.take t).map D.str).length + 1 ≤ 100000 := by rw [List.length_map]; omega
      have l2 : ((ls.take t).map D.str ++ [D.str ls[u]]).length + ((ls.drop t).map D.str).length ≤ 100000 := by simp; omega
      have l1 : ((ls.take t).map D.str).length + 1 ≤ 100000 := by simp; omega
      simp! [d7, gK, cV, decide_eq_false o2, decide_eq_true o3, ↓nW, aZ, sl1, sl3, iu, l1, l2, jn]
      refine kk _ _ (wj (by decide) (fun p hp => ?_) (by omega)) P3
      rcases List.mem_append.mp hp with z | z
      · exact pa p (List.mem_of_mem_take z)
      · rcases List.mem_cons.mp z with z | z
        · rw [z]; exact pa _ (List.getElem_mem hu)
        · exact pa p (List.mem_of_mem_drop z)
    · obtain ⟨qs, e3, hq, hfq, hjq⟩ := cX (x := ls[t]) (k := 32) (by decide)
      have at' := pa ls[t] (List.getElem_mem ht)
      have lt' := pl.2 ls[t] (List.getElem_mem ht)
      have ql := jy hq hjq
      have qa := at'.piece hjq
      have qs' := sS hq hjq
      have q0 : (0 < (Str.ofString " ").length ∧ ls[t].length ≤ 100000) := ⟨by decide, by omega⟩
      have eq : Txt.split ls[t] (Str.ofString " ") = qs := by rw [vf, e3]
      have hq0 : 0 < qs.length := List.length_pos_iff.mpr hq
      have lq : (qs.map D.str).length = qs.length := List.length_map ..
      have n9 : (Str.ofString "9").length = 1 := by decide +kernel
      have m1 : ∀ H, Hl H (.str "9") (.int 61) = some (.str (jV (Str.ofString "9") 61)) := fun H => T8 (n := 61) (by decide) (by decide) _ n9
      have m2 : ∀ H, Hl H (.str "9") (.int 62) = some (.str (jV (Str.ofString "9") 62)) := fun H => T8 (n := 62) (by decide) (by decide) _ n9
      simp! [d7, gK, kE, cV, decide_eq_false o2, decide_eq_false o3, it, ↓y_split, aZ, q0]
      rw [eq]
      simp! [kh, lq]
      refine nJ P3 (by omega) (by omega) fun v h4 v0 v1 P4 => ?_
      obtain ⟨v, rfl⟩ := xK v0
      have hv : v ≤ qs.length := by omega
      simp! [j9, j8, m1, m2]
      refine xG P4 (by simp) (by simp) fun d h5 hd P5 => ?_
      have hw : ∃ w : Str, d = .str w ∧ As w ∧ w.length ≤ 62 := by
        have hm : d ∈ CZ.map D.str := hd
        obtain ⟨w, hw, rfl⟩ := List.mem_map.mp hm
        exact ⟨w, rfl, CW w hw⟩
      obtain ⟨w, rfl, wa, wl⟩ := hw
      simp!
      refine JN hv wl wa qa (by omega) fun ws hwa hwl => ?_
      have jw := wj (b := ls[t].length + 63) (k := 32) (by decide) hwa (by omega)
      have jn1 : ∀ H, oV (Str.ofString " ") H (.lst (ws.map D.str)) = some (.str (Str.join (sg 32) ws)) := fun H => by
        rw [vf]
        exact rN (by omega)
      have ix : ixN ls.length (t : Int) = some t := by
        unfold ixN
        simp [ht]
      have se : (ls.map D.str).set t (.str (Str.join (sg 32) ws)) = (ls.set t (Str.join (sg 32) ws)).map D.str := by rw [List.map_set]
      have e1 := sum_set ls t ls[t] (List.getElem?_eq_getElem ht) (Str.join (sg 32) ws)
      have e2 : (ls.set t (Str.join (sg 32) ws)).length = ls.length := List.length_set ..
      have jl := jw.2
      have jn2 : ∀ H, oV (Str.ofString "\n") H (.lst ((ls.set t (Str.join (sg 32) ws)).map D.str)) = some (.str (Str.join (sg 10) (ls.set t (Str.join (sg 32) ws)))) := fun H => by
        rw [qm]
        exact rN (by omega)
      simp! [j7, jL, ↓nW, aZ, jn1, ll, ix, se, jn2]
      refine xG P5 (by simp) (by simp) fun d h6 hd P6 => ?_
      have hz : ∃ z : Str, d = .str z ∧ As z ∧ z.length ≤ 16 := by
        have ok : ∀ z ∈ (["", "", "", "\n", " ", "job 0: 0 0 0 / 1"] : List Str), As z ∧ z.length ≤ 16 := by
          have h : (["", "", "", "\n", " ", "job 0: 0 0 0 / 1"] : List Str).all (fun s => (s.cps.toList.all fun c => decide (c < 128)) && decide (s.length ≤ 16)) = true := by decide +kernel
          intro x hx
          have := List.all_eq_true.mp h x hx
          rw [Bool.and_eq_true] at this
          exact ⟨fun c hc => of_decide_eq_true (List.all_eq_true.mp this.1 c hc), of_decide_eq_true this.2⟩
        have hm : d ∈ (["", "", "", "\n", " ", "job 0: 0 0 0 / 1"] : List Str).map D.str := hd
        obtain ⟨z, hz, rfl⟩ := List.mem_map.mp hm
        exact ⟨z, rfl, ok z hz⟩
      obtain ⟨z, rfl, za, zl⟩ := hz
      have jt := wj (b := b + 63) (k := 10) (ps := ls.set t (Str.join (sg 32) ws)) (by decide) (fun p hp => by
        rcases List.mem_or_eq_of_mem_set hp with z | z
        · exact pa p z
        · rw [z]; exact jw.1) (by omega)
      have jl2 := jt.2
      simp! [add_str (x := Str.join (sg 10) (ls.set t (Str.join (sg 32) ws))) (y := z) (h := h6) (by omega)]
      exact kk _ _ ⟨jt.1.app za, by rw [len_app]; omega⟩ P6
theorem xZ : ∀ (ls : List Str) (k : Nat) (acc : List Nat) (p : Option Nat), match goP k acc p ls with
    | .inl j => j < k + ls.length
    | .inr (ns, q) => ns.length ≤ acc.length + 3 * (8 - k) ∧ (∀ a ∈ ns, a ∈ acc ∨ a < 10 ^ 61) ∧ (∀ v, q = some v → p = some v ∨ v < 10 ^ 61)
  | [], k, acc, p => ⟨by omega, fun a h => .inl h, fun v h => .inl h⟩
  | l :: ls, k, acc, p => by
    rw [oW]
    cases er : sO k (Txt.split l (sg 32)) with
    | none => exact (by simp : k < k + (l :: ls).length)
    | some z =>
      obtain ⟨a, b, c, q⟩ := z
      have hb : a < 10 ^ 61 ∧ b < 10 ^ 61 ∧ c < 10 ^ 61 ∧ q < 10 ^ 61 := by
        unfold sO at er
        split at er
        · split at er
          · rename_i c0 d0 e0 z0 _
            unfold wY at er
            split at er
            · rename_i h1 h2 h3 h4
              split at er
              · cases er
              · cases er
                exact ⟨qw (oG h1).2, qw (oG h2).2, qw (oG h3).2, qw (oG h4).2⟩
            · cases er
          · cases er
        · cases er
      show match (if 8 ≤ k ∨ (p ≠ none ∧ p ≠ some q) then (.inl k : Nat ⊕ (List Nat × Option Nat)) else goP (k + 1) (acc ++ [a, b, c]) (some q) ls) with
        | .inl j => j < k + (l :: ls).length
        | .inr (ns, q) => ns.length ≤ acc.length + 3 * (8 - k) ∧ (∀ a ∈ ns, a ∈ acc ∨ a < 10 ^ 61) ∧ (∀ v, q = some v → p = some v ∨ v < 10 ^ 61)
      by_cases h : 8 ≤ k ∨ (p ≠ none ∧ p ≠ some q)
      · rw [if_pos h]
        exact (by simp : k < k + (l :: ls).length)
      · rw [if_neg h]
        have hk : k < 8 := by omega
        have ih := xZ ls (k + 1) (acc ++ [a, b, c]) (some q)
        cases eg : goP (k + 1) (acc ++ [a, b, c]) (some q) ls with
        | inl j =>
          rw [eg] at ih
          have ih2 : j < k + 1 + ls.length := ih
          show j < k + (l :: ls).length
          rw [List.length_cons]
          omega
        | inr z =>
          obtain ⟨ns, q2⟩ := z
          rw [eg] at ih
          obtain ⟨i1, i2, i3⟩ := ih
          refine ⟨by simp at i1; omega, fun x hx => ?_, fun v hv => ?_⟩
          · rcases i2 x hx with z | z
            · rcases List.mem_append.mp z with z | z
              · exact .inl z
              · right
                simp at z
                rcases z with rfl | rfl | rfl
                · exact hb.1
                · exact hb.2.1
                · exact hb.2.2.1
            · exact .inr z
          · rcases i3 v hv with z | z
            · cases z
              exact .inr hb.2.2.2
            · exact .inr z
theorem xM (ns : List Nat) : fM ns = (ns.map fun n : Nat => (n : Int)).map D.int := by
  unfold fM
  rw [List.map_map]
  rfl
theorem KH {ns : List Nat} {m : Nat} (h : ∀ a ∈ ns, a ≤ m) : FdL (m : Int) ns.length 0 (fM ns) := by
  rw [xM]
  refine (FdL.ints (fun i hi => ?_)).mono (Int.le_refl _) (by simp) (Nat.le_refl _)
  obtain ⟨x, hx, rfl⟩ := List.mem_map.mp hi
  have := h x hx
  omega
theorem JW {ls : List Str} {r : Str} (hl : ls.length ≤ 100000) : Fd ((10 ^ 61 : Nat) : Int) 60 3 (wL (endP ls r)) := by
  have g := xZ ls 0 [] none
  have sl : Fd ((10 ^ 61 : Nat) : Int) 10 2 (.str "line") := ⟨by decide +kernel, by decide +kernel⟩
  have st : Fd ((10 ^ 61 : Nat) : Int) 10 2 (.str "told") := ⟨by decide +kernel, by decide +kernel⟩
  have line : ∀ k : Nat, k ≤ 100000 → Fd ((10 ^ 61 : Nat) : Int) 60 3 (.tup [.str "line", .int (k : Int)]) := fun k hk =>
    ⟨2, rfl, 10, 10, by omega, sl, 1, 1, by omega, ⟨by omega, by omega⟩, trivial⟩
  cases eg : goP 0 [] none ls with
  | inl j =>
    rw [eg] at g
    have g2 : j < 0 + ls.length := g
    rw [vA eg]
    exact line j (by omega)
  | inr z =>
    obtain ⟨ns, q⟩ := z
    rw [eg] at g
    obtain ⟨g1, g2, g3⟩ := g
    rw [Bg eg]
    split
    · exact line _ hl
    · have hq : Fd ((10 ^ 61 : Nat) : Int) 1 1 (optN q) := by
        cases q with
        | none => trivial
        | some v =>
          rcases g3 v rfl with z | z
          · cases z
          · exact ⟨by omega, by omega⟩
      have hn : FdL ((10 ^ 61 : Nat) : Int) 24 0 (fM ns) := (KH fun a ha => by
        rcases g2 a ha with z | z
        · exact absurd z (by simp)
        · omega).mono (Int.le_refl _) (by simp at g1; omega) (Nat.le_refl _)
      exact ⟨2, rfl, 10, 40, by omega, st, 30, 1, by omega, ⟨1, rfl, 24, 3, by omega, ⟨0, rfl, hn⟩, 1, 0, by omega, hq, trivial⟩, trivial⟩
theorem wJ {ls : List Str} {r : Str} (hl : ls.length ≤ 100000) : ∀ h, qY h [wL (endP ls r)] = some (.str (shw (wL (endP ls r)))) := fun h =>
  Fd.repr ((JW hl).mono (Int.le_refl _) (by omega) (by omega)) (by decide)
theorem Tw (h : Hd) : yQ h (.int 10) (.int 61) = some (.int ((10 ^ 61 : Nat) : Int)) := by
  rw [GX (by decide) (by decide) (by decide)]
  rfl
theorem Tz (h : Hd) : yQ h (.int 10) (.int 60) = some (.int ((10 ^ 60 : Nat) : Int)) := by
  rw [GX (by decide) (by decide) (by decide)]
  rfl
theorem Gx {h : Hd} {x : Str} {ls : List Str} {r : Str} {k : Nat} {Q : D → Sd → Hd → Prop} {E : Ex} (hl : x.length ≤ 50000) (ha : As x) (e : Txt.split x (sg 10) = ls ++ [r]) (ee : endP ls r = .inl k)
    (kk : Q (.tup [.str "line", .int (k : Int)]) [] h) : Wq Q E () (aH [.str x] h) := yE hl ha e (by rw [ee]; exact kk)
theorem Hj {T : List Int} (h : ∀ x ∈ T, 0 ≤ x) : T = (T.map Int.toNat).map fun n : Nat => (n : Int) := by
  rw [List.map_map]
  conv => lhs; rw [← List.map_id T]
  exact List.map_congr_left fun x hx => by
    have := h x hx
    show x = ((x.toNat : Nat) : Int)
    omega
theorem Fw {h : Hd} {ns : List Nat} : slD h (.tup (fM ns)) none (some (-1)) = some (.tup (fM ns.dropLast)) := by
  show some (D.tup (cut (fM ns) none (some (-1)))) = _
  rcases List.eq_nil_or_concat ns with e | ⟨l, a, e⟩
  · rw [e]; rfl
  · rw [List.concat_eq_append] at e
    subst e
    have e1 : fM (l ++ [a]) = fM l ++ [.int (a : Int)] := by simp [fM]
    rw [e1, Bm]
    simp
noncomputable def Lj : M Fl := (bU (jX 4 (bL bQ (ak (aC 3) aN))) (bU (mIf (mOr (bf (aG neX (bL cQ (ak (aC 3) aN)) (aC 4))) (bf (aG neX (mCB qY (ak (bL aH (ak (aC 4) aN)) aN)) (mCB qY (ak (qp (ak (mC (.str "told")) (ak (aC 3) aN))) aN))))) (lg (mC (.bl false))) mNx) (El (Ek (ak (mC (.int 4)) aN)) (gN 5) wg)))
theorem Lh : Aq = (bU (jX 3 (bL dU (ak (aC 1) (ak (aG cP (mC (.int 1)) (bL aJ (ak (aC 1) (ak (mC (.int 8)) aN)))) aN)))) (bU (mIf (bf (aG eqX (bL aJ (ak (aC 1) (ak (mC (.int 5)) aN))) (mC (.int 0)))) (jX 3 (qp (ak (aG cP (mSl (aG ixD (aC 3) (mC (.int 0))) uX (dW (mUn Hh (mC (.int 1))))) (qp (ak (aG J8 (aG yQ (mC (.int 10)) (mC (.int 61))) (mC (.int 1))) aN))) (ak (aG cP (aG yQ (mC (.int 10)) (mC (.int 60))) (bL aJ (ak (aC 1) (ak (mC (.int 10)) aN)))) aN)))) mNx) Lj)) := rfl
theorem zL {ns : List Int} {j : Nat} (hj : j < 8) (ms : List Nat) (q : Nat) (h5 : Hd) (s2 s3 s4 s5 s6 s7 s8 : Sl) (lM : ms.length = 3 * (1 + j)) (bM : ∀ a ∈ ms, (nS a).length ≤ 61) (q0 : q ≠ 0) (bq : (nS q).length ≤ 61) (P5 : Pen h5) (es3 : s3 = .val (Gz ms q)) {QF : Fl → Sd → Hd → Prop} {E : Ex}
    (kk : ∀ s h, (∃ s2 s3 s4 s5 s6 s7 s8, s = [.val (.ro (ns.map .int)), .val (.ref 0), s2, s3, s4, s5, s6, s7, s8]) → Pen h → QF .nx s h) : Wq QF E () (Lj [.val (.ro (ns.map .int)), .val (.ref 0), s2, s3, s4, s5, s6, s7, s8] h5) := by
  have sm4 : small (4 : Int) = true := by decide
  subst es3
  obtain ⟨f1, f2, f3, f4⟩ := Bt lM (by omega) (by omega) bM q0 bq
  have ll := iy (q := q) (1 + j) 0 ms lM
  have r1 := wJ (ls := pN q 0 ms) (r := Str.ofString "") (by omega)
  have r2 : ∀ h, qY h [.tup [.str "told", Gz ms q]] = some (.str (shw (wL (endP (pN q 0 ms) (Str.ofString ""))))) := fun h => by
    have := r1 h
    rw [f4] at this ⊢
    exact this
  simp! [Lj]
  refine Ci lM (by omega) bM bq ?_
  simp!
  refine Fq lM (by omega) bM bq ?_
  simp! [cM, decide_eq_true (rfl : CK ms q = CK ms q)]
  refine yE (by omega) f2 f1 ?_
  simp! [r1, show (2 : Nat) ≤ 100000 by decide, r2, cM, sm4]
  refine Wq.loop (fun i s h => (∃ b x s2 s3 s5 s6 s7 s8, s = [.val (.ro (ns.map .int)), .val (.ref 0), s2, s3, .val (.str x), s5, s6, s7, s8] ∧ Tx' b x ∧ b + 100 ≤ 2200 * 2 ^ i) ∧ Pen h) ⟨⟨2100, CK ms q, _, _, _, _, _, _, rfl, ⟨f2, f3⟩, by decide⟩, P5⟩ ?_ ?_
  · rintro i x s h ex ⟨⟨b, x, s2, s3, s5, s6, s7, s8, rfl, tx, hb⟩, P⟩
    obtain ⟨hi, rfl⟩ := BK ex
    have hi4 : i < 4 := by simpa using hi
    have hb2 : b ≤ 20000 := by
      have : 2 ^ i ≤ 2 ^ 3 := Nat.pow_le_pow_right (by decide) (by omega)
      omega
    simp! [wg]
    refine Ei P tx hb2 fun y h6 ty P6 => ?_
    obtain ⟨ls, r, e1, _, _⟩ := pieces (x := y) (k := 10) (by decide)
    obtain ⟨ps, e2, hp, hf, hj⟩ := cX (x := y) (k := 10) (by decide)
    rw [e1] at e2
    subst e2
    have pl := (jy hp hj).1
    rw [List.length_append, List.length_singleton] at pl
    have yl := ty.2
    have r3 := wJ (ls := ls) (r := r) (by omega)
    simp!
    refine yE (by omega) ty.1 e1 ?_
    simp! [r3]
    refine Cj (by omega) ty.1 e1 ?_
    simp! [r3, cM, decide_eq_true (rfl : shw (wL (endP ls r)) = shw (wL (endP ls r)))]
    refine ⟨⟨2 * b + 100, y, _, _, _, _, _, _, rfl, ty, by rw [Nat.pow_succ]; omega⟩, P6⟩
  · rintro s h ⟨⟨b, x, s2, s3, s5, s6, s7, s8, rfl, tx, hb⟩, P⟩
    exact kk _ _ ⟨_, _, _, _, _, _, _, rfl⟩ P
def KD : List Str := [0, 1, 2, 3, 4, 5, 6, 7, 8].map fun n : Nat => Str.ofString "job " ++ nS n ++ Str.ofString ": 1 2 3 / 4\n"
def O7 : D → D
  | .int i => .str (Str.ofString "job " ++ nS i.toNat ++ Str.ofString ": 1 2 3 / 4\n")
  | _ => .non
def KC : Str := Str.join (Str.ofString "") KD
def xU : Str := Str.ofString "job 0: 1 2 " ++ jV (Str.ofString "3") 5000 ++ Str.ofString " / 1\n"
def Ce : Str := Str.join (sg 32) [Str.ofString "job", Str.ofString "0:", Str.ofString "1", Str.ofString "2", jV (Str.ofString "3") 5000, Str.ofString "/", Str.ofString "1"]
theorem Jd (c : Nat) : ∀ n : Nat, TL.tl (jV (sg c) n) = List.replicate n c
  | 0 => rfl
  | n + 1 => by
    show TL.tl (jV (sg c) n ++ sg c) = _
    rw [TL.tl_append, Jd c n, vD, ← List.replicate_succ']
theorem Ca : As xU ∧ xU.length = 5016 ∧ Txt.split xU (sg 10) = [Ce] ++ [Str.ofString ""] ∧ endP [Ce] (Str.ofString "") = .inl 0 := by
  have e3 : (Str.ofString "3") = sg 51 := by decide +kernel
  have t1 : TL.tl (Str.ofString "job 0: 1 2 ") = [106, 111, 98, 32, 48, 58, 32, 49, 32, 50, 32] := by decide +kernel
  have t2 : TL.tl (Str.ofString " / 1\n") = [32, 47, 32, 49, 10] := by decide +kernel
  have u1 : TL.tl (Str.ofString "0:") = [48, 58] := by decide +kernel
  have u2 : TL.tl (Str.ofString "1") = [49] := by decide +kernel
  have u3 : TL.tl (Str.ofString "2") = [50] := by decide +kernel
  have u4 : TL.tl (Str.ofString "/") = [47] := by decide +kernel
  have u5 : TL.tl (Str.ofString "") = [] := by decide +kernel
  have tr : TL.tl (jV (Str.ofString "3") 5000) = List.replicate 5000 51 := by rw [e3, Jd]
  have tL : TL.tl Ce = [106, 111, 98, 32, 48, 58, 32, 49, 32, 50, 32] ++ (List.replicate 5000 51 ++ [32, 47, 32, 49]) := by
    unfold Ce
    simp only [TL.tl_join, List.map_cons, List.map_nil, TL.joinL, vD, u6, u1, u2, u3, u4, tr]
    simp
  have tT : TL.tl xU = [106, 111, 98, 32, 48, 58, 32, 49, 32, 50, 32] ++ (List.replicate 5000 51 ++ [32, 47, 32, 49, 10]) := by
    unfold xU
    rw [TL.tl_append, TL.tl_append, t1, t2, tr, List.append_assoc]
  have eT : xU = Str.join (sg 10) [Ce, Str.ofString ""] := TL.ext_tl (by
    rw [TL.tl_join, tT]
    simp only [List.map_cons, List.map_nil, TL.joinL, vD, tL, u5]
    simp)
  refine ⟨fun c hc => ?_, ?_, ?_, ?_⟩
  · rw [tT] at hc
    rcases List.mem_append.mp hc with z | z
    · exact of_decide_eq_true (List.all_eq_true.mp (by decide : ([106, 111, 98, 32, 48, 58, 32, 49, 32, 50, 32] : List Nat).all (fun c => decide (c < 128)) = true) c z)
    · rcases List.mem_append.mp z with z | z
      · rw [(List.mem_replicate.mp z).2]; decide
      · exact of_decide_eq_true (List.all_eq_true.mp (by decide : ([32, 47, 32, 49, 10] : List Nat).all (fun c => decide (c < 128)) = true) c z)
  · rw [TL.len_tl, tT]
    simp
  · rw [eT]
    refine rC (by decide) (by simp) fun p hp => ?_
    simp only [List.mem_cons, List.not_mem_nil, or_false] at hp
    rcases hp with rfl | rfl
    · rw [tL]
      intro hm
      rcases List.mem_append.mp hm with z | z
      · exact absurd z (by decide)
      · rcases List.mem_append.mp z with z | z
        · exact absurd (List.mem_replicate.mp z).2 (by decide)
        · exact absurd z (by decide)
    · rw [u5]; simp
  · refine vA ?_
    rw [oW]
    have es : Txt.split Ce (sg 32) = [Str.ofString "job", Str.ofString "0:", Str.ofString "1", Str.ofString "2", jV (Str.ofString "3") 5000, Str.ofString "/", Str.ofString "1"] := by
      refine rC (by decide) (by simp) fun p hp => ?_
      simp only [List.mem_cons, List.not_mem_nil, or_false] at hp
      rcases hp with rfl | rfl | rfl | rfl | rfl | rfl | rfl
      · rw [u6]; decide
      · rw [u1]; decide
      · rw [u2]; decide
      · rw [u3]; decide
      · rw [tr]
        intro hm
        exact absurd (List.mem_replicate.mp hm).2 (by decide)
      · rw [u4]; decide
      · rw [u2]; decide
    have en : jW 61 (jV (Str.ofString "3") 5000) = none := if_neg fun z => by
      have := z.2
      have n3 : (Str.ofString "3").length = 1 := by decide +kernel
      rw [len_rep, n3] at this
      omega
    have er : sO 0 [Str.ofString "job", Str.ofString "0:", Str.ofString "1", Str.ofString "2", jV (Str.ofString "3") 5000, Str.ofString "/", Str.ofString "1"] = none := by
      show (if Str.ofString "job" = "job" ∧ Str.ofString "0:" = nS 0 ++ ":" ∧ Str.ofString "/" = "/" then wY (Str.ofString "1") (Str.ofString "2") (jV (Str.ofString "3") 5000) (Str.ofString "1") else none) = none
      have r4 : wY (Str.ofString "1") (Str.ofString "2") (jV (Str.ofString "3") 5000) (Str.ofString "1") = none := by
        unfold wY
        rw [en]
        cases jW 61 (Str.ofString "1") <;> cases jW 61 (Str.ofString "2") <;> rfl
      rw [r4]
      split <;> rfl
    rw [es, er]
theorem mD {h : Hd} {x : Str} {ls : List Str} {r : Str} {k : Nat} (hl : x.length ≤ 50000) (ha : As x) (e : Txt.split x (sg 10) = ls ++ [r]) (ee : endP ls r = .inl k) : aH [.str x] h = .ok (.tup [.str "line", .int (k : Int)]) [] h := Wq.Wh fun Q q => Gx hl ha e ee q
theorem N6 {h : Hd} : aH [.str (Str.ofString "")] h = .ok (.tup [.str "line", .int 0]) [] h := mD (ls := []) (r := Str.ofString "") (k := 0) (by decide +kernel) (m9 (by decide +kernel)) (by decide +kernel) rfl
theorem N5 {h : Hd} : aH [.str (Str.ofString "\n")] h = .ok (.tup [.str "line", .int 0]) [] h := mD (ls := [Str.ofString ""]) (r := Str.ofString "") (k := 0) (by decide +kernel) (m9 (by decide +kernel)) (by decide +kernel) (by decide +kernel)
theorem NZ {h : Hd} : aH [.str (Str.ofString "job 0: 1 2 3 / 1")] h = .ok (.tup [.str "line", .int 0]) [] h := mD (ls := []) (r := Str.ofString "job 0: 1 2 3 / 1") (k := 0) (by decide +kernel) (m9 (by decide +kernel)) (by decide +kernel) (by decide +kernel)
theorem NT {h : Hd} : aH [.str (Str.ofString "job 0: 1 2 3 / 0\n")] h = .ok (.tup [.str "line", .int 0]) [] h := mD (ls := [Str.ofString "job 0: 1 2 3 / 0"]) (r := Str.ofString "") (k := 0) (by decide +kernel) (m9 (by decide +kernel)) (by decide +kernel) (by decide +kernel)
theorem NQ {h : Hd} : aH [.str xU] h = .ok (.tup [.str "line", .int 0]) [] h := by
  obtain ⟨g1, g2, g3, g4⟩ := Ca
  exact mD (k := 0) (by omega) g1 g3 g4
def O6 : List Str := [0, 1, 2, 3, 4, 5, 6, 7, 8].map fun n : Nat => Str.ofString "job " ++ nS n ++ Str.ofString ": 1 2 3 / 4"
theorem NP {h : Hd} : aH [.str KC] h = .ok (.tup [.str "line", .int 8]) [] h := mD (ls := O6) (r := Str.ofString "") (k := 8) (by decide +kernel) (fun c hc => by
  have : (TL.tl KC).all (fun c => decide (c < 128)) = true := by decide +kernel
  exact of_decide_eq_true (List.all_eq_true.mp this c hc)) (by decide +kernel) (by decide +kernel)
theorem eq5 : Qu (.lst [.tup [.str "line", .int 0], .tup [.str "line", .int 0], .tup [.str "line", .int 0], .tup [.str "line", .int 0], .tup [.str "line", .int 0]]) (.lst (GP [.tup [.str "line", .int 0]] (Int.toNat 5))) = some true := by decide +kernel
theorem eq8 : Qu (.tup [.str "line", .int 8]) (.tup [.str "line", .int 8]) = some true := by decide +kernel
theorem law_ok (ns : List Int) (hl : ns.length ≤ 63) : ∃ hd, xQ [.ro (ns.map .int)] [] = .ok (.bl true) [] hd := by
  refine PN ?_
  have smF : small (5 : Int) = true := by decide
  have sm4 : small (4 : Int) = true := by decide
  simp! [xQ, Ml, zX, zW]
  refine Oi hl fun h1 P1 => ?_
  simp! [smF]
  refine Wq.loop (fun i s h => (∃ s2 s3 s4 s5 s6 s7 s8, s = [.val (.ro (ns.map .int)), .val (.ref 0), s2, s3, s4, s5, s6, s7, s8]) ∧ Pen h) ⟨⟨_, _, _, _, _, _, _, rfl⟩, P1⟩ ?_ ?_
  · rintro i x s h ex ⟨⟨s2, s3, s4, s5, s6, s7, s8, rfl⟩, P⟩
    obtain ⟨hi, rfl⟩ := BK ex
    simp! [Lh]
    refine nJ P (by decide) (by decide) fun j h2 j0 j1 P2 => ?_
    obtain ⟨j, rfl⟩ := xK j0
    obtain ⟨T, p, h3, et, lT, nT, bT, p1, p10, P3⟩ := Gy P2 (n := 1 + j) (by omega)
    have et2 : dU [.ref 0, .int (1 + (j : Int))] h2 = .ok (.tup [.tup (T.map .int), .int p]) [] h3 := by
      have e1 : (1 + (j : Int)) = ((1 + j : Nat) : Int) := by omega
      rw [e1]
      exact et
    simp!
    refine Wq.of et2 ?_
    simp!
    refine nJ P3 (by decide) (by decide) fun o h4 o0 o1 P4 => ?_
    obtain ⟨q, rfl⟩ : ∃ q : Nat, p = (q : Int) := ⟨p.toNat, by omega⟩
    have eT : T.map D.int = fM (T.map Int.toNat) := by
      rw [xM, ← Hj nT]
    rw [eT]
    have lN : (T.map Int.toNat).length = 3 * (1 + j) := by rw [List.length_map]; exact lT
    have bN : ∀ a ∈ T.map Int.toNat, a ≤ 10 ^ 11 := fun a ha => by
      obtain ⟨x, hx, rfl⟩ := List.mem_map.mp ha
      have := bT x hx
      omega
    generalize T.map Int.toNat = ms at *
    have n61 : ∀ a : Nat, a ≤ 10 ^ 11 → (nS a).length ≤ 61 := fun a ha => by
      have := oH (n := a) (k := 12) (by decide) (by omega)
      omega
    by_cases ho : o = 0
    · have b9 : ∀ k : Nat, k < 10 → (nS (10 ^ 60 + k)).length ≤ 61 := fun k hk => oH (by decide) (by omega)
      have i0 : atI [D.tup (fM ms), .int (q : Int)] 0 = some (.tup (fM ms)) := Vb
      have sb : (((10 ^ 61 : Nat) : Int) - 1) = ((10 ^ 61 - 1 : Nat) : Int) := by decide
      have ad : ∀ H, cP H (.tup (fM ms.dropLast)) (.tup [.int ((10 ^ 61 - 1 : Nat) : Int)]) = some (.tup (fM (ms.dropLast ++ [10 ^ 61 - 1]))) := fun H => by
        rw [Ms (by unfold fM; rw [List.length_map, List.length_dropLast]; omega) (by simp)]
        simp [fM]
      simp! [cV, decide_eq_true ho, i0, Fw, Tw]
      rw [sb]
      simp! [ad, Tz]
      refine nJ P4 (by decide) (by decide) fun k h5 k0 k1 P5 => ?_
      obtain ⟨k, rfl⟩ := xK k0
      have e2 : (((10 ^ 60 : Nat) : Int) + (k : Int)) = ((10 ^ 60 + k : Nat) : Int) := by omega
      simp!
      rw [e2]
      refine zL (j := j) (by omega) (ms.dropLast ++ [10 ^ 61 - 1]) (10 ^ 60 + k) _ _ _ _ _ _ _ _ (by simp; omega) (fun a ha => ?_) (by omega) (b9 k (by omega)) P5 rfl fun s h es P => ⟨es, P⟩
      rcases List.mem_append.mp ha with z | z
      · exact n61 a (bN a ((List.dropLast_sublist ms).subset z))
      · rw [List.mem_singleton.mp z]
        exact oH (by decide) (by omega)
    · simp! [cV, decide_eq_false ho]
      refine zL (j := j) (by omega) ms q _ _ _ _ _ _ _ _ (by omega) (fun a ha => n61 a (bN a ha)) (by omega) (n61 q (by omega)) P4 rfl fun s h es P => ⟨es, P⟩
  · rintro s h ⟨⟨s2, s3, s4, s5, s6, s7, s8, rfl⟩, P⟩
    have sm9 : small (9 : Int) = true := by decide
    simp! [zV, sm9, ↓nW, aZ]
    have rl : (rg 0 (Int.toNat 9)).length < 100000 := by rw [qj]; decide
    have rg9 : ∀ (i : Nat) x, (rg 0 (Int.toNat 9))[i]? = some x → i < 9 ∧ x = .int (i : Int) := fun i x ex => BK ex
    have em : ((rg 0 (Int.toNat 9)).filter fun _ => true).map O7 = KD.map D.str := rfl
    generalize rg 0 (Int.toNat 9) = xs at *
    refine Wq.cfm (fun _ => true) O7 rl ?_ ?_
    · intro i x ex
      obtain ⟨hn, rfl⟩ := rg9 i x ex
      have sn : ∀ H, uN H [.int (i : Int)] = some (.str (nS i)) := fun H => j5 (Nat.lt_trans hn (by decide))
      have nl := oH (n := i) (k := 1) (by decide) (by have : i < 9 := hn; omega)
      have l1 : (Str.ofString "job ").length = 4 := by decide +kernel
      have l2 : (Str.ofString ": 1 2 3 / 4\n").length = 12 := by decide +kernel
      have k1 : (Str.ofString "job " ++ nS i).length ≤ 5 := by rw [len_app, l1]; omega
      have a1 : ∀ H, cP H (.str "job ") (.str (nS i)) = some (.str (Str.ofString "job " ++ nS i)) := fun H => add_str (by omega)
      have a2 : ∀ H, cP H (.str (Str.ofString "job " ++ nS i)) (.str ": 1 2 3 / 4\n") = some (.str (Str.ofString "job " ++ nS i ++ Str.ofString ": 1 2 3 / 4\n")) := fun H => add_str (by omega)
      simp! [Bp, sn, a1, a2]
      rfl
    · rw [em]
      have jn : ∀ H, oV (Str.ofString "") H (.lst (KD.map .str)) = some (.str KC) := fun H => by
        rw [rM (by decide +kernel), TL.join_eq]
        rfl
      simp! [↓nW, aZ, jn, zU]
      rw [N6, JH]
      simp!
      rw [N5, JH]
      simp!
      rw [NZ, JH]
      simp!
      rw [NT, JH]
      simp! [show (4 : Nat) ≤ 100000 by decide, zR]
      have n3 : (Str.ofString "3").length = 1 := by decide +kernel
      have m3 : ∀ H, Hl H (.str "3") (.int 5000) = some (.str (jV (Str.ofString "3") 5000)) := fun H => T8 (n := 5000) (by decide) (by decide) _ n3
      have r3 : (jV (Str.ofString "3") 5000).length = 5000 := by rw [len_rep, n3]
      have l1 : (Str.ofString "job 0: 1 2 ").length = 11 := by decide +kernel
      have l2 : (Str.ofString " / 1\n").length = 5 := by decide +kernel
      have k1 : (Str.ofString "job 0: 1 2 " ++ jV (Str.ofString "3") 5000).length = 5011 := by rw [len_app, l1, r3]
      have a1 : ∀ H, cP H (.str "job 0: 1 2 ") (.str (jV (Str.ofString "3") 5000)) = some (.str (Str.ofString "job 0: 1 2 " ++ jV (Str.ofString "3") 5000)) := fun H => add_str (by omega)
      have a2 : ∀ H, cP H (.str (Str.ofString "job 0: 1 2 " ++ jV (Str.ofString "3") 5000)) (.str " / 1\n") = some (.str xU) := fun H => by
        rw [add_str (by omega)]
        rfl
      simp! [m3, a1, a2]
      rw [NQ, JH]
      have e5 : ∀ H, eqX H (.lst [.tup [.str "line", .int 0], .tup [.str "line", .int 0], .tup [.str "line", .int 0], .tup [.str "line", .int 0], .tup [.str "line", .int 0]]) (.lst (GP [.tup [.str "line", .int 0]] (Int.toNat 5))) = some (.bl true) := fun _ => congrArg (Option.map D.bl) eq5
      have e8 : ∀ H, eqX H (.tup [.str "line", .int 8]) (.tup [.str "line", .int 8]) = some (.bl true) := fun _ => congrArg (Option.map D.bl) eq8
      simp! [zQ, smF, e5]
      rw [NP, JH]
      simp! [e8]
      decide
end Lw
end
theorem PySem.Challenge.cw_twobenches_k65_texts_of_times_holds : PySem.Challenge.rw_twobenches_k65_texts_of_times.Holds :=
  Lw.closes Lw.law_ok
