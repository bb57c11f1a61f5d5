import PyProof.Rows.All
import Wide.All
import OpenK.AllK
import Wide.FinOn
import HandS.ForMost
import HandS.ForExc
import KE.DataEq
import KE.DataCmp
import KE.DataIsa
import KE.DataMinMax
import KE.SortData
import PyProof.ReprRoads
import HandS.Text
import HandS.ExcIs
import HandS.CallSlots
import HandS.TupAny
import HandS.TupLe
import HandS.TupMul
import HandS.Zip
import HandS.Rev
import HandS.RevRange
import HandS.IsInst
import HandS.Wide
import HandS.Conv
import HandS.Walk
import HandS.Deep
import HandS.More
import KE.KTupSum
import KE.GoesMore
import HandS.Iter
import HandS.Style
import HandS.TryOnly
import KE.KDictDisplayH
import HandS.Dict
import PyProof.TupleKey
import PyProof.DictRoadsH
import KE.KDictSum
import KE.KDictPairs
import HandS.SortKw
import PyProof.Rows.SortWalk
import HandS.Exc
import HandS.ExcOwn
import HandS.ExcInit
import HandS.Words
import KE.KExcIs
import PyProof.ExcBaseAll.ValueError
import PyProof.ReprLen
import PyProof.Rows.StrDigitsNeg
import PyProof.Rows.StrJoinMade
import PySem.Challenge.RW_commonzeros_k17_refusals_made_by_hand
set_option Elab.async false
set_option linter.all false
set_option maxRecDepth 100000
set_option autoImplicit false
namespace Mn
open PySem PySem.Spec L2

/-! ## values: plain data; slots -/
abbrev D := PyData
inductive Sl where
  | no
  | val (d : D)
  | own (d : D)
  | lck (d : D)
abbrev Mu := List Sl
abbrev Ads := Addr → Prop
def setN (i : Nat) (d : D) (μ : Mu) : Mu := μ.set i (.val d)

/-- a tuple of the written part -/
def WrT (K : PySem.W.Frag) (a : Addr) (xs : List V) : Prop :=
  ∃ (its : Array Value) (n : Nat), K.lookup a = some { cls := .type "tuple", data := .seq its n } ∧ its.size ≤ sizeLine ∧ Vals xs its.toList
theorem WrT.sq {K : PySem.W.Frag} {H : Hp} {a : Addr} {xs : List V} (h : WrT K a xs) : SqT K H a xs := by
  obtain ⟨its, n, h1, h4, h5⟩ := h
  exact .inr ⟨_, its, n, h1, rfl, rfl, h4, h5⟩
/-- a tuple made here: its object has no dict -/
def Tp (H : Hp) (a : Addr) (xs : List V) : Prop := ∃ (its : Array Value) (n : Nat), H a = some (.frz { cls := .type "tuple", data := .seq its n } (.tup xs))
theorem Tp.rd {H : Hp} {a : Addr} {xs : List V} (h : Tp H a xs) : Rd H a (.tup xs) := by
  obtain ⟨_, _, h⟩ := h
  exact .inr ⟨_, h⟩

/-- a list of the written part -/
def WrL (K : PySem.W.Frag) (a : Addr) (xs : List V) : Prop :=
  ∃ (its : Array Value) (n : Nat), K.lookup a = some { cls := .type "list", data := .seq its n } ∧ its.size ≤ sizeLine ∧ Vals xs its.toList
theorem WrL.sq {K : PySem.W.Frag} {H : Hp} {a : Addr} {xs : List V} (h : WrL K a xs) : SqL K H a xs := by
  obtain ⟨its, n, h1, h2, h3⟩ := h
  exact .inr ⟨_, its, n, h1, rfl, rfl, rfl, h2, h3⟩

/-! dicts whose keys are tuples of ints -/
def hI (ks : List Int) : Int := reduceHash (Builtin.Tuple.tupleHashOf (ks.map hashInt))
abbrev Ent3 := List Int × Addr × Value
def entI (x : Ent3) : DictEntry := ⟨hI x.1, .ref x.2.1, x.2.2⟩
def DictO (a : Addr) (o : Obj) : HO := .ext fun h => h.get? a = some o
/-- the dict at a, entry by entry -/
def IsDct (H : Hp) (a : Addr) (xs : List Ent3) : Prop :=
  ∃ o es ep, H a = some (DictO a o) ∧ (a == sysModules) = false ∧ o.ExactDict ∧ o.data = .dict es ep ∧ es.toList = xs.map entI ∧ (xs.map (·.1)).Nodup ∧ xs.length ≤ sizeLine

/-! exceptions as values -/
/-- at a: an exception of the class at C, its dict -/
def EXO (a C : Addr) (d : Option Addr) : HO := .ext fun h => ∃ (oe : Obj) (vs : Array Value), h.get? a = some oe ∧ oe.cls = .ref C ∧ oe.dict = d ∧ oe.data = .fields vs
/-- an exception as data: its class by name, its fields -/
def excD (nm : Str) (fl : List Str) (fs : List D) : D := .dict [(.bool true, .tuple [.str nm, .list (fl.map .str), .list fs])]
/-- its class -/
structure ExcN (K : PySem.W.Frag) (C : Addr) (nm : Str) (fl : List Str) : Prop where
  ns : PySem.W.nsIn K mainGlobals nm = some (some (.ref C))
  ex : ExcC K C
  no : ∀ f ∈ fl, PySem.W.findIn K (.ref C) f = some none
/-- its fields, where there are any -/
def FldH (H : Hp) (L : Ads) (d : Option Addr) (fl : List Str) (vs : List V) : Prop := (fl = [] ∧ vs = [] ∧ d = none) ∨ ∃ da, d = some da ∧ ¬ L da ∧ H da = some (.xd (fl.zip vs))

mutual
/-- a value bears plain data; none of its lists, tuples, dicts that the heap tracks stands in L -/
inductive Dv (K : PySem.W.Frag) (H : Hp) (L : Ads) : D → V → Prop
  | non : Dv K H L .none .non
  | bl (b : Bool) : Dv K H L (.bool b) (.bl b)
  | int (i : Int) : Dv K H L (.int i) (.int i)
  | str (x : Str) : Dv K H L (.str x) (.str x)
  | tup {a : Addr} {vs : List V} {ds : List D} : ¬ L a → Tp H a vs → Dvs K H L ds vs → Dv K H L (.tuple ds) (.ref a)
  | tupK {a : Addr} {vs : List V} {ds : List D} : WrT K a vs → Dvs K H L ds vs → Dv K H L (.tuple ds) (.ref a)
  | lst {a : Addr} {vs : List V} {ds : List D} : ¬ L a → Rd H a (.lst vs) → Dvs K H L ds vs → Dv K H L (.list ds) (.ref a)
  | lstK {a : Addr} {vs : List V} {ds : List D} : WrL K a vs → Dvs K H L ds vs → Dv K H L (.list ds) (.ref a)
  | dct {a : Addr} {es : List (D × D)} {xs : List Ent3} : ¬ L a → IsDct H a xs → Dvk K H L es xs → Dv K H L (.dict es) (.ref a)
  | exc {a C : Addr} {d : Option Addr} {nm : Str} {fl : List Str} {ds : List D} {vs : List V} : ¬ L a → H a = some (EXO a C d) → ExcN K C nm fl → FldH H L d fl vs → Dvs K H L ds vs → Dv K H L (excD nm fl ds) (.ref a)
inductive Dvs (K : PySem.W.Frag) (H : Hp) (L : Ads) : List D → List V → Prop
  | nil : Dvs K H L [] []
  | cons {d : D} {v : V} {ds : List D} {vs : List V} : Dv K H L d v → Dvs K H L ds vs → Dvs K H L (d :: ds) (v :: vs)
inductive Dvk (K : PySem.W.Frag) (H : Hp) (L : Ads) : List (D × D) → List Ent3 → Prop
  | nil : Dvk K H L [] []
  | cons {k : List Int} {b : Addr} {u : Value} {d : D} {v : V} {es : List (D × D)} {xs : List Ent3} : Dv K H L (.tuple (k.map .int)) (.ref b) → RelV v u → Dv K H L d v → Dvk K H L es xs → Dvk K H L ((.tuple (k.map .int), d) :: es) ((k, b, u) :: xs)
end

/-- what stands outside M stays -/
def Kp (M : Ads) (H H' : Hp) : Prop := ∀ a o, H a = some o → ¬ M a → H' a = some o
theorem Kp.refl {M : Ads} {H : Hp} : Kp M H H := fun _ _ h _ => h
theorem Kp.trans {M : Ads} {H H1 H2 : Hp} (a : Kp M H H1) (b : Kp M H1 H2) : Kp M H H2 := fun c o h n => b c o (a c o h n) n
theorem Kp.mono {M M' : Ads} {H H' : Hp} (k : Kp M H H') (h : ∀ a, M a → M' a) : Kp M' H H' := fun a o e n => k a o e fun m => n (h a m)
theorem Kp.laid {M : Ads} {H : Hp} {a : Addr} {o : HO} (n : H a = none) : Kp M H (upd H a o) := fun b u e _ => by rw [upd_ne (ne_of_none e n)]; exact e

section
variable {K : PySem.W.Frag} {H H' : Hp} {L L' : Ads}
theorem Rd.keep {a : Addr} {u : HO} (r : Rd H a u) (k : Kp L H H') (n : ¬ L a) : Rd H' a u := by
  rcases r with r | ⟨o, r⟩
  · exact .inl (k _ _ r n)
  · exact .inr ⟨o, k _ _ r n⟩
theorem IsDct.keep {a : Addr} {xs : List Ent3} (k : Kp L H H') (r : IsDct H a xs) (n : ¬ L a) : IsDct H' a xs := by
  obtain ⟨o, es, ep, h, q⟩ := r
  exact ⟨o, es, ep, k _ _ h n, q⟩
theorem IsDct.ne {a b : Addr} {xs : List Ent3} (r : IsDct H a xs) (n : H b = none) : a ≠ b := by
  obtain ⟨o, es, ep, h, q⟩ := r
  exact ne_of_none h n
theorem FldH.keep {d : Option Addr} {fl : List Str} {vs : List V} (k : Kp L H H') (r : FldH H L d fl vs) : FldH H' L d fl vs := r.imp_right fun ⟨da, e, n, h⟩ => ⟨da, e, n, k _ _ h n⟩
theorem FldH.grow {d : Option Addr} {fl : List Str} {vs : List V} (h : ∀ a, L' a → L a ∨ H a = none) (r : FldH H L d fl vs) : FldH H L' d fl vs := r.imp_right fun ⟨da, e, n, q⟩ => ⟨da, e, (fun z => (h _ z).elim n fun y => by rw [q] at y; cases y), q⟩
theorem Tp.keep {a : Addr} {u : List V} (r : Tp H a u) (k : Kp L H H') (n : ¬ L a) : Tp H' a u := by
  obtain ⟨i, m, h⟩ := r
  exact ⟨i, m, k _ _ h n⟩
mutual
theorem Dv.keep (k : Kp L H H') : ∀ {d : D} {v : V}, Dv K H L d v → Dv K H' L d v
  | _, _, .non => .non
  | _, _, .bl b => .bl b
  | _, _, .int i => .int i
  | _, _, .str x => .str x
  | _, _, .tup n r s => .tup n (Tp.keep r k n) (Dvs.keep k s)
  | _, _, .tupK w s => .tupK w (Dvs.keep k s)
  | _, _, .lstK w s => .lstK w (Dvs.keep k s)
  | _, _, .lst n r s => .lst n (Rd.keep r k n) (Dvs.keep k s)
  | _, _, .dct n r s => .dct n (IsDct.keep k r n) (Dvk.keep k s)
  | _, _, .exc n r w f s => .exc n (k _ _ r n) w (f.keep k) (Dvs.keep k s)
theorem Dvs.keep (k : Kp L H H') : ∀ {ds : List D} {vs : List V}, Dvs K H L ds vs → Dvs K H' L ds vs
  | _, _, .nil => .nil
  | _, _, .cons h t => .cons (Dv.keep k h) (Dvs.keep k t)
theorem Dvk.keep (k : Kp L H H') : ∀ {es : List (D × D)} {kvs : List Ent3}, Dvk K H L es kvs → Dvk K H' L es kvs
  | _, _, .nil => .nil
  | _, _, .cons g r h t => .cons (Dv.keep k g) r (Dv.keep k h) (Dvk.keep k t)
end
mutual
/-- fewer addresses to be kept off -/
theorem Dv.anti (h : ∀ a, L' a → L a) : ∀ {d : D} {v : V}, Dv K H L d v → Dv K H L' d v
  | _, _, .non => .non
  | _, _, .bl b => .bl b
  | _, _, .int i => .int i
  | _, _, .str x => .str x
  | _, _, .tup n r s => .tup (fun z => n (h _ z)) r (Dvs.anti h s)
  | _, _, .tupK w s => .tupK w (Dvs.anti h s)
  | _, _, .lstK w s => .lstK w (Dvs.anti h s)
  | _, _, .lst n r s => .lst (fun z => n (h _ z)) r (Dvs.anti h s)
  | _, _, .dct n r s => .dct (fun z => n (h _ z)) r (Dvk.anti h s)
  | _, _, .exc n r w f s => .exc (fun z => n (h _ z)) r w (f.grow fun a z => .inl (h a z)) (Dvs.anti h s)
theorem Dvs.anti (h : ∀ a, L' a → L a) : ∀ {ds : List D} {vs : List V}, Dvs K H L ds vs → Dvs K H L' ds vs
  | _, _, .nil => .nil
  | _, _, .cons x t => .cons (Dv.anti h x) (Dvs.anti h t)
theorem Dvk.anti (h : ∀ a, L' a → L a) : ∀ {es : List (D × D)} {kvs : List Ent3}, Dvk K H L es kvs → Dvk K H L' es kvs
  | _, _, .nil => .nil
  | _, _, .cons g r x t => .cons (Dv.anti h g) r (Dv.anti h x) (Dvk.anti h t)
end
/-- one address more, at which nothing stood -/
def plusA (L : Ads) (a : Addr) : Ads := fun b => L b ∨ b = a
def lessA (L : Ads) (a : Addr) : Ads := fun b => L b ∧ b ≠ a
theorem Rd.ne {a b : Addr} {u : HO} (r : Rd H a u) (n : H b = none) : a ≠ b := by
  rcases r with r | ⟨o, r⟩
  · exact ne_of_none r n
  · exact ne_of_none r n
mutual
theorem Dv.plus {b : Addr} (n0 : H b = none) : ∀ {d : D} {v : V}, Dv K H L d v → Dv K H (plusA L b) d v
  | _, _, .non => .non
  | _, _, .bl b => .bl b
  | _, _, .int i => .int i
  | _, _, .str x => .str x
  | _, _, .tup n r s => .tup (fun z => z.elim n (Rd.ne r.rd n0)) r (Dvs.plus n0 s)
  | _, _, .tupK w s => .tupK w (Dvs.plus n0 s)
  | _, _, .lstK w s => .lstK w (Dvs.plus n0 s)
  | _, _, .lst n r s => .lst (fun z => z.elim n (Rd.ne r n0)) r (Dvs.plus n0 s)
  | _, _, .dct n r s => .dct (fun z => z.elim n (IsDct.ne r n0)) r (Dvk.plus n0 s)
  | _, _, .exc n r w f s => .exc (fun z => z.elim n (ne_of_none r n0)) r w (f.grow fun a z => z.imp_right fun q => by rw [q]; exact n0) (Dvs.plus n0 s)
theorem Dvs.plus {b : Addr} (n0 : H b = none) : ∀ {ds : List D} {vs : List V}, Dvs K H L ds vs → Dvs K H (plusA L b) ds vs
  | _, _, .nil => .nil
  | _, _, .cons x t => .cons (Dv.plus n0 x) (Dvs.plus n0 t)
theorem Dvk.plus {b : Addr} (n0 : H b = none) : ∀ {es : List (D × D)} {kvs : List Ent3}, Dvk K H L es kvs → Dvk K H (plusA L b) es kvs
  | _, _, .nil => .nil
  | _, _, .cons g r x t => .cons (Dv.plus n0 g) r (Dv.plus n0 x) (Dvk.plus n0 t)
end
mutual
/-- other addresses to be kept off, if they are among the elder ones or nothing stood there -/
theorem Dv.grow (h : ∀ a, L' a → L a ∨ H a = none) : ∀ {d : D} {v : V}, Dv K H L d v → Dv K H L' d v
  | _, _, .non => .non
  | _, _, .bl b => .bl b
  | _, _, .int i => .int i
  | _, _, .str x => .str x
  | _, _, .tup n r s => .tup (fun z => (h _ z).elim n fun q => Rd.ne r.rd q rfl) r (Dvs.grow h s)
  | _, _, .tupK w s => .tupK w (Dvs.grow h s)
  | _, _, .lstK w s => .lstK w (Dvs.grow h s)
  | _, _, .lst n r s => .lst (fun z => (h _ z).elim n fun q => Rd.ne r q rfl) r (Dvs.grow h s)
  | _, _, .dct n r s => .dct (fun z => (h _ z).elim n fun q => IsDct.ne r q rfl) r (Dvk.grow h s)
  | _, _, .exc n r w f s => .exc (fun z => (h _ z).elim n fun q => ne_of_none r q rfl) r w (f.grow h) (Dvs.grow h s)
theorem Dvs.grow (h : ∀ a, L' a → L a ∨ H a = none) : ∀ {ds : List D} {vs : List V}, Dvs K H L ds vs → Dvs K H L' ds vs
  | _, _, .nil => .nil
  | _, _, .cons x t => .cons (Dv.grow h x) (Dvs.grow h t)
theorem Dvk.grow (h : ∀ a, L' a → L a ∨ H a = none) : ∀ {es : List (D × D)} {kvs : List Ent3}, Dvk K H L es kvs → Dvk K H L' es kvs
  | _, _, .nil => .nil
  | _, _, .cons g r x t => .cons (Dv.grow h g) r (Dv.grow h x) (Dvk.grow h t)
end
theorem Dvs.length : ∀ {ds : List D} {vs : List V}, Dvs K H L ds vs → ds.length = vs.length
  | _, _, .nil => rfl
  | _, _, .cons _ t => congrArg (· + 1) (Dvs.length t)
theorem Dvs.get : ∀ {ds : List D} {vs : List V} {i : Nat} {v : V}, Dvs K H L ds vs → vs[i]? = some v → ∃ d, ds[i]? = some d ∧ Dv K H L d v
  | _, _, _, _, .nil, e => by simp at e
  | _, _, 0, _, .cons x _, e => by simp at e; subst e; exact ⟨_, rfl, x⟩
  | _, _, i + 1, v, .cons _ t, e => by
    obtain ⟨d, h1, h2⟩ := Dvs.get (i := i) (v := v) t (by simpa using e)
    exact ⟨d, by simpa using h1, h2⟩
theorem Dvs.getD : ∀ {ds : List D} {vs : List V} {i : Nat} {d : D}, Dvs K H L ds vs → ds[i]? = some d → ∃ v, vs[i]? = some v ∧ Dv K H L d v
  | _, _, _, _, .nil, e => by simp at e
  | _, _, 0, _, .cons x _, e => by simp at e; subst e; exact ⟨_, rfl, x⟩
  | _, _, i + 1, d, .cons _ t, e => by
    obtain ⟨v, h1, h2⟩ := Dvs.getD (i := i) (d := d) t (by simpa using e)
    exact ⟨v, by simpa using h1, h2⟩
theorem Dvs.append : ∀ {ds es : List D} {vs ws : List V}, Dvs K H L ds vs → Dvs K H L es ws → Dvs K H L (ds ++ es) (vs ++ ws)
  | _, _, _, _, .nil, s => s
  | _, _, _, _, .cons x t, s => .cons x (Dvs.append t s)
theorem Dvs.take : ∀ {ds : List D} {vs : List V} (n : Nat), Dvs K H L ds vs → Dvs K H L (ds.take n) (vs.take n)
  | _, _, 0, _ => .nil
  | _, _, _ + 1, .nil => .nil
  | _, _, n + 1, .cons x t => .cons x (Dvs.take n t)
theorem Dvs.drop : ∀ {ds : List D} {vs : List V} (n : Nat), Dvs K H L ds vs → Dvs K H L (ds.drop n) (vs.drop n)
  | _, _, 0, r => r
  | _, _, _ + 1, .nil => .nil
  | _, _, n + 1, .cons _ t => Dvs.drop n t
theorem Dvs.set {d : D} {v : V} (x : Dv K H L d v) : ∀ {ds : List D} {vs : List V} (n : Nat), Dvs K H L ds vs → Dvs K H L (ds.set n d) (vs.set n v)
  | _, _, _, .nil => .nil
  | _, _, 0, .cons _ t => .cons x t
  | _, _, n + 1, .cons y t => .cons y (Dvs.set x n t)
theorem Dvs.rev {ds : List D} {vs : List V} (h : Dvs K H L ds vs) : Dvs K H L ds.reverse vs.reverse := by
  induction ds generalizing vs with
  | nil => cases h; exact .nil
  | cons d ds ih => cases h with | cons x t => rw [List.reverse_cons, List.reverse_cons]; exact (ih t).append (.cons x .nil)
theorem Dvs.ints {vs : List V} : ∀ {ns : List Int}, Dvs K H L (ns.map PyData.int) vs → vs = ns.map V.int
  | [], .nil => rfl
  | n :: ns, .cons x t => by cases x; rw [Dvs.ints t]; rfl
theorem Dvs.ofInts : ∀ (ns : List Int), Dvs K H L (ns.map PyData.int) (ns.map V.int)
  | [] => .nil
  | n :: ns => .cons (.int n) (Dvs.ofInts ns)
theorem Dvs.bools {vs : List V} : ∀ {ns : List Bool}, Dvs K H L (ns.map PyData.bool) vs → vs = ns.map V.bl
  | [], .nil => rfl
  | n :: ns, .cons x t => by cases x; rw [Dvs.bools t]; rfl
theorem Dvs.replicate {d : D} {v : V} (x : Dv K H L d v) : ∀ n, Dvs K H L (List.replicate n d) (List.replicate n v)
  | 0 => .nil
  | n + 1 => .cons x (Dvs.replicate x n)
theorem Dvs.flat {ds : List D} {vs : List V} (x : Dvs K H L ds vs) : ∀ n, Dvs K H L (List.replicate n ds).flatten (List.replicate n vs).flatten
  | 0 => .nil
  | n + 1 => x.append (Dvs.flat x n)
mutual
theorem Dv.dp : ∀ {d : D} {v : V}, Dv K H L d v → PyData.plain d = true → Dp K H v d
  | _, _, .non, _ => .non
  | _, _, .bl b, _ => .bl b
  | _, _, .int i, _ => .int i
  | _, _, .str x, _ => .str x
  | _, _, .tup n r s, h => .tup (.inl r.rd) (Dvs.dp s h)
  | _, _, .tupK w s, h => .tup w.sq (Dvs.dp s h)
  | _, _, .lstK w s, h => .lst w.sq (Dvs.dp s h)
  | _, _, .lst n r s, h => .lst (.inl r) (Dvs.dp s h)
  | _, _, .dct n r s, h => by cases h
  | _, _, .exc n r w f s, h => by cases h
theorem Dvs.dp : ∀ {ds : List D} {vs : List V}, Dvs K H L ds vs → PyData.plainAll ds = true → DpAll K H vs ds
  | _, _, .nil, _ => .nil
  | _, _, .cons x t, h => by
    have h' : (PyData.plain _ && PyData.plainAll _) = true := h
    rw [Bool.and_eq_true] at h'
    exact .cons (Dv.dp x h'.1) (Dvs.dp t h'.2)
end
theorem Dv.tuple {ds : List D} {v : V} (h : Dv K H L (.tuple ds) v) : ∃ a vs, v = .ref a ∧ SqT K H a vs ∧ Dvs K H L ds vs := by
  cases h with
  | tup n r s => exact ⟨_, _, rfl, .inl r.rd, s⟩
  | tupK w s => exact ⟨_, _, rfl, w.sq, s⟩
theorem Dv.list {ds : List D} {v : V} (h : Dv K H L (.list ds) v) : ∃ a vs, v = .ref a ∧ SqL K H a vs ∧ Dvs K H L ds vs := by
  cases h with
  | lst n r s => exact ⟨_, _, rfl, .inl r, s⟩
  | lstK w s => exact ⟨_, _, rfl, w.sq, s⟩
theorem Dv.int_inv {i : Int} {v : V} (h : Dv K H L (.int i) v) : v = .int i := by cases h; rfl
theorem Dv.bool_inv {i : Bool} {v : V} (h : Dv K H L (.bool i) v) : v = .bl i := by cases h; rfl
theorem Dv.str_inv {i : Str} {v : V} (h : Dv K H L (.str i) v) : v = .str i := by cases h; rfl
theorem Dv.none_inv {v : V} (h : Dv K H L .none v) : v = .non := by cases h; rfl
end

/-! ## the frame: what the slots hold -/
/-- what stood at a def's entry: the heap, the lent addresses (by slot), what is to be kept off -/
structure Ent where
  H0 : Hp
  L0 : Ads
  io : List (Nat × Addr)
  lks : List (Nat × Addr)
def Ent.M0 (c : Ent) : Ads := fun a => ∃ p ∈ c.io, p.2 = a
def Ent.lk (c : Ent) : Ads := fun a => ∃ p ∈ c.lks, p.2 = a

def OwnAt (K : PySem.W.Frag) (H : Hp) (L : Ads) (d : D) (a : Addr) : Prop :=
  (∃ ds vs, d = .list ds ∧ H a = some (.lst vs) ∧ Dvs K H L ds vs) ∨ (∃ es xs, d = .dict es ∧ IsDct H a xs ∧ Dvk K H L es xs)
def Sl.held : Sl → Bool
  | .own _ => true
  | .lck _ => true
  | _ => false
structure Sr (K : PySem.W.Frag) (c : Ent) (L M : Ads) (μ : Mu) (σ : St) (H : Hp) : Prop where
  len : μ.length = σ.length
  val : ∀ (i : Nat) (d : D), μ[i]? = some (.val d) → ∃ v, σ[i]? = some (some v) ∧ Dv K H L d v
  own : ∀ (i : Nat) (d : D), μ[i]? = some (.own d) → ∃ a, σ[i]? = some (some (.ref a)) ∧ OwnAt K H L d a ∧ M a
  lck : ∀ (i : Nat) (d : D), μ[i]? = some (.lck d) → ∃ a, σ[i]? = some (some (.ref a)) ∧ OwnAt K H L d a ∧ (i, a) ∈ c.lks
  inj : ∀ (i j : Nat) (s t : Sl) (a : Addr), μ[i]? = some s → s.held = true → μ[j]? = some t → t.held = true → σ[i]? = some (some (.ref a)) → σ[j]? = some (some (.ref a)) → i = j
  ml : ∀ a, M a → L a
  lkl : ∀ a, c.lk a → L a ∧ ¬ M a
  l0 : ∀ a, c.L0 a → L a
  m0 : ∀ a, M a → c.M0 a ∨ c.H0 a = none
  l00 : ∀ a, c.L0 a → c.H0 a ≠ none
  trk : ∀ a, L a → H a ≠ none
  keep : ∀ a o, c.H0 a = some o → ¬ c.M0 a → H a = some o
  io : ∀ p ∈ c.io, σ[p.1]? = some (some (.ref p.2)) ∧ ∃ s, μ[p.1]? = some s ∧ s.held = true
  lks : ∀ p ∈ c.lks, σ[p.1]? = some (some (.ref p.2)) ∧ ∃ d, μ[p.1]? = some (.lck d)

section
variable {K : PySem.W.Frag} {c : Ent} {L L' M M' : Ads} {μ μ' : Mu} {σ σ' : St} {H H' : Hp}
theorem OwnAt.there {d : D} {a : Addr} (h : OwnAt K H L d a) : ∃ o, H a = some o := by
  rcases h with ⟨_, _, _, e, _⟩ | ⟨_, _, _, ⟨_, _, _, e, _⟩, _⟩
  · exact ⟨_, e⟩
  · exact ⟨_, e⟩
theorem IsDct.to {a : Addr} {xs : List Ent3} (r : IsDct H a xs) (n : ∀ o, H a = some o → H' a = some o) : IsDct H' a xs := by
  obtain ⟨o, es, ep, h, q⟩ := r
  exact ⟨o, es, ep, n _ h, q⟩
theorem OwnAt.anti (h : ∀ a, L' a → L a) {d : D} {a : Addr} (x : OwnAt K H L d a) : OwnAt K H L' d a := by
  rcases x with ⟨ds, vs, e1, e2, e3⟩ | ⟨ds, vs, e1, e2, e3⟩
  · exact .inl ⟨ds, vs, e1, e2, e3.anti h⟩
  · exact .inr ⟨ds, vs, e1, e2, e3.anti h⟩
theorem OwnAt.grow (h : ∀ a, L' a → L a ∨ H a = none) {d : D} {a : Addr} (x : OwnAt K H L d a) : OwnAt K H L' d a := by
  rcases x with ⟨ds, vs, e1, e2, e3⟩ | ⟨ds, vs, e1, e2, e3⟩
  · exact .inl ⟨ds, vs, e1, e2, e3.grow h⟩
  · exact .inr ⟨ds, vs, e1, e2, e3.grow h⟩
theorem OwnAt.keep {d : D} {a : Addr} (x : OwnAt K H L d a) (k : Kp L H H') (n : ∀ o, H a = some o → H' a = some o) : OwnAt K H' L d a := by
  rcases x with ⟨ds, vs, e1, e2, e3⟩ | ⟨ds, vs, e1, e2, e3⟩
  · exact .inl ⟨ds, vs, e1, n _ e2, e3.keep k⟩
  · exact .inr ⟨ds, vs, e1, e2.to n, e3.keep k⟩
theorem OwnAt.plus {d : D} {a b : Addr} (x : OwnAt K H L d a) (n : H b = none) : OwnAt K H (plusA L b) d a := by
  rcases x with ⟨ds, vs, e1, e2, e3⟩ | ⟨ds, vs, e1, e2, e3⟩
  · exact .inl ⟨ds, vs, e1, e2, e3.plus n⟩
  · exact .inr ⟨ds, vs, e1, e2, e3.plus n⟩
/-- the heap changes outside of all that is held, nothing tracked is let go -/
theorem Sr.mut (S : Sr K c L M μ σ H) (k : ∀ a o, H a = some o → H' a = some o) : Sr K c L M μ σ H' := by
  have k' : Kp L H H' := fun a o e _ => k a o e
  refine ⟨S.len, fun i d e => ?_, fun i d e => ?_, fun i d e => ?_, S.inj, S.ml, S.lkl, S.l0, S.m0, S.l00, fun a h => ?_, fun a o e n => k _ _ (S.keep a o e n), S.io, S.lks⟩
  · obtain ⟨v, e1, e2⟩ := S.val i d e; exact ⟨v, e1, e2.keep k'⟩
  · obtain ⟨a, e1, e2, e3⟩ := S.own i d e; exact ⟨a, e1, e2.keep k' (k a), e3⟩
  · obtain ⟨a, e1, e2, e3⟩ := S.lck i d e; exact ⟨a, e1, e2.keep k' (k a), e3⟩
  · cases q : H a with
    | none => exact absurd q (S.trk a h)
    | some o => rw [k a o q]; simp
theorem Sr.laid (S : Sr K c L M μ σ H) {a : Addr} {o : HO} (n : H a = none) : Sr K c L M μ σ (upd H a o) :=
  S.mut fun b u e => by rw [upd_ne (ne_of_none e n)]; exact e
/-- a smaller set to be kept off -/
theorem Sr.anti (S : Sr K c L M μ σ H) (h : ∀ a, L' a → L a) (hM : ∀ a, M a → L' a) (h0 : ∀ a, c.L0 a → L' a) (hl : ∀ a, c.lk a → L' a) : Sr K c L' M μ σ H := by
  refine ⟨S.len, fun i d e => ?_, fun i d e => ?_, fun i d e => ?_, S.inj, hM, fun a q => ⟨hl a q, (S.lkl a q).2⟩, h0, S.m0, S.l00, fun a q => S.trk a (h a q), S.keep, S.io, S.lks⟩
  · obtain ⟨v, e1, e2⟩ := S.val i d e; exact ⟨v, e1, e2.anti h⟩
  · obtain ⟨a, e1, e2, e3⟩ := S.own i d e; exact ⟨a, e1, e2.anti h, e3⟩
  · obtain ⟨a, e1, e2, e3⟩ := S.lck i d e; exact ⟨a, e1, e2.anti h, e3⟩
theorem Sr.free (S : Sr K c L M μ σ H) {a : Addr} (n : H a = none) : ¬ L a := fun h => S.trk a h n
/-- one more address to be kept off: a new object -/
theorem Sr.plus (S : Sr K c L M μ σ H) {a : Addr} {o : HO} (n : H a = none) : Sr K c (plusA L a) M μ σ (upd H a o) := by
  have k : ∀ b u, H b = some u → upd H a o b = some u := fun b u e => by rw [upd_ne (ne_of_none e n)]; exact e
  have k' : Kp (plusA L a) H (upd H a o) := fun b u e _ => k b u e
  refine ⟨S.len, fun i d e => ?_, fun i d e => ?_, fun i d e => ?_, S.inj, fun b h => .inl (S.ml b h), fun b h => ⟨.inl (S.lkl b h).1, (S.lkl b h).2⟩, fun b h => .inl (S.l0 b h), S.m0, S.l00, fun b h => ?_, fun b u e m => k _ _ (S.keep b u e m), S.io, S.lks⟩
  · obtain ⟨v, e1, e2⟩ := S.val i d e; exact ⟨v, e1, (e2.plus n).keep k'⟩
  · obtain ⟨b, e1, e2, e3⟩ := S.own i d e; exact ⟨b, e1, (e2.plus n).keep k' (k b), e3⟩
  · obtain ⟨b, e1, e2, e3⟩ := S.lck i d e; exact ⟨b, e1, (e2.plus n).keep k' (k b), e3⟩
  · rcases h with h | rfl
    · cases q : H b with
      | none => exact absurd q (S.trk b h)
      | some u => rw [k b u q]; simp
    · rw [upd_same]; simp
/-- back again -/
theorem Sr.minus {a : Addr} (S : Sr K c (plusA L a) M μ σ H) (S0 : ∀ a, M a → L a) (h0 : ∀ a, c.L0 a → L a) (hl : ∀ a, c.lk a → L a) : Sr K c L M μ σ H :=
  S.anti (fun _ h => .inl h) S0 h0 hl
/-- an address that is kept off and none of the slots' own is written -/
theorem Sr.wr (S : Sr K c L M μ σ H) {a : Addr} {o : HO} (hL : L a) (nM : ¬ M a) (nk : ¬ c.lk a) (n0 : c.H0 a = none ∨ c.M0 a) : Sr K c L M μ σ (upd H a o) := by
  have k : Kp L H (upd H a o) := fun b u e n => by
    have z : b ≠ a := fun z => n (by rw [z]; exact hL)
    rw [upd_ne z]; exact e
  refine ⟨S.len, fun i d e => ?_, fun i d e => ?_, fun i d e => ?_, S.inj, S.ml, S.lkl, S.l0, S.m0, S.l00, fun b h => ?_, fun b u e m => ?_, S.io, S.lks⟩
  · obtain ⟨v, e1, e2⟩ := S.val i d e; exact ⟨v, e1, e2.keep k⟩
  · obtain ⟨b, e1, e2, e3⟩ := S.own i d e
    have z : b ≠ a := fun z => nM (z ▸ e3)
    exact ⟨b, e1, e2.keep k fun u q => by rw [upd_ne z]; exact q, e3⟩
  · obtain ⟨b, e1, e2, e3⟩ := S.lck i d e
    have z : b ≠ a := fun z => nk ⟨_, e3, z⟩
    exact ⟨b, e1, e2.keep k fun u q => by rw [upd_ne z]; exact q, e3⟩
  · by_cases q : b = a
    · subst q; rw [upd_same]; simp
    · rw [upd_ne q]; exact S.trk b h
  · have : b ≠ a := fun z => by
      subst z
      rcases n0 with n0 | n0
      · rw [n0] at e; cases e
      · exact m n0
    rw [upd_ne this]; exact S.keep b u e m
/-- an own object is written -/
theorem Sr.put (S : Sr K c L M μ σ H) {i : Nat} {d d' : D} {a : Addr} {o : HO} (hi : μ[i]? = some (.own d)) (ha : σ[i]? = some (some (.ref a))) (hM : M a) (hn : OwnAt K (upd H a o) L d' a) : Sr K c L M (μ.set i (.own d')) σ (upd H a o) := by
  have hL := S.ml a hM
  have k : Kp L H (upd H a o) := fun b u e n => by
    have z : b ≠ a := fun z => n (by rw [z]; exact hL)
    rw [upd_ne z]; exact e
  have il : i < μ.length := (List.getElem?_eq_some_iff.mp hi).1
  have other : ∀ (j : Nat) (s : Sl), (μ.set i (.own d'))[j]? = some s → j ≠ i → μ[j]? = some s := fun j s e n => by rw [List.getElem?_set_ne (Ne.symm n)] at e; exact e
  have back : ∀ (j : Nat) (s : Sl), (μ.set i (.own d'))[j]? = some s → s.held = true → ∃ t, μ[j]? = some t ∧ t.held = true := fun j s e h => by
    by_cases n : j = i
    · subst n; exact ⟨_, hi, rfl⟩
    · exact ⟨s, other j s e n, h⟩
  refine ⟨by rw [List.length_set]; exact S.len, fun j e q => ?_, fun j e q => ?_, fun j e q => ?_, fun j j' s t b q1 h1 q2 h2 e1 e2 => ?_, S.ml, S.lkl, S.l0, S.m0, S.l00, fun b h => ?_, fun b u e m => ?_, fun p hp => ?_, fun p hp => ?_⟩
  · by_cases n : j = i
    · subst n; rw [List.getElem?_set_self il] at q; cases q
    · obtain ⟨v, e1, e2⟩ := S.val j e (other j _ q n); exact ⟨v, e1, e2.keep k⟩
  · by_cases n : j = i
    · subst n; rw [List.getElem?_set_self il] at q; cases q
      exact ⟨a, ha, hn, hM⟩
    · have q' := other j _ q n
      obtain ⟨b, e1, e2, e3⟩ := S.own j e q'
      have z : b ≠ a := fun z => n (S.inj j i _ _ a q' rfl hi rfl (z ▸ e1) ha)
      exact ⟨b, e1, e2.keep k fun u q => by rw [upd_ne z]; exact q, e3⟩
  · by_cases n : j = i
    · subst n; rw [List.getElem?_set_self il] at q; cases q
    · obtain ⟨b, e1, e2, e3⟩ := S.lck j e (other j _ q n)
      have z : b ≠ a := fun z => (S.lkl b ⟨_, e3, rfl⟩).2 (z ▸ hM)
      exact ⟨b, e1, e2.keep k fun u q => by rw [upd_ne z]; exact q, e3⟩
  · obtain ⟨s', a1, a2⟩ := back j s q1 h1
    obtain ⟨t', b1, b2⟩ := back j' t q2 h2
    exact S.inj j j' s' t' b a1 a2 b1 b2 e1 e2
  · by_cases q : b = a
    · subst q; rw [upd_same]; simp
    · rw [upd_ne q]; exact S.trk b h
  · have : b ≠ a := fun z => by
      subst z
      rcases S.m0 b hM with n0 | n0
      · exact m n0
      · rw [n0] at e; cases e
    rw [upd_ne this]; exact S.keep b u e m
  · obtain ⟨e1, s, e2, e3⟩ := S.io p hp
    refine ⟨e1, ?_⟩
    by_cases n : p.1 = i
    · rw [n, List.getElem?_set_self il]; exact ⟨_, rfl, rfl⟩
    · rw [List.getElem?_set_ne (Ne.symm n)]; exact ⟨s, e2, e3⟩
  · obtain ⟨e1, dd, e2⟩ := S.lks p hp
    refine ⟨e1, dd, ?_⟩
    have n : p.1 ≠ i := fun z => by rw [z, hi] at e2; cases e2
    rw [List.getElem?_set_ne (Ne.symm n)]; exact e2
/-- a slot is given a value -/
theorem Sr.set (S : Sr K c L M μ σ H) {i : Nat} {d : D} {v : V} (w : Dv K H L d v) (hio : ∀ p ∈ c.io, p.1 ≠ i) (hlk : ∀ e, μ[i]? ≠ some (.lck e)) (hi : i < σ.length) : Sr K c L M (setN i d μ) (σ.set i (some v)) H := by
  have il : i < μ.length := by rw [S.len]; exact hi
  have ne : ∀ (j : Nat) (s : Sl), (setN i d μ)[j]? = some s → j ≠ i → μ[j]? = some s ∧ (σ.set i (some v))[j]? = σ[j]? := fun j s e n => by
    unfold setN at e
    rw [List.getElem?_set_ne (Ne.symm n)] at e
    exact ⟨e, List.getElem?_set_ne (Ne.symm n)⟩
  have at_ : ∀ s, (setN i d μ)[i]? = some s → s = .val d := fun s e => by
    unfold setN at e
    rw [List.getElem?_set_self il] at e; cases e; rfl
  have held : ∀ (j : Nat) (s : Sl), (setN i d μ)[j]? = some s → s.held = true → j ≠ i := fun j s e h n => by
    subst n; rw [at_ s e] at h; cases h
  refine ⟨by unfold setN; rw [List.length_set, List.length_set]; exact S.len, fun j e q => ?_, fun j e q => ?_, fun j e q => ?_, fun j j' s t b q1 h1 q2 h2 e1 e2 => ?_, S.ml, S.lkl, S.l0, S.m0, S.l00, S.trk, S.keep, fun p hp => ?_, fun p hp => ?_⟩
  · by_cases n : j = i
    · subst n; cases at_ _ q; exact ⟨v, List.getElem?_set_self hi, w⟩
    · obtain ⟨a1, a2⟩ := ne j _ q n; rw [a2]; exact S.val j e a1
  · have n := held j _ q rfl
    obtain ⟨a1, a2⟩ := ne j _ q n; rw [a2]; exact S.own j e a1
  · have n := held j _ q rfl
    obtain ⟨a1, a2⟩ := ne j _ q n; rw [a2]; exact S.lck j e a1
  · obtain ⟨a1, a2⟩ := ne j _ q1 (held j _ q1 h1)
    obtain ⟨b1, b2⟩ := ne j' _ q2 (held j' _ q2 h2)
    rw [a2] at e1; rw [b2] at e2
    exact S.inj j j' s t b a1 h1 b1 h2 e1 e2
  · obtain ⟨e1, s, e2, e3⟩ := S.io p hp
    have n := hio p hp
    refine ⟨by rw [List.getElem?_set_ne (Ne.symm n)]; exact e1, s, ?_, e3⟩
    unfold setN; rw [List.getElem?_set_ne (Ne.symm n)]; exact e2
  · obtain ⟨e1, dd, e2⟩ := S.lks p hp
    have n : p.1 ≠ i := fun z => hlk dd (by rw [← z]; exact e2)
    refine ⟨by rw [List.getElem?_set_ne (Ne.symm n)]; exact e1, dd, ?_⟩
    unfold setN; rw [List.getElem?_set_ne (Ne.symm n)]; exact e2
end
end Mn
set_option Elab.async false
set_option linter.all false
set_option maxRecDepth 100000
set_option autoImplicit false
namespace Mn
open PySem PySem.Spec L2

/-! ## the small language -/
inductive BOp where | add | sub | mul | fdiv | mod | pow
  deriving DecidableEq
inductive COp where | eq | ne | lt | le | gt | ge | isin | notin | isn | isnot
  deriving DecidableEq
/-- built-ins of one argument -/
inductive B1 where | len | abs | all | any | sum | max | min | tuple | repr | str | int
  deriving DecidableEq
inductive B2 where | max | min
  deriving DecidableEq
inductive Ty where | int | bool | tuple | list | str
  deriving DecidableEq

mutual
inductive E where
  | var (i : Nat)
  | int (i : Int) | bl (b : Bool) | str (x : Str) | non
  | glob (x : Str) (d : D)
  | bin (op : BOp) (a b : E)
  | neg (a : E)
  | cmp (op : COp) (a b : P)
  | and (es : Es) | or (es : Es) | not (a : E)
  | ife (c a b : E)
  | tup (es : Es)
  | ix (a : P) (b : E)
  | sl (a : P) (lo hi : O)
  | slSt (a : E) (s : Int)
  | fre (f : FE)
  | call (f : Nat) (as : As)
  | b1 (b : B1) (p : P)
  | b2 (b : B2) (x y : E)
  | isi (a : E) (t : Ty)
  | dix (p : P) (k : E)
  | get (p : P) (k d : E)
  | pop (i : Nat) (b : E)
  | jn (s : E) (p : P)
  | find (o a : E)
  | repl (o a b : E)
  | upper (o : E)
  | mkX (x : Str) (fl : List Str) (es : Es)
  | isX (a : E) (y : Str) (tab : List (Str × Bool))
  | fldX (a : E) (f : Str)
inductive Es where | nil | cons (e : E) (es : Es)
/-- what is looked at: a value, or a slot's own object -/
inductive P where | e (e : E) | pk (i : Nat)
inductive O where | none | some (e : E)
inductive A where | v (e : E) | io (i : Nat)
inductive As where | nil | cons (a : A) (as : As)
/-- new lists and dicts -/
inductive FE where
  | disp (es : Es)
  | comp (elt : E) (t : List Nat) (tup : Bool) (it : I) (c : O)
  | listOf (it : I)
  | cat (a b : P)
  | rep (a : P) (b : E)
  | sortedRev (p : P)
  | dict0
  | dict2 (a b c d : E)
  | dictOf (a : E)
  | call (f : Nat) (as : As)
  | split (o a : E)
/-- what is walked -/
inductive I where
  | seq (p : P) | rng1 (a : E) | rng2 (a b : E) | rng3 (a b c : E) | zip (a b : E) | enum (p : P) | rev (p : P) | revr (a : E)
end

/-- a test of a caught exception: isinstance(e, y); not isinstance(e, (y, ..)) -/
inductive Ht where | is1 (y : Str) | isn (ys : List Str)
/-- an except clause: the class, e's slot, the slot that is set, to what at first, the tests, to what then (or to which field of e); by classes: whether it is caught, and what the tests say -/
structure Hd where
  cn : Str
  i : Nat
  j : Nat
  pre : Option D
  ts : List Ht
  v : D
  fld : Option Str
  tab : List (Option Bool)
mutual
inductive S where
  | asg (i : Nat) (e : E)
  | own (i : Nat) (f : FE)
  | par (i j : Nat) (a b : E)
  | unp (is : List Nat) (e : E)
  | unpL (is : List Nat) (e : E)
  | seti (i : Nat) (k e : E)
  | dset (i : Nat) (k e : E)
  | app (i : Nat) (e : E)
  | ext (i : Nat) (e : E)
  | ins (i : Nat) (a b : E)
  | app2 (i : Nat) (k e : E)
  | ex (e : E)
  | ife (c : E) (a b : Ss)
  | whl (c : E) (b : Ss)
  | for_ (t : List Nat) (tup : Bool) (it : I) (b : Ss)
  | ret (e : E)
  | retF (f : FE)
  | pass
  | never
  | rse (c : Nat) (x : Str) (fs : List D)
  | tryC (b : Ss) (cn : Str) (j : Nat) (v : D) (tab : List Bool)
  | tryX (b : Ss) (h : Hd)
  | tryL (b : Ss) (cn : Str) (j : Nat) (tab : List Bool)
inductive Ss where
  | nil | cons (s : S) (r : Ss) | frz (i : Nat) (r : Ss)
end

/-! ## what it does -/
/-- an exception: its class (by number), its fields -/
structure Xc where
  cls : Nat
  fs : List D
inductive Rs (α : Type) where
  | ok (a : α) (μ : Mu)
  | ex (x : Xc) (μ : Mu)
  | st
def Rs.bind {α β : Type} (r : Rs α) (k : α → Mu → Rs β) : Rs β := match r with
  | .ok a μ => k a μ
  | .ex x μ => .ex x μ
  | .st => .st
/-- nothing is raised -/
def Rs.nox {α : Type} (r : Rs α) : Rs α := match r with
  | .ok a μ => .ok a μ
  | _ => .st
def Rs.opt {α : Type} (o : Option α) (μ : Mu) : Rs α := match o with
  | some a => .ok a μ
  | none => .st
/-- the slots otherwise -/
def Rs.mu {α : Type} (g : Mu → Mu) (r : Rs α) : Rs α := match r with
  | .ok a μ => .ok a (g μ)
  | .ex x μ => .ex x (g μ)
  | .st => .st
inductive Fl where | nx | rt (d : D) | rf (d : D)
/-- what a def gives: its value, and what the lent objects hold behind -/
inductive FR where
  | ok (d : D) (outs : List D)
  | fr (d : D) (outs : List D)
  | ex (x : Xc) (outs : List D)
  | st

def sizeOkN (n : Nat) : Bool := decide (n ≤ 16777216)
/-- products: together below a million bits -/
def mulOk (i j : Int) : Bool := decide (i.natAbs.log2 + j.natAbs.log2 < 1000000)
def divOk (j : Int) : Bool := decide (j ≠ 0) && decide (j.natAbs.log2 < 8900)
def addD : D → D → Option D
  | .int i, .int j => some (.int (i + j))
  | .str x, .str y => if sizeOkN (x.length + y.length) then some (.str (x ++ y)) else none
  | .tuple xs, .tuple ys => if sizeOkN (xs.length + ys.length) then some (.tuple (xs ++ ys)) else none
  | .list xs, .list ys => if sizeOkN (xs.length + ys.length) then some (.list (xs ++ ys)) else none
  | _, _ => none
def subD : D → D → Option D
  | .int i, .int j => some (.int (i - j))
  | _, _ => none
def mulD : D → D → Option D
  | .int i, .int j => if mulOk i j then some (.int (i * j)) else none
  | .tuple xs, .int j => if decide (0 ≤ j) && decide (j ≤ 1000) && !xs.isEmpty && decide (xs.length ≤ 1000) then some (.tuple (List.replicate j.toNat xs).flatten) else none
  | _, _ => none
def fdivD : D → D → Option D
  | .int i, .int j => if divOk j then some (.int (i.fdiv j)) else none
  | _, _ => none
def modD : D → D → Option D
  | .int i, .int j => if decide (j ≠ 0) then some (.int (i.fmod j)) else none
  | _, _ => none
def powD : D → D → Option D
  | .int i, .int j => if decide (0 ≤ j) && decide (j ≤ 1000000) && decide (i.natAbs < 2 ^ 64) then some (.int (i ^ j.toNat)) else none
  | _, _ => none
def binD : BOp → D → D → Option D
  | .add => addD
  | .sub => subD
  | .mul => mulD
  | .fdiv => fdivD
  | .mod => modD
  | .pow => powD
def intsOf : List D → Option (List Int)
  | [] => some []
  | .int i :: r => (intsOf r).map (i :: ·)
  | _ => none
def boolsOf : List D → Option (List Bool)
  | [] => some []
  | .bool b :: r => (boolsOf r).map (b :: ·)
  | _ => none
def lexLt : List Int → List Int → Bool
  | [], [] => false
  | [], _ :: _ => true
  | _ :: _, [] => false
  | x :: xs, y :: ys => if x = y then lexLt xs ys else decide (x < y)
def eqD (x y : D) : Option Bool := if x.plain && y.plain && decide (min x.depth y.depth ≤ 60) then some (PyData.eqv x y) else none
def isNone : D → Bool
  | .none => true
  | _ => false
def ltOk (x y : D) : Bool := x.plain && y.plain && PySem.W.alike x y && !isNone x && decide (min x.depth y.depth ≤ 60)
def ltD (x y : D) : Option Bool := if ltOk x y then some (PySem.W.dataLt x y) else none
def geD (x y : D) : Option Bool := if ltOk x y then some (!PySem.W.dataLt x y) else none
def gtD (x y : D) : Option Bool := if ltOk x y then some (PySem.W.dataLt y x) else none
def leD (x y : D) : Option Bool := if ltOk x y then some (!PySem.W.dataLt y x) else none
/-- a text within another one -/
def inS (z y : Str) : Bool := !(Builtin.Str.occurrences y z 0 y.length 1).isEmpty
def inD (x : D) : D → Option Bool
  | .list ys => if x.plain && PyData.plainAll ys && decide (x.depth ≤ 60) then some (ys.any fun y => PyData.eqv y x) else none
  | .tuple ys => if x.plain && PyData.plainAll ys && decide (x.depth ≤ 60) then some (ys.any fun y => PyData.eqv y x) else none
  | .str y => match x with
    | .str z => some (inS z y)
    | _ => none
  | _ => none
def isD (x y : D) : Option Bool := match x, y with
  | .none, .none => some true
  | .bool _, .none | .int _, .none | .str _, .none | .tuple _, .none | .list _, .none => some false
  | .bool a, .bool b => some (decide (a = b))
  | _, _ => none
def cmpD : COp → D → D → Option Bool
  | .eq => eqD
  | .ne => fun x y => (eqD x y).map (!·)
  | .lt => ltD
  | .gt => gtD
  | .le => leD
  | .ge => geD
  | .isn => isD
  | .isnot => fun x y => (isD x y).map (!·)
  | .isin => inD
  | .notin => fun x y => (inD x y).map (!·)
def maxL : List Int → Int → Int
  | [], m => m
  | x :: r, m => maxL r (if m < x then x else m)
def minL : List Int → Int → Int
  | [], m => m
  | x :: r, m => minL r (if x < m then x else m)
def lenD : D → Option D
  | .list xs => some (.int xs.length)
  | .tuple xs => some (.int xs.length)
  | .str x => if sizeOkN x.length then some (.int x.length) else none
  | _ => none
def absD : D → Option D
  | .int i => some (.int i.natAbs)
  | _ => none
def allD : D → Option D
  | .list xs => (boolsOf xs).map fun bs => .bool (bs.all id)
  | _ => none
def anyD : D → Option D
  | .list xs => (boolsOf xs).map fun bs => .bool (bs.any id)
  | _ => none
def sumD : D → Option D
  | .list xs => (intsOf xs).map fun ns => .int ns.sum
  | .tuple xs => (intsOf xs).map fun ns => .int ns.sum
  | _ => none
def listsOf : List D → Option (List (List Int))
  | [] => some []
  | .list xs :: r => match intsOf xs, listsOf r with
    | some k, some ks => some (k :: ks)
    | _, _ => none
  | _ => none
def maxK : List (List Int) → List Int → List Int
  | [], m => m
  | x :: r, m => maxK r (if m < x then x else m)
def maxKD (xs : List D) : Option D := match listsOf xs with
  | some (k :: ks) => some (.list ((maxK ks k).map .int))
  | _ => none
def maxD : D → Option D
  | .list xs => match intsOf xs with
    | some (n :: ns) => some (.int (maxL ns n))
    | _ => maxKD xs
  | _ => none
def minD : D → Option D
  | .list xs => match intsOf xs with
    | some (n :: ns) => some (.int (minL ns n))
    | _ => none
  | _ => none
def tupD : D → Option D
  | .list xs => some (.tuple xs)
  | .tuple xs => some (.tuple xs)
  | _ => none
def reprD (d : D) : Option D := if d.plain && d.showable && decide (d.shown.length ≤ 16777216) && decide (d.depth ≤ 60) then some (.str d.shown) else none
def intD : D → Option D
  | .bool b => some (.int (if b then 1 else 0))
  | .int i => some (.int i)
  | .str x => if decide (x.length ≤ 640) then (intText? x).map .int else none
  | _ => none
def strD : D → Option D
  | .int i => if decide (i.natAbs.log2 < 1920) then some (.str (toString i)) else none
  | _ => none
def b1D : B1 → D → Option D
  | .len => lenD
  | .abs => absD
  | .all => allD
  | .any => anyD
  | .sum => sumD
  | .max => maxD
  | .min => minD
  | .tuple => tupD
  | .repr => reprD
  | .str => strD
  | .int => intD
def b2D : B2 → D → D → Option D
  | .max, .int i, .int j => some (.int (if i < j then j else i))
  | .min, .int i, .int j => some (.int (if j < i then j else i))
  | _, _, _ => none
def isiD (d : D) (t : Ty) : Option Bool := if d.plain then some (match t with
  | .int => d.isInt
  | .bool => d.isBool
  | .tuple => d.isTuple
  | .list => d.isList
  | .str => d.isStr) else none
def dget : List (D × D) → D → Option D
  | [], _ => none
  | (k, v) :: r, x => if PyData.eqv k x then some v else dget r x
def dput : List (D × D) → D → D → List (D × D)
  | [], x, v => [(x, v)]
  | (k, w) :: r, x, v => if PyData.eqv k x then (k, v) :: r else (k, w) :: dput r x v
/-- a key: a tuple of ints -/
def isKey : D → Bool
  | .tuple xs => (intsOf xs).isSome
  | _ => false
def ixD : D → D → Option D
  | .list xs, .int i => atI xs i
  | .tuple xs, .int i => atI xs i
  | .str z, .int i => if sizeOkN z.length then (atI z.cps.toList i).map fun c => .str ⟨#[c]⟩ else none
  | _, _ => none
/-- xs[lo:hi] -/
def cutD (xs : List D) (lo hi : Option Int) : List D := (xs.drop (HT.sIx xs.length 0 lo)).take (HT.sIx xs.length xs.length hi - HT.sIx xs.length 0 lo)
def slD : D → Option Int → Option Int → Option D
  | .tuple xs, lo, hi => some (.tuple (cutD xs lo hi))
  | .list xs, lo, hi => some (.list (cutD xs lo hi))
  | .str z, lo, hi => if sizeOkN z.length then some (.str (cutS z lo hi)) else none
  | _, _, _ => none
/-! texts -/
def strsOf : List D → Option (List Str)
  | [] => some []
  | .str x :: r => (strsOf r).map (x :: ·)
  | _ => none
def isStrD : D → Bool
  | .str _ => true
  | _ => false
def joinOk (a : Str) (ys : List Str) : Bool := decide ((ys.map (·.length)).sum + ys.length * a.length ≤ 16777216)
def joinD : D → D → Option D
  | .str a, .list xs => match strsOf xs with
    | some ys => if joinOk a ys then some (.str (Txt.join a ys)) else none
    | none => none
  | _, _ => none
def splitD : D → D → Option D
  | .str a, .str b => if !(b.length == 0) && sizeOkN (a.length + 2) then some (.list ((Txt.split a b).map .str)) else none
  | _, _ => none
def findD : D → D → Option D
  | .str a, .str b => some (.int (Txt.find a b))
  | _, _ => none
def upperD : D → Option D
  | .str a => if decide (a.length ≤ 5592405) then some (.str (Txt.upper a)) else none
  | _ => none
/-! exceptions as values -/
def excOf : D → Option (Str × List Str × List D)
  | .dict [(.bool true, .tuple [.str nm, .list fl, .list fs])] => (strsOf fl).map fun l => (nm, l, fs)
  | _ => none
/-- made: the fields, the last one first -/
def mkXD (x : Str) (fl : List Str) (ds : List D) : Option D := match fl with
  | [] => some (excD x [] [])
  | _ => if decide (ds.length = fl.length) then some (excD x fl.reverse ds.reverse) else none
def isXD (tab : List (Str × Bool)) (d : D) : Option D := match excOf d with
  | some (nm, _, _) => (tab.lookup nm).map .bool
  | none => none
def fldXD (f : Str) (d : D) : Option D := match excOf d with
  | some (_, fl, fs) => (fl.zip fs).lookup f
  | none => none
/-- falling -/
def sortK (ks : List (List Int)) : List (List Int) := ks.mergeSort fun a b => !decide (a < b)
def keysI : List (D × D) → Option (List (List Int))
  | [] => some []
  | (.tuple xs, _) :: r => match intsOf xs, keysI r with
    | some k, some ks => some (k :: ks)
    | _, _ => none
  | _ => none
def sortD : D → Option D
  | .dict es => match keysI es with
    | some ks => if ks.all fun k => !k.isEmpty then some (.list ((sortK ks).map fun k => .tuple (k.map .int))) else none
    | none => none
  | _ => none
def pairsD : List D → Option (List (D × D))
  | [] => some []
  | .tuple [k, v] :: r => if isKey k then (pairsD r).map ((k, v) :: ·) else none
  | _ => none
def dictD (es : List (D × D)) : List (D × D) := es.foldl (fun c p => dput c p.1 p.2) []
def dictOfD : D → Option D
  | .tuple xs => if sizeOkN xs.length then (pairsD xs).map fun es => .dict (dictD es) else none
  | _ => none

/-- every second one -/
def evens {α : Type} : List α → List α
  | [] => []
  | [x] => [x]
  | x :: _ :: r => x :: evens r
/-- t[::2], t[::-1] -/
def slStD (s : Int) : D → Option D
  | .tuple xs => if s = 2 then some (.tuple (evens xs)) else if s = -1 then some (.tuple xs.reverse) else none
  | _ => none
/-! slots -/
def look (μ : Mu) (i : Nat) : Option D := match μ[i]? with
  | some (.val d) => some d
  | _ => none
def peek (μ : Mu) (i : Nat) : Option D := match μ[i]? with
  | some (.val d) => some d
  | some (.own d) => some d
  | some (.lck d) => some d
  | _ => none
def owned (μ : Mu) (i : Nat) : Option D := match μ[i]? with
  | some (.own d) => some d
  | _ => none
def heldD (μ : Mu) (i : Nat) : Option D := match μ[i]? with
  | some (.own d) => some d
  | some (.lck d) => some d
  | _ => none
def isLck (μ : Mu) (i : Nat) : Bool := match μ[i]? with
  | some (.lck _) => true
  | _ => false
def setAll : List Nat → List D → Mu → Option Mu
  | [], [], μ => some μ
  | i :: is, d :: ds, μ => if isLck μ i then none else setAll is ds (setN i d μ)
  | _, _, _ => none
/-- two values that a walk hands out at once (no value of a slot) -/
def pairD (x y : D) : D := .dict [(.none, .tuple [x, y])]
def isPair : D → Bool
  | .dict [(.none, _)] => true
  | _ => false
def setT (t : List Nat) (tup : Bool) (d : D) (μ : Mu) : Option Mu := match tup with
  | false => if isPair d then none else setAll t [d] μ
  | true => match d with
    | .tuple xs => setAll t xs μ
    | .dict [(.none, .tuple xs)] => setAll t xs μ
    | _ => none
/-- a comprehension's own names -/
def wipeL (μ : Mu) : List Nat → Mu
  | [] => μ
  | v :: vs => (wipeL μ vs).set v .no
def freeAll (t : List Nat) (μ : Mu) : Bool := t.all fun i => match μ[i]? with
  | some s => !s.held
  | none => false
def wipeM (t : List Nat) (μ : Mu) : Option Mu := if freeAll t μ then some (wipeL μ t) else none
/-- slots put back as they stood -/
def backL (μ0 μ : Mu) : List Nat → Mu
  | [] => μ
  | v :: vs => (backL μ0 μ vs).set v (μ0.getD v .no)
def lockM (o : Option Nat) (μ : Mu) : Mu := match o with
  | some i => match μ[i]? with
    | some (.own d) => μ.set i (.lck d)
    | _ => μ
  | none => μ
def unlockM (o : Option Nat) (μ0 μ : Mu) : Mu := match o with
  | some i => match μ0[i]?, μ[i]? with
    | some (.own _), some (.lck d) => μ.set i (.own d)
    | _, _ => μ
  | none => μ
/-- a, b, .. = a list -/
def setL (is : List Nat) (d : D) (μ : Mu) : Option Mu := match d with
  | .list xs => setAll is xs μ
  | _ => none
def frzM (i : Nat) (μ : Mu) : Option Mu := match μ[i]? with
  | some (.own d) => some (μ.set i (.val d))
  | some (.val d) => some μ
  | _ => none

/-! loops -/
def compL (f : D → Mu → Rs (Option D)) : List D → List D → Mu → Rs (List D)
  | [], acc, μ => .ok acc μ
  | d :: r, acc, μ => (f d μ).bind fun o μ1 => match o with
    | some x => compL f r (acc ++ [x]) μ1
    | none => compL f r acc μ1
def forL (f : D → Mu → Rs Fl) : List D → Mu → Rs Fl
  | [], μ => .ok .nx μ
  | d :: r, μ => (f d μ).bind fun fl μ1 => match fl with
    | .nx => forL f r μ1
    | .rt v => .ok (.rt v) μ1
    | .rf _ => .st
def whlL (c : Mu → Rs Bool) (f : Mu → Rs Fl) : Nat → Mu → Rs Fl
  | 0, _ => .st
  | n + 1, μ => (c μ).bind fun b μ1 => match b with
    | false => .ok .nx μ1
    | true => (f μ1).bind fun fl μ2 => match fl with
      | .nx => whlL c f n μ2
      | .rt v => .ok (.rt v) μ2
      | .rf _ => .st

/-! arguments of a call -/
inductive Ag where | v (d : D) | io (i : Nat)
def argSl (μ : Mu) : List Ag → Option (List Sl)
  | [] => some []
  | .v d :: r => (argSl μ r).map (.val d :: ·)
  | .io i :: r => match owned μ i with
    | some d => (argSl μ r).map (.own d :: ·)
    | none => none
def ioNd : List Ag → List Nat
  | [] => []
  | .v _ :: r => ioNd r
  | .io i :: r => i :: ioNd r
def outM : List Nat → List D → Mu → Option Mu
  | [], [], μ => some μ
  | i :: is, d :: ds, μ => outM is ds (μ.set i (.own d))
  | _, _, _ => none

def toB (d : D) : Option Bool := match d with
  | .bool b => some b
  | _ => none
def bitOf (r : Rs D) : Rs Bool := r.bind fun d μ => Rs.opt (toB d) μ
def toI (d : D) : Option Int := match d with
  | .int b => some b
  | _ => none
def rangeD (lo : Int) (n : Nat) : List D := (List.range n).map fun (k : Nat) => .int (lo + (k : Int))
def rangeC (lo c : Int) (n : Nat) : List D := (List.range n).map fun (k : Nat) => .int (lo + (k : Int) * c)
def smallI (i : Int) : Bool := decide (-(2 ^ 61) ≤ i) && decide (i < 2 ^ 61)
def seqD0 : D → Option (List D)
  | .list xs => some xs
  | .tuple xs => some xs
  | _ => none
/-- the signs of a text -/
def signsD (x : Str) : List D := x.cps.toList.map fun c => .str ⟨#[c]⟩
/-- what may be walked: also a text -/
def seqD : D → Option (List D)
  | .str x => if sizeOkN x.length then some (signsD x) else none
  | d => seqD0 d
/-- two of one kind -/
def sameSeq (x y : D) : Bool := match x, y with
  | .list _, .list _ => true
  | .tuple _, .tuple _ => true
  | _, _ => false
def zipD (xs ys : List D) : List D := (xs.zip ys).map fun p => pairD p.1 p.2
def enumD (xs : List D) : List D := xs.zipIdx.map fun p => pairD (.int (p.2 : Int)) p.1

/-- what is looked at, once more behind the other operands -/
def look2 (p : P) (x : D) (μ : Mu) : Option D := match p with
  | .pk i => peek μ i
  | .e _ => some x
/-! own objects changed -/
def popE (i : Nat) (y : D) (μ1 : Mu) : Rs D := match owned μ1 i, y with
  | some (.list xs), .int j => match ixN xs.length j with
    | some k => Rs.opt xs[k]? (μ1.set i (.own (.list (xs.eraseIdx k))))
    | none => .st
  | _, _ => .st
def appE (i : Nat) (v : D) (μ1 : Mu) : Option Mu := match owned μ1 i with
  | some (.list xs) => if sizeOkN (xs.length + 1) then some (μ1.set i (.own (.list (xs ++ [v])))) else none
  | _ => none
def extE (i : Nat) (v : D) (μ1 : Mu) : Option Mu := match owned μ1 i, seqD0 v with
  | some (.list xs), some ys => if sizeOkN (xs.length + ys.length) then some (μ1.set i (.own (.list (xs ++ ys)))) else none
  | _, _ => none
def insE (i : Nat) (k v : D) (μ2 : Mu) : Option Mu := match owned μ2 i, k with
  | some (.list xs), .int j => if decide (0 ≤ j) && decide (j ≤ xs.length) && sizeOkN (xs.length + 1) then some (μ2.set i (.own (.list (xs.take j.toNat ++ v :: xs.drop j.toNat)))) else none
  | _, _ => none
def setE (i : Nat) (k v : D) (μ2 : Mu) : Option Mu := match owned μ2 i, k with
  | some (.list xs), .int j => match ixN xs.length j with
    | some n => some (μ2.set i (.own (.list (xs.set n v))))
    | none => none
  | _, _ => none
def dsetE (i : Nat) (y v : D) (μ2 : Mu) : Option Mu := match owned μ2 i with
  | some (.dict es) => if isKey y && sizeOkN (es.length + 1) then some (μ2.set i (.own (.dict (dput es y v)))) else none
  | _ => none
def ownsL (i : Nat) (μ : Mu) : Bool := match owned μ i with
  | some (.list _) => true
  | _ => false
def ownsA (i : Nat) (μ : Mu) : Bool := (owned μ i).isSome
def Rs.nx (o : Option Mu) : Rs Fl := match o with
  | some μ => .ok .nx μ
  | none => .st
def heldP (p : P) (x : D) (μ : Mu) : Option D := match p with
  | .pk i => heldD μ i
  | .e _ => some x
def catE (pa pb : P) (x y : D) (μ2 : Mu) : Rs D := match heldP pa x μ2, heldP pb y μ2 with
    | some (.list xs), some (.list ys) => if sizeOkN (xs.length + ys.length) then .ok (.list (xs ++ ys)) μ2 else .st
    | _, _ => .st
def repE (pa : P) (x y : D) (μ2 : Mu) : Rs D := match heldP pa x μ2, y with
    | some (.list xs), .int j => if decide (0 ≤ j) && decide (j < 2 ^ 62) && sizeOkN (xs.length * j.toNat) then .ok (.list (List.replicate j.toNat xs).flatten) μ2 else .st
    | _, _ => .st
/-- an exception's data -/
def isExc : List (D × D) → Bool
  | [(.bool true, _)] => true
  | _ => false
def isDict : D → Bool
  | .dict es => !isExc es
  | _ => false
def dict2E (x y z w : D) (μ : Mu) : Rs D := if isKey x && isKey z then .ok (.dict (dput (dput [] x y) z w)) μ else .st
def dixE (p : P) (x y : D) (μ2 : Mu) : Rs D := match look2 p x μ2 with
  | some (.dict es) => if isKey y then Rs.opt (dget es y) μ2 else .st
  | _ => .st
def getE (p : P) (x y z : D) (μ3 : Mu) : Rs D := match look2 p x μ3 with
  | some (.dict es) => if isKey y && !isExc es then .ok ((dget es y).getD z) μ3 else .st
  | _ => .st
/-- what an except clause does -/
def hdV (h : Hd) (fs : List D) : Option D := match h.fld with
  | none => some h.v
  | some _ => match fs with
    | [d] => some d
    | _ => none
def hdR (h : Hd) (t : Bool) (fs : List D) (μ : Mu) : Rs Fl := Rs.nx ((match h.pre with
  | some d => setAll [h.j] [d] μ
  | none => some μ).bind fun (μ2 : Mu) => (if t then (hdV h fs).bind fun v => setAll [h.j] [v] μ2 else some μ2).bind fun (μ3 : Mu) => wipeM [h.i] μ3)
def catchR (h : Hd) (r : Rs Fl) : Rs Fl := match r with
  | .ok fl μ => .ok fl μ
  | .ex x μ => match h.tab[x.cls]? with
    | some (some t) => hdR h t x.fs μ
    | _ => .ex x μ
  | .st => .st
/-- except C: one slot is set -/
def catchC (j : Nat) (v : D) (tab : List Bool) (r : Rs Fl) : Rs Fl := match r with
  | .ok fl μ => .ok fl μ
  | .ex x μ => match tab[x.cls]? with
    | some true => Rs.nx (setAll [j] [v] μ)
    | some false => .ex x μ
    | none => .st
  | .st => .st
section
variable (F : Nat → List Sl → FR)
/-- a call by what the def gives -/
def callG (G : List Sl → FR) (as : List Ag) (μ : Mu) : Rs D :=
  if (ioNd as).Nodup then
    match argSl μ as with
    | none => .st
    | some sl => match G sl with
      | .ok d outs => match outM (ioNd as) outs μ with
        | some μ' => .ok d μ'
        | none => .st
      | .ex x outs => match outM (ioNd as) outs μ with
        | some μ' => .ex x μ'
        | none => .st
      | _ => .st
  else .st
/-- a call that gives a new object -/
def callH (G : List Sl → FR) (as : List Ag) (μ : Mu) : Rs D :=
  if (ioNd as).Nodup then
    match argSl μ as with
    | none => .st
    | some sl => match G sl with
      | .fr d outs => match outM (ioNd as) outs μ with
        | some μ' => .ok d μ'
        | none => .st
      | .ex x outs => match outM (ioNd as) outs μ with
        | some μ' => .ex x μ'
        | none => .st
      | _ => .st
  else .st
def callR (f : Nat) (as : List Ag) (μ : Mu) : Rs D := callG (F f) as μ

def pksP : P → Option Nat
  | .pk i => some i
  | .e _ => none
def pks : I → Option Nat
  | .seq p => pksP p
  | .enum p => pksP p
  | .rev p => pksP p
  | _ => none
mutual
def ev : E → Mu → Rs D
  | .var i, μ => Rs.opt (look μ i) μ
  | .int i, μ => .ok (.int i) μ
  | .bl b, μ => .ok (.bool b) μ
  | .str x, μ => .ok (.str x) μ
  | .non, μ => .ok .none μ
  | .glob _ d, μ => .ok d μ
  | .bin op a b, μ => (ev a μ).bind fun x μ1 => (ev b μ1).bind fun y μ2 => Rs.opt (binD op x y) μ2
  | .neg a, μ => (ev a μ).bind fun x μ1 => Rs.opt ((toI x).map fun i => .int (-i)) μ1
  | .cmp op a b, μ => (evP a μ).bind fun x μ1 => (evP b μ1).bind fun y μ2 => Rs.opt ((look2 a x μ2).bind fun x' => (cmpD op x' y).map .bool) μ2
  | .and es, μ => evAnd es μ
  | .or es, μ => evOr es μ
  | .not a, μ => (bitOf (ev a μ)).bind fun b μ1 => .ok (.bool (!b)) μ1
  | .ife c a b, μ => (bitOf (ev c μ)).bind fun t μ1 => match t with
    | true => ev a μ1
    | false => ev b μ1
  | .tup es, μ => (evs es μ).bind fun xs μ1 => .ok (.tuple xs) μ1
  | .ix a b, μ => (evP a μ).bind fun x μ1 => (ev b μ1).bind fun y μ2 => Rs.opt ((look2 a x μ2).bind fun x' => ixD x' y) μ2
  | .sl a lo hi, μ => (evP a μ).bind fun x μ1 => (evO lo μ1).bind fun l μ2 => (evO hi μ2).bind fun h μ3 => Rs.opt ((look2 a x μ3).bind fun x' => slD x' l h) μ3
  | .slSt a s, μ => (ev a μ).bind fun x μ1 => Rs.opt (slStD s x) μ1
  | .fre f, μ => evF f μ
  | .call f as, μ => (evAs as μ).bind fun xs μ1 => callR F f xs μ1
  | .b1 b p, μ => (evP p μ).bind fun x μ1 => Rs.opt (b1D b x) μ1
  | .b2 b p q, μ => (ev p μ).bind fun x μ1 => (ev q μ1).bind fun y μ2 => Rs.opt (b2D b x y) μ2
  | .isi a t, μ => (ev a μ).bind fun x μ1 => Rs.opt ((isiD x t).map .bool) μ1
  | .dix p k, μ => (evP p μ).bind fun x μ1 => (ev k μ1).bind fun y μ2 => dixE p x y μ2
  | .get p k d, μ => (evP p μ).bind fun x μ1 => if isDict x then (ev k μ1).bind fun y μ2 => (ev d μ2).bind fun z μ3 => getE p x y z μ3 else .st
  | .pop i b, μ => if ownsL i μ then (ev b μ).bind fun y μ1 => popE i y μ1 else .st
  | .jn s p, μ => (ev s μ).bind fun x μ1 => if isStrD x then (evP p μ1).bind fun y μ2 => Rs.opt (joinD x y) μ2 else .st
  | .find o a, μ => (ev o μ).bind fun x μ1 => if isStrD x then (ev a μ1).bind fun y μ2 => Rs.opt (findD x y) μ2 else .st
  | .repl _ _ _, _ => .st
  | .upper o, μ => (ev o μ).bind fun x μ1 => Rs.opt (upperD x) μ1
  | .mkX x fl es, μ => (evs es μ).bind fun ds μ1 => Rs.opt (mkXD x fl ds) μ1
  | .isX a _ tab, μ => (ev a μ).bind fun x μ1 => Rs.opt (isXD tab x) μ1
  | .fldX a f, μ => (ev a μ).bind fun x μ1 => Rs.opt (fldXD f x) μ1
def evs : Es → Mu → Rs (List D)
  | .nil, μ => .ok [] μ
  | .cons e es, μ => (ev e μ).bind fun x μ1 => (evs es μ1).bind fun xs μ2 => .ok (x :: xs) μ2
def evAnd : Es → Mu → Rs D
  | .nil, _ => .st
  | .cons e .nil, μ => (bitOf (ev e μ)).bind fun b μ1 => .ok (.bool b) μ1
  | .cons e es, μ => (bitOf (ev e μ)).bind fun b μ1 => match b with
    | true => evAnd es μ1
    | false => .ok (.bool false) μ1
def evOr : Es → Mu → Rs D
  | .nil, _ => .st
  | .cons e .nil, μ => (bitOf (ev e μ)).bind fun b μ1 => .ok (.bool b) μ1
  | .cons e es, μ => (bitOf (ev e μ)).bind fun b μ1 => match b with
    | true => .ok (.bool true) μ1
    | false => evOr es μ1
def evP : P → Mu → Rs D
  | .e e, μ => ev e μ
  | .pk i, μ => Rs.opt (peek μ i) μ
/-- a new object, or a slot's own -/
def evH : P → Mu → Rs D
  | .e (.fre f), μ => evF f μ
  | .pk i, μ => Rs.opt (heldD μ i) μ
  | _, _ => .st
def evO : O → Mu → Rs (Option Int)
  | .none, μ => .ok none μ
  | .some e, μ => (ev e μ).bind fun x μ1 => Rs.opt ((toI x).map some) μ1
def evA : A → Mu → Rs Ag
  | .v e, μ => (ev e μ).bind fun d μ1 => .ok (.v d) μ1
  | .io i, μ => match owned μ i with
    | some _ => .ok (.io i) μ
    | none => .st
def evAs : As → Mu → Rs (List Ag)
  | .nil, μ => .ok [] μ
  | .cons a as, μ => (evA a μ).bind fun x μ1 => (evAs as μ1).bind fun xs μ2 => .ok (x :: xs) μ2
def evF : FE → Mu → Rs D
  | .disp es, μ => (evs es μ).bind fun xs μ1 => .ok (.list xs) μ1
  | .comp elt t tup it c, μ => (evI it μ).bind fun xs μ1 =>
      (compL (fun d m => Rs.nox (match (wipeM t m).bind (setT t tup d) with
        | none => .st
        | some m1 => match c with
          | .none => (ev elt m1).bind fun y m2 => .ok (some y) (backL m m2 t)
          | .some e => (bitOf (ev e m1)).bind fun b m2 => match b with
            | true => (ev elt m2).bind fun y m3 => .ok (some y) (backL m m3 t)
            | false => .ok none (backL m m2 t))) xs [] (lockM (pks it) μ1)).bind fun ys μ2 => .ok (.list ys) (unlockM (pks it) μ1 μ2)
  | .listOf (.seq p), μ => ((evP p μ).bind fun x μ1 => Rs.opt (seqD0 x) μ1).bind fun xs μ1 => .ok (.list xs) μ1
  | .listOf it, μ => (evI it μ).bind fun xs μ1 => .ok (.list xs) μ1
  | .cat a b, μ => (evH a μ).bind fun x μ1 => (evH b μ1).bind fun y μ2 => catE a b x y μ2
  | .rep a b, μ => (evH a μ).bind fun x μ1 => (ev b μ1).bind fun y μ2 => repE a x y μ2
  | .call f as, μ => (evAs as μ).bind fun xs μ1 => callH (F f) xs μ1
  | .split o a, μ => (ev o μ).bind fun x μ1 => if isStrD x then (ev a μ1).bind fun y μ2 => Rs.opt (splitD x y) μ2 else .st
  | .sortedRev p, μ => (evP p μ).bind fun x μ1 => Rs.opt (sortD x) μ1
  | .dict0, μ => .ok (.dict []) μ
  | .dict2 a b c d, μ => (ev a μ).bind fun x μ1 => (ev b μ1).bind fun y μ2 => (ev c μ2).bind fun z μ3 => (ev d μ3).bind fun w μ4 => dict2E x y z w μ4
  | .dictOf a, μ => (ev a μ).bind fun x μ1 => Rs.opt (dictOfD x) μ1
def evI : I → Mu → Rs (List D)
  | .seq p, μ => (evP p μ).bind fun x μ1 => Rs.opt (seqD x) μ1
  | .rng1 a, μ => (ev a μ).bind fun x μ1 => match x with
    | .int j => if smallI j && sizeOkN j.toNat then .ok (rangeD 0 j.toNat) μ1 else .st
    | _ => .st
  | .rng2 a b, μ => (ev a μ).bind fun x μ1 => (ev b μ1).bind fun y μ2 => match x, y with
    | .int i, .int j => if smallI i && smallI j && sizeOkN (j - i).toNat then .ok (rangeD i (j - i).toNat) μ2 else .st
    | _, _ => .st
  | .rng3 a b c, μ => (ev a μ).bind fun x μ1 => (ev b μ1).bind fun y μ2 => (ev c μ2).bind fun z μ3 => match x, y, z with
    | .int i, .int j, .int c => if smallI i && smallI j && decide (c = -1) && sizeOkN (i - j).toNat then .ok (rangeC i (-1) (i - j).toNat) μ3 else .st
    | _, _, _ => .st
  | .zip a b, μ => (ev a μ).bind fun x μ1 => (ev b μ1).bind fun y μ2 => match seqD x, seqD y with
    | some xs, some ys => .ok (zipD xs ys) μ2
    | _, _ => .st
  | .enum p, μ => (evP p μ).bind fun x μ1 => match seqD0 x with
    | some xs => .ok (enumD xs) μ1
    | none => .st
  | .rev p, μ => (evP p μ).bind fun x μ1 => match seqD0 x with
    | some xs => .ok xs.reverse μ1
    | none => .st
  | .revr a, μ => (ev a μ).bind fun x μ1 => match x with
    | .int j => if smallI j && sizeOkN j.toNat then .ok (rangeC (j - 1) (-1) j.toNat) μ1 else .st
    | _ => .st
end
variable (W : Nat)
mutual
def exec : S → Mu → Rs Fl
  | .asg i e, μ => (ev F e μ).bind fun d μ1 => match setAll [i] [d] μ1 with
    | some μ2 => .ok .nx μ2
    | none => .st
  | .own i f, μ => (evF F f μ).bind fun d μ1 => if isLck μ1 i then .st else .ok .nx (μ1.set i (.own d))
  | .par i j a b, μ => (ev F a μ).bind fun x μ1 => (ev F b μ1).bind fun y μ2 => match setAll [i, j] [x, y] μ2 with
    | some μ3 => .ok .nx μ3
    | none => .st
  | .unp is e, μ => (ev F e μ).bind fun d μ1 => match setT is true d μ1 with
    | some μ2 => .ok .nx μ2
    | none => .st
  | .unpL is e, μ => (ev F e μ).bind fun d μ1 => Rs.nx (setL is d μ1)
  | .seti i k e, μ => (ev F e μ).bind fun v μ1 => if ownsA i μ1 then (ev F k μ1).bind fun y μ2 => Rs.nx (setE i y v μ2) else .st
  | .dset i k e, μ => (ev F e μ).bind fun v μ1 => if ownsA i μ1 then (ev F k μ1).bind fun y μ2 => Rs.nx (dsetE i y v μ2) else .st
  | .app i e, μ => if ownsL i μ then (ev F e μ).bind fun v μ1 => Rs.nx (appE i v μ1) else .st
  | .ext i e, μ => if ownsL i μ then (ev F e μ).bind fun v μ1 => Rs.nx (extE i v μ1) else .st
  | .ins i a b, μ => if ownsL i μ then (ev F a μ).bind fun k μ1 => (ev F b μ1).bind fun v μ2 => Rs.nx (insE i k v μ2) else .st
  | .app2 _ _ _, _ => .st
  | .ex e, μ => (ev F e μ).bind fun _ μ1 => .ok .nx μ1
  | .ife c a b, μ => (bitOf (ev F c μ)).bind fun t μ1 => match t with
    | true => execs a μ1
    | false => execs b μ1
  | .whl c b, μ => whlL (fun m => bitOf (ev F c m)) (fun m => execs b m) W μ
  | .for_ t tup it b, μ => (evI F it μ).bind fun xs μ1 => Rs.mu (unlockM (pks it) μ1) (forL (fun d m => match setT t tup d m with
      | some m1 => execs b m1
      | none => .st) xs (lockM (pks it) μ1))
  | .ret e, μ => (ev F e μ).bind fun d μ1 => .ok (.rt d) μ1
  | .retF f, μ => (evF F f μ).bind fun d μ1 => .ok (.rf d) μ1
  | .pass, μ => .ok .nx μ
  | .never, _ => .st
  | .rse c _ fs, μ => .ex ⟨c, fs⟩ μ
  | .tryC b _ j v tab, μ => catchC j v tab (execs b μ)
  | .tryX b h, μ => catchR h (execs b μ)
  | .tryL b _ j tab, μ => catchC j (.list []) tab (execs b μ)
def execs : Ss → Mu → Rs Fl
  | .nil, μ => .ok .nx μ
  | .cons s r, μ => (exec s μ).bind fun fl μ1 => match fl with
    | .nx => execs r μ1
    | fl => .ok fl μ1
  | .frz i r, μ => match frzM i μ with
    | some μ1 => execs r μ1
    | none => .st
end
end

/-! a program -/
structure Fn where
  nm : Str
  ps : List Str
  N : List Str
  io : List Nat
  body : Ss
/-- where the lent objects stand -/
def ownPos : Nat → List Sl → List Nat
  | _, [] => []
  | n, .own _ :: r => n :: ownPos (n + 1) r
  | n, _ :: r => ownPos (n + 1) r
def outsOf (io : List Nat) (μ : Mu) : Option (List D) := match io with
  | [] => some []
  | i :: r => match owned μ i, outsOf r μ with
    | some d, some ds => some (d :: ds)
    | _, _ => none
def runFn (F : Nat → List Sl → FR) (W : Nat) (fn : Fn) (args : List Sl) : FR :=
  if decide (args.length = fn.ps.length) && decide (fn.io = ownPos 0 args) then
    match execs F W fn.body (args ++ List.replicate (fn.N.length - fn.ps.length) .no) with
    | .ok fl μ => match outsOf fn.io μ with
      | some outs => match fl with
        | .nx => .ok .none outs
        | .rt d => .ok d outs
        | .rf d => .fr d outs
      | none => .st
    | .ex x μ => match outsOf fn.io μ with
      | some outs => .ex x outs
      | none => .st
    | .st => .st
  else .st
/-- what the defs give, to a depth of calls -/
def sem (P : List Fn) (W : Nat) : Nat → Nat → List Sl → FR
  | 0, _, _ => .st
  | k + 1, f, args => match P[f]? with
    | some fn => runFn (sem P W k) W fn args
    | none => .st
end Mn
set_option Elab.async false
set_option linter.all false
set_option maxRecDepth 100000
set_option autoImplicit false
namespace Mn
open PySem PySem.Spec L2

/-! ## a def's promise where no repr runs around -/
structure FnG (P : Program) (w : World) (K : PySem.W.Frag) (mg : Str → Option Value) (base : Heap) (CX : CXT) (k : Nat) (f : Addr) (fd : FuncData) (ps : List Str) (sp : Sp) : Prop where
  len : ∀ vs H Q E, sp vs H Q E → vs.length = ps.length
  run : ∀ (A : Around) (outer : List Env) (s : Shared) (H : Hp) (args : Args) (us : List Value) (vs : List V) (Q : VK) (E : XK), Room k A → A.guards = some [] → Env0 P w K mg base A outer s H →
    BindsTo s fd args (ps.zip us) → Vals vs us → sp vs H Q E → codeAny (model P w) A (.call (.ref f) args) (CR CX outer P w H s Q E) s

section
variable {P : Program} {w : World} {K : PySem.W.Frag} {mg : Str → Option Value} {base : Heap} {CX : CXT}
/-- a def by its body -/
theorem fnG_of {k : Nat} {f : Addr} {name qual : Str} {params : Arguments} {body : List Stmt} {scope : Scope} {dV kV doc pm cdv ct oc : Value} {an od : Option Addr} {osl : Array (Option Value)} {N ps : List Str} {sp : Sp}
    (lk : K.lookup f = some ⟨oc, od, .func (PySem.W.fnOf name qual params body scope dV kV doc pm an cdv ct), osl⟩) (hcd : PySem.W.codeIn K cdv qual = true) (S : FnScope N ps scope)
    (len : ∀ vs H Q E, sp vs H Q E → vs.length = ps.length)
    (hbody : ∀ (A : Around) (outer : List Env) (s : Shared) (H : Hp) (vs : List V) (Q : VK) (E : XK), Room k (A.deeper (PyProof.Rows.envOfC qual scope s.heap.objs.size f cdv)) → A.guards = some [] → sp vs H Q E →
      ∃ t, PSs (cxOf CX P w K mg base N qual scope f cdv A outer s H E) body t ∧ t { nx := fun _ H' => Q .non H', rt := Q } (L2.start N vs) H) :
    FnG P w K mg base CX (k + 1) f (PySem.W.fnOf name qual params body scope dV kV doc pm an cdv ct) ps sp where
  len := len
  run := by
    intro A outer s H args us vs Q E room hg env bind vals prom
    have inK : K.In s.heap := env.mod.kin.keeps (fun b o e => (env.bs b o e).1)
    have noLim : s.heap.NoLimit := env.mod.nolimit.keeps (fun b o e => (env.bs b o e).1)
    have kinds : ∀ y ∈ ps.zip us, scope.names.lookup y.1 = some .local ∨ (scope.names.lookup y.1 = some .cell ∧ ((cellsFrom (s.heap.objs.size + 1) scope.names []).lookup y.1).isSome = true) := by
      rintro ⟨n, v⟩ hy
      cases S.par n (List.of_mem_zip hy).1 with
      | inl q => exact .inl q
      | inr q => exact .inr ⟨q, PySem.W.cellsFrom_some _ _ _ (.inl q)⟩
    apply codeAny_call_function room.depth (inK _ _ lk) rfl S.co S.gen rfl (PySem.W.codeRec_of inK hcd)
    apply bind
    apply wpAny_newFunctionEnv_cells S.kind kinds
    intro e he s1 x
    subst he
    refine ⟨noLim.keeps x.toInCall.keep, codeAny_func ?_⟩
    obtain ⟨t, ht, hq⟩ := hbody A outer s H vs Q E (room.deeper _) hg prom
    have inv := inv_start (CX := CX) (E := E) S room.hd env (len _ _ _ _ prom) vals x
    apply wpAny_mono (ht.run [] s1 _ H _ inv hq)
    · intro fl s' hs
      cases fl with
      | ret u => obtain ⟨v, _, H', J, rv, q⟩ := hs; exact ⟨v, H', J.os, J.bare, J.base, J.hok, rv, q⟩
      | next => obtain ⟨_, H', J, q⟩ := hs; exact ⟨V.non, H', J.os, J.bare, J.base, J.hok, rfl, q⟩
      | brk => obtain ⟨_, _, _, q⟩ := hs; exact q.elim
      | cont => obtain ⟨_, _, _, q⟩ := hs; exact q.elim
    · intro e s' hs; exact hs
end
end Mn
set_option Elab.async false
set_option linter.all false
set_option maxRecDepth 100000
set_option autoImplicit false
set_option maxHeartbeats 4000000
namespace Mn
open PySem PySem.Spec L2 PyProof.Rows
/-! ## rules of the model that the layer lacks -/
/-- a tuple once: itself -/
theorem tup_once (l : Addr) (items : Array Value) (n : Nat) (dd : Option Addr) (sl : Array (Option Value)) (u : Tok) :
    Meets (Builtin.«tuple.__mul__» ⟨[.ref l, .int 1 u], []⟩) (fun _ R s => s.heap.get? l = some { cls := .type "tuple", dict := dd, data := .seq items n, slots := sl } ∧ R (.ok (.ret (.ref l))) s) :=
  .of_wp fun prog w A R s h => by
    obtain ⟨hp, g, d, tk, os⟩ := s
    obtain ⟨hl, h⟩ := h
    have f1 := AutoSeq1.idx_int
    have c1 : (items.isEmpty || (1 : Int) == 1) = true := by simp
    wp_walk using wpAny_loadPart' hl
    repeat (first
      | (refine wpAny_ite_true (decide_eq_true c1) ?_; wp_walk using wpAny_loadPart' hl)
      | (refine wpAny_ite_false (decide_eq_false (by decide)) ?_; wp_walk using wpAny_loadPart' hl))
    exact ⟨_, rfl, h⟩
/-- a tuple no times -/
theorem tup_nought (l : Addr) (items : Array Value) (n : Nat) (dd : Option Addr) (sl : Array (Option Value)) (u : Tok) (ne : items.isEmpty = false) :
    Meets (Builtin.«tuple.__mul__» ⟨[.ref l, .int 0 u], []⟩) (fun _ R s => s.heap.get? l = some { cls := .type "tuple", dict := dd, data := .seq items n, slots := sl } ∧ R (.ok (.ret (.ref s.heap.objs.size))) { s with heap := s.heap.push { cls := Value.type "tuple", data := Data.seq #[] }, toks := s.toks }) :=
  .of_wp fun prog w A R s h => by
    obtain ⟨hp, g, d, tk, os⟩ := s
    obtain ⟨hl, h⟩ := h
    have f1 := AutoSeq1.idx_int
    have c1 : ¬ (items.isEmpty || (0 : Int) == 1) = true := by rw [ne]; decide
    wp_walk using wpAny_loadPart' hl
    repeat (first
      | (refine wpAny_ite_false (decide_eq_false c1) ?_; wp_walk using wpAny_loadPart' hl)
      | (refine wpAny_ite_true (decide_eq_true (by rw [ne]; decide)) ?_; wp_walk using wpAny_loadPart' hl)
      | (refine wpAny_ite_false (decide_eq_false (by decide)) ?_; wp_walk using wpAny_loadPart' hl))
    exact ⟨_, rfl, h⟩
def rRep1 (K : PySem.W.Frag) : R2 := fun x y H Q => ∃ l xs, x = .ref l ∧ y = .int 1 ∧ SqT K H l xs ∧ Q (.ref l) H
theorem op_repT1 {X : Cx} : OpR X (binaryOp .Mult) (rRep1 X.K) := by
  rintro pins s σ H x y v u Q I rx ry ⟨l, xs, rfl, rfl, hT, q⟩
  cases rx
  obtain ⟨t, rfl⟩ := ry
  obtain ⟨its, r, ⟨⟨cls, dd, data, sl⟩, ho, hc, n, hd⟩, hs⟩ := I.tuple hT
  simp only at hc hd
  subst hc hd
  exact wpAny_binaryOp_repeat_ref (T := "tuple") (U := "int") (by decide) ⟨_, ho, rfl⟩ (fun s' => typeIs_int s' 1 t) noFill_tuple_mul F.fills_int_mul F.slot_int_rmul repeat_tuple F.slot_int_index.lookup
    (call_meets F.slot_int_rmul (typeIs_int s 1 t) F.entry_int_rmul (F.args_int_rmul_2 _ _) (int_rmul_tuple 1 t l its.toArray n dd sl)
      ⟨ho, rfl, ⟨_, ho, rfl⟩, call_meets F.slot_tuple_mul ⟨_, ho, rfl⟩ F.entry_tuple_mul (F.args_tuple_mul_2 _ _) (tup_once l its.toArray n dd sl t) ⟨ho, ⟨.ref l, H, I, rfl, q⟩⟩⟩)
/-! ### new tuples, their objects known -/
theorem objOk_tp {P : Program} {w : World} {H' : Hp} {h' : Heap} {a : Addr} {o : Obj} {its : List Value} {n : Nat} {ys : List V} (e : h'.get? a = some o) (c : o.cls = .type "tuple") (d : o.data = .seq its.toArray n) (r : Vals ys its) (z : ys.length ≤ sizeLine) : ObjOk P w H' h' a (.frz o (.tup ys)) :=
  ⟨e, z, its, r, o, e, c, n, d⟩
/-- a new tuple -/
def NewT (H : Hp) (ys : List V) (Q : VK) : Prop := ∀ p (its : Array Value) (n : Nat), H p = none → Q (.ref p) (upd H p (.frz { cls := .type "tuple", data := .seq its n } (.tup ys)))
section
variable {X : Cx} {pins : List (Addr × Obj)} {σ : L2.St} {H : Hp} {s : Shared}
/-- what is pushed is a new tuple -/
theorem ep_tup {its : List Value} {ys : List V} {Q : VK} (I : Inv X pins σ H s) (r : Vals ys its) (z : ys.length ≤ sizeLine) (q : NewT H ys Q) : EP X pins σ Q (.ref s.heap.objs.size) { s with heap := s.heap.push { cls := .type "tuple", data := .seq its.toArray } } :=
  have e : (s.heap.push { cls := .type "tuple", data := .seq its.toArray }).get? s.heap.objs.size = some { cls := .type "tuple", data := .seq its.toArray } := Heap.get?_push_size _ rfl
  ⟨.ref s.heap.objs.size, _, I.laid (t' := s.toks) (fun _ _ k => Heap.get?_push_of_some _ k) (Nat.le_refl _) (objOk_tp e rfl rfl r z), rfl, q _ _ _ (I.hok.fresh (Nat.le_refl _))⟩
def tTupE (t : TA) : TE := fun σ H Q => t σ H fun ys H1 => ys.length ≤ sizeLine ∧ NewT H1 ys Q
theorem pe_tupE {es : List Expr} {t : TA} {pos : Pos} {k : Nat} (h : PA X es t) : PE X (.Tuple es k pos) (tTupE t) :=
  ⟨fun pins s σ H Q I hq => wpAny_Tuple_spliced (thn (h.run pos pins s σ H _ I hq) fun us s1 ⟨ys, H1, I1, r, z, q⟩ => ⟨by rw [← r.length]; exact z, ep_tup I1 r z q⟩)⟩
/-- t + u -/
def rCatN (K : PySem.W.Frag) : R2 := fun x y H Q => ∃ a b xs ys, x = .ref a ∧ y = .ref b ∧ SqT K H a xs ∧ SqT K H b ys ∧ xs.length + ys.length ≤ sizeLine ∧ (xs = [] → Q (.ref b) H) ∧ (xs ≠ [] → ys = [] → Q (.ref a) H) ∧ (xs ≠ [] → ys ≠ [] → NewT H (xs ++ ys) Q)
theorem op_catN : OpR X (binaryOp .Add) (rCatN X.K) := by
  rintro pins s σ H x y v u Q I rx ry ⟨a, b, xs, ys, rfl, rfl, ta, tb, z, q0, q1, q2⟩
  cases rx; cases ry
  obtain ⟨i1, r1, p1, _⟩ := I.tuple ta
  obtain ⟨i2, r2, p2, _⟩ := I.tuple tb
  by_cases hx : xs = []
  · subst hx
    cases r1
    exact cat_tup0 p1 p2 ⟨.ref b, H, I, rfl, q0 rfl⟩
  · refine HT.cat_tup p1 p2 (fun n => hx (r1.nil_iff.mp n)) (fun n => ⟨.ref a, H, I, rfl, q1 hx (r2.nil_iff.mp n)⟩) (fun n => ?_) (by rw [← r1.length, ← r2.length]; exact z)
    exact ep_tup I (r1.append r2) (by rw [List.length_append]; exact z) (q2 hx fun m => n (r2.nil_iff.mpr m))
/-- t * n -/
def rRepN (K : PySem.W.Frag) : R2 := fun x y H Q => ∃ l k xs, x = .ref l ∧ y = .int k ∧ SqT K H l xs ∧ xs ≠ [] ∧ 2 ≤ k ∧ k ≤ 1000 ∧ xs.length ≤ 1000 ∧ NewT H (List.replicate k.toNat xs).flatten Q
theorem op_repN : OpR X (binaryOp .Mult) (rRepN X.K) := by
  rintro pins s σ H x y v u Q I rx ry ⟨l, k, xs, rfl, rfl, hT, hne, k2, k3, hz, q⟩
  cases rx
  obtain ⟨t, rfl⟩ := ry
  obtain ⟨its, r, ⟨⟨cls, dd, data, sl⟩, ho, hc, n, hd⟩, hs⟩ := I.tuple hT
  cases (show cls = .type "tuple" from hc)
  cases (show data = .seq its.toArray n from hd)
  have le : its.length = xs.length := r.length.symm
  have ne : its.toArray.isEmpty = false := by
    match its, le with
    | [], le => exact absurd (List.eq_nil_of_length_eq_zero le.symm) hne
    | _ :: _, _ => rfl
  have prod : k.toNat * xs.length ≤ 1000 * 1000 := Nat.mul_le_mul (by omega) hz
  have sz : its.toArray.size = xs.length := by rw [List.size_toArray, le]
  have prodI : ((its.toArray.size : Nat) : Int) * k ≤ 1000000 := by
    rw [sz]
    have := Int.mul_le_mul_of_nonneg_right (show ((xs.length : Nat) : Int) ≤ 1000 by omega) (show 0 ≤ k by omega)
    omega
  have fl : (List.replicate k.toNat its).flatten.length ≤ sizeLine := by rw [PyProof.Rows.lm_len_rep_flat, le, sizeLine_eq]; omega
  have m0 : (decide (k < -(2 ^ 63)) || decide (k ≥ 2 ^ 63)) = false := by simp; omega
  have m1 : (its.toArray.isEmpty || k == 1) = false := by rw [ne]; simp; omega
  have m2 : (decide (k ≤ 0) || its.toArray.isEmpty) = false := by rw [ne]; simp; omega
  have m4 : Builtin.Tuple.tupleTooMany (((its.toArray.size : Nat) : Int) * k) = false := decide_eq_false (by rw [sizeLine_eq]; omega)
  refine wpAny_binaryOp_repeat_ref (T := "tuple") (U := "int") (by decide) ⟨_, ho, rfl⟩ (fun s' => typeIs_int s' k t) noFill_tuple_mul F.fills_int_mul F.slot_int_rmul repeat_tuple F.slot_int_index.lookup (call_meets F.slot_int_rmul (typeIs_int s k t) F.entry_int_rmul (F.args_int_rmul_2 _ _) (int_rmul_tuple k t l its.toArray n dd sl) ⟨ho, rfl, ⟨_, ho, rfl⟩, call_meets F.slot_tuple_mul ⟨_, ho, rfl⟩ F.entry_tuple_mul (F.args_tuple_mul_2 _ _) (tuple_mulW l its.toArray n dd sl k t m0 m1 m2 (by omega) m4 (by rw [size_rep, List.size_toArray]; exact fl)) ⟨ho, ?_⟩⟩)
  rw [size_rep]
  exact ep_tup I (r.rep k.toNat) (by rw [PyProof.Rows.lm_len_rep_flat, sizeLine_eq]; omega) q
/-- t * 0 -/
def rRep0 (K : PySem.W.Frag) : R2 := fun x y H Q => ∃ l xs, x = .ref l ∧ y = .int 0 ∧ SqT K H l xs ∧ xs ≠ [] ∧ NewT H [] Q
theorem op_repT0 : OpR X (binaryOp .Mult) (rRep0 X.K) := by
  rintro pins s σ H x y v u Q I rx ry ⟨l, xs, rfl, rfl, hT, hne, q⟩
  cases rx
  obtain ⟨t, rfl⟩ := ry
  obtain ⟨its, r, ⟨⟨cls, dd, data, sl⟩, ho, hc, n, hd⟩, hs⟩ := I.tuple hT
  cases (show cls = .type "tuple" from hc)
  cases (show data = .seq its.toArray n from hd)
  have le : its.length = xs.length := r.length.symm
  have ne : its.toArray.isEmpty = false := by
    match its, le with
    | [], le => exact absurd (List.eq_nil_of_length_eq_zero le.symm) hne
    | _ :: _, _ => rfl
  refine wpAny_binaryOp_repeat_ref (T := "tuple") (U := "int") (by decide) ⟨_, ho, rfl⟩ (fun s' => typeIs_int s' 0 t) noFill_tuple_mul F.fills_int_mul F.slot_int_rmul repeat_tuple F.slot_int_index.lookup (call_meets F.slot_int_rmul (typeIs_int s 0 t) F.entry_int_rmul (F.args_int_rmul_2 _ _) (int_rmul_tuple 0 t l its.toArray n dd sl) ⟨ho, rfl, ⟨_, ho, rfl⟩, call_meets F.slot_tuple_mul ⟨_, ho, rfl⟩ F.entry_tuple_mul (F.args_tuple_mul_2 _ _) (tup_nought l its.toArray n dd sl t ne) ⟨ho, ?_⟩⟩)
  exact ep_tup (its := []) I .nil (Nat.zero_le _) q
/-- t[lo:hi] -/
def rSlN (K : PySem.W.Frag) : V → Option Int → Option Int → Hp → VK → Prop := fun x lo hi H Q => ∃ a xs, x = .ref a ∧ SqT K H a xs ∧ (HT.sIx xs.length 0 lo = 0 ∧ HT.sIx xs.length xs.length hi = xs.length → Q (.ref a) H) ∧ (¬ (HT.sIx xs.length 0 lo = 0 ∧ HT.sIx xs.length xs.length hi = xs.length) → NewT H (cutV xs lo hi) Q)
theorem sl_tupN : SlR X (rSlN X.K) := by
  rintro pins s σ H x v vl vu lo hi sl Q I rx hs pl pu ⟨a, xs, rfl, tx, q1, q2⟩
  cases rx
  obtain ⟨its, r, ht, hz⟩ := I.tuple tx
  have len : its.toArray.size = xs.length := by rw [List.size_toArray]; exact r.length.symm
  refine ⟨"tuple", _, PyProof.Rows.slot_tuple_getitem.lookup, ht.typeIs, ?_⟩
  by_cases hw : HT.sIx xs.length 0 lo = 0 ∧ HT.sIx xs.length xs.length hi = xs.length
  · exact getItem_tuple_whole ht hs pl pu (by rw [len]; exact hw) ⟨.ref a, H, I, rfl, q1 hw⟩
  · refine HT.getItem_tuple_cut ht hs pl pu (by rw [len]; exact hw) ?_ (by rw [len]; exact hz)
    rw [len]
    exact ep_tup I ((r.drop (HT.sIx xs.length 0 lo)).take (HT.sIx xs.length xs.length hi - HT.sIx xs.length 0 lo)) (Nat.le_trans (cutV_length xs lo hi) hz) (q2 hw)
/-- tuple(x) -/
theorem call_tupN : CallR X (.type "tuple") (fun xs H Q => ∃ p ys, xs = [.ref p] ∧ ((SqL X.K H p ys ∧ NewT H ys Q) ∨ (SqT X.K H p ys ∧ Q (.ref p) H))) := by
  rintro pins s σ H xs us Q I r ⟨p, ys, rfl, h⟩
  obtain ⟨u, rfl, rx⟩ := vals1 r
  cases rx
  rcases h with ⟨hq, q⟩ | ⟨hq, q⟩
  · obtain ⟨its, rv, pl, hz⟩ := I.list hq
    have len := rv.length
    refine call_tuple_list pl.isList (fun h' kp => ?_) (by simp only [List.size_toArray] <;> omega)
    have I1 : Inv X pins σ H { s with heap := h' } := I.kept (t' := s.toks) kp
    exact ep_tup I1 rv hz q
  · obtain ⟨its, _, pl, _⟩ := I.tuple hq
    exact call_tuple_same pl ⟨.ref p, H, I, rfl, q⟩
end
end Mn
set_option Elab.async false
set_option linter.all false
set_option maxRecDepth 100000
set_option autoImplicit false
namespace Mn
open PySem PySem.Spec L2

/-! ## judgements over the small language -/
abbrev WXm := Xc → St → Hp → Prop
/-- how a result is borne -/
abbrev Rl (α β : Type) := Ads → α → β → Hp → Prop
section
variable {α β γ δ : Type}
def Pst (K : PySem.W.Frag) (c : Ent) (L M : Ads) (W : WXm) (σ : St) (H : Hp) (R : Rl α β) (Q : β → Hp → Prop) : Rs α → Prop
  | .ok a μ' => ∀ b H', Sr K c L M μ' σ H' → Kp M H H' → R L a b H' → Q b H'
  | .ex x μ' => ∀ H', Sr K c L M μ' σ H' → Kp M H H' → W x σ H'
  | .st => False
def Tr (K : PySem.W.Frag) (W : WXm) (R : Rl α β) (r : Mu → Rs α) : St → Hp → (β → Hp → Prop) → Prop := fun σ H Q =>
  ∃ c L M μ, Sr K c L M μ σ H ∧ Pst K c L M W σ H R Q (r μ)
variable {K : PySem.W.Frag} {c : Ent} {L M : Ads} {W : WXm} {σ : St} {H H1 : Hp} {R : Rl α β} {R2 : Rl γ δ} {Q : β → Hp → Prop} {Q2 : δ → Hp → Prop}
theorem Pst.up {r : Rs α} (k : Kp M H H1) (p : Pst K c L M W σ H R Q r) : Pst K c L M W σ H1 R Q r := by
  cases r with
  | ok a μ => exact fun b H' S k' h => p b H' S (k.trans k') h
  | ex x μ => exact fun H' S k' => p H' S (k.trans k')
  | st => exact p
theorem Pst.bind {r : Rs α} {k : α → Mu → Rs γ} (p : Pst K c L M W σ H R2 Q2 (r.bind k))
    (g : ∀ a μ1 b H1, Sr K c L M μ1 σ H1 → Kp M H H1 → R L a b H1 → Pst K c L M W σ H1 R2 Q2 (k a μ1) → Q b H1) : Pst K c L M W σ H R Q r := by
  cases r with
  | ok a μ => exact fun b H' S k' h => g a μ b H' S k' h (Pst.up k' p)
  | ex x μ => exact p
  | st => exact p
theorem Pst.bindE {r : Rs α} {k : α → Mu → Rs γ} (p : Pst K c L M W σ H R2 Q2 (r.bind k))
    (g : ∀ a μ1 b H1, r = .ok a μ1 → Sr K c L M μ1 σ H1 → Kp M H H1 → R L a b H1 → Pst K c L M W σ H1 R2 Q2 (k a μ1) → Q b H1) : Pst K c L M W σ H R Q r := by
  cases r with
  | ok a μ => exact fun b H' S k' h => g a μ b H' rfl S k' h (Pst.up k' p)
  | ex x μ => exact p
  | st => exact p
theorem Pst.opt {o : Option γ} {μ : Mu} (p : Pst K c L M W σ H R2 Q2 (Rs.opt o μ)) : ∃ a, o = some a ∧ ∀ b H', Sr K c L M μ σ H' → Kp M H H' → R2 L a b H' → Q2 b H' := by
  cases o with
  | none => exact p.elim
  | some a => exact ⟨a, rfl, p⟩
end
theorem Sr.peek {K : PySem.W.Frag} {c : Ent} {L M : Ads} {μ : Mu} {σ : St} {H : Hp} (S : Sr K c L M μ σ H) {i : Nat} {d : D} (e : Mn.peek μ i = some d) :
    ∃ v, σ[i]? = some (some v) ∧ (Dv K H L d v ∨ ∃ a, v = .ref a ∧ OwnAt K H L d a) := by
  unfold Mn.peek at e
  split at e
  · rename_i d' h; cases e
    obtain ⟨v, e1, e2⟩ := S.val i d h
    exact ⟨v, e1, .inl e2⟩
  · rename_i d' h; cases e
    obtain ⟨v, e1, e2, _⟩ := S.own i d h
    exact ⟨_, e1, .inr ⟨_, rfl, e2⟩⟩
  · rename_i d' h; cases e
    obtain ⟨v, e1, e2, _⟩ := S.lck i d h
    exact ⟨_, e1, .inr ⟨_, rfl, e2⟩⟩
  · cases e
def rD (K : PySem.W.Frag) : Rl D V := fun L d v H => Dv K H L d v
def rDs (K : PySem.W.Frag) : Rl (List D) (List V) := fun L d v H => Dvs K H L d v
/-- a value, or an object that a slot holds -/
def Dw (K : PySem.W.Frag) (H : Hp) (L : Ads) (d : D) (v : V) : Prop := Dv K H L d v ∨ ∃ a, v = .ref a ∧ OwnAt K H L d a
def rW (K : PySem.W.Frag) : Rl D V := fun L d v H => Dw K H L d v
def rB : Rl Bool Bool := fun _ a b _ => a = b
def rO : Rl (Option Int) (Option Int) := fun _ a b _ => a = b

section
variable {X : Cx}
theorem pe_mono {e : Expr} {t t' : TE} (h : PE X e t) (i : ∀ σ H Q, t' σ H Q → t σ H Q) : PE X e t' := ⟨fun pins s σ H Q I q => h.run pins s σ H Q I (i σ H Q q)⟩
theorem pt_mono {e : Expr} {t t' : TT} (h : PT X e t) (i : ∀ σ H Q, t' σ H Q → t σ H Q) : PT X e t' := ⟨fun pins s σ H Q I q => h.run pins s σ H Q I (i σ H Q q)⟩
theorem pw_mono {e : Expr} {t t' : TT} (h : PW X e t) (i : ∀ σ H Q, t' σ H Q → t σ H Q) : PW X e t' := ⟨fun wh pins s σ H Q I q => h.run wh pins s σ H Q I (i σ H Q q)⟩
theorem pa_mono {e : List Expr} {t t' : TA} (h : PA X e t) (i : ∀ σ H Q, t' σ H Q → t σ H Q) : PA X e t' := ⟨fun pos pins s σ H Q I q => h.run pos pins s σ H Q I (i σ H Q q)⟩
theorem ps_mono {e : Stmt} {t t' : TS} (h : PS X e t) (i : ∀ D σ H, t' D σ H → t D σ H) : PS X e t' := ⟨fun pins s σ H D I q => h.run pins s σ H D I (i D σ H q)⟩
theorem pss_mono {e : List Stmt} {t t' : TS} (h : PSs X e t) (i : ∀ D σ H, t' D σ H → t D σ H) : PSs X e t' := ⟨fun pins s σ H D I q => h.run pins s σ H D I (i D σ H q)⟩
theorem pi_mono {tg e : Expr} {t t' : TI} (h : PI X tg e t) (i : ∀ σ H Q, t' σ H Q → t σ H Q) : PI X tg e t' := ⟨fun pins s σ H Q I q => h.run pins s σ H Q I (i σ H Q q)⟩
end

abbrev JE (X : Cx) (W : WXm) (e : Expr) (r : Mu → Rs D) : Prop := PE X e (Tr X.K W (rD X.K) r)
abbrev JP (X : Cx) (W : WXm) (e : Expr) (r : Mu → Rs D) : Prop := PE X e (Tr X.K W (rW X.K) r)
abbrev JT (X : Cx) (W : WXm) (e : Expr) (r : Mu → Rs Bool) : Prop := PT X e (Tr X.K W rB r)
abbrev JA (X : Cx) (W : WXm) (es : List Expr) (r : Mu → Rs (List D)) : Prop := PA X es (Tr X.K W (rDs X.K) r)

section
variable {K : PySem.W.Frag} {c : Ent} {L L' M : Ads} {μ : Mu} {σ : St} {H H1 : Hp}
theorem Dw.keep {d : D} {v : V} {H' : Hp} (w : Dv K H L d v) (k : Kp M H H') (ml : ∀ a, M a → L a) : Dv K H' L d v := w.keep (k.mono ml)
theorem Sr.dk {d : D} {v : V} (S : Sr K c L M μ σ H1) (w : Dv K H L d v) (k : Kp M H H1) : Dv K H1 L d v := w.keep (k.mono S.ml)
theorem Sr.dks {d : List D} {v : List V} (S : Sr K c L M μ σ H1) (w : Dvs K H L d v) (k : Kp M H H1) : Dvs K H1 L d v := w.keep (k.mono S.ml)
/-- a new tuple -/
theorem Sr.newTup (S : Sr K c L M μ σ H) {ds : List D} {vs : List V} {p : Addr} (its : Array Value) (m : Nat) (w : Dvs K H L ds vs) (n : H p = none) :
    Sr K c L M μ σ (upd H p (.frz { cls := .type "tuple", data := .seq its m } (.tup vs))) ∧ Kp M H (upd H p (.frz { cls := .type "tuple", data := .seq its m } (.tup vs))) ∧ Dv K (upd H p (.frz { cls := .type "tuple", data := .seq its m } (.tup vs))) L (.tuple ds) (.ref p) :=
  ⟨S.laid n, Kp.laid n, .tup (S.free n) ⟨its, m, upd_same⟩ (w.keep (Kp.laid n))⟩
theorem Sr.newLst (S : Sr K c L M μ σ H) {ds : List D} {vs : List V} {p : Addr} (w : Dvs K H L ds vs) (n : H p = none) :
    Sr K c L M μ σ (upd H p (.lst vs)) ∧ Kp M H (upd H p (.lst vs)) ∧ Dv K (upd H p (.lst vs)) L (.list ds) (.ref p) :=
  ⟨S.laid n, Kp.laid n, .lst (S.free n) (.inl upd_same) (w.keep (Kp.laid n))⟩
theorem Dw.lst {ds : List D} {v : V} (w : Dw K H L (.list ds) v) : ∃ a vs, v = .ref a ∧ SqL K H a vs ∧ Dvs K H L ds vs := by
  rcases w with w | ⟨a, rfl, w⟩
  · exact w.list
  · rcases w with ⟨_, vs, e, h, r⟩ | ⟨_, _, e, _⟩
    · cases e; exact ⟨a, vs, rfl, .inl (.inl h), r⟩
    · cases e
theorem Dw.tup {ds : List D} {v : V} (w : Dw K H L (.tuple ds) v) : ∃ a vs, v = .ref a ∧ SqT K H a vs ∧ Dvs K H L ds vs := by
  rcases w with w | ⟨a, rfl, w⟩
  · exact w.tuple
  · rcases w with ⟨_, vs, e, h, r⟩ | ⟨_, _, e, _⟩
    · cases e
    · cases e
theorem Dw.sc {d : D} {v : V} (w : Dw K H L d v) (h : ∀ ds, d ≠ .list ds) (h2 : ∀ ds, d ≠ .dict ds) : Dv K H L d v := by
  rcases w with w | ⟨a, rfl, w⟩
  · exact w
  · rcases w with ⟨_, vs, e, _⟩ | ⟨_, _, e, _⟩
    · exact absurd e (h _)
    · exact absurd e (h2 _)
theorem Dw.dp {d : D} {v : V} (w : Dw K H L d v) (n : PyData.plain d = true) : Dp K H v d := by
  rcases w with w | ⟨a, rfl, w⟩
  · exact w.dp n
  · rcases w with ⟨_, vs, rfl, h, r⟩ | ⟨_, _, rfl, _⟩
    · exact .lst (.inl (.inl h)) (r.dp n)
    · cases n
end

section
variable {X : Cx} {W : WXm} {e a b : Expr} {pos : Pos}
/-! ### names, constants -/
theorem je_var {i : Nat} {x : Str} (hN : X.N[i]? = some x) (hv : Vis X.env.scope x) (hd : (x == ("__debug__" : Str)) = false) (hcd : (x == ("__classdict__" : Str)) = false) :
    JE X W (.Name x pos) fun μ => Rs.opt (look μ i) μ := by
  refine pe_mono (pe_var (i := i) hN hv hd hcd) fun σ H Q ⟨c, L, M, μ, S, p⟩ => ?_
  obtain ⟨d, e, q⟩ := p.opt
  unfold look at e
  split at e
  · rename_i d' h
    cases e
    obtain ⟨v, e1, e2⟩ := S.val i d h
    exact ⟨v, e1, q v H S .refl e2⟩
  · cases e
theorem jp_pk {i : Nat} {x : Str} (hN : X.N[i]? = some x) (hv : Vis X.env.scope x) (hd : (x == ("__debug__" : Str)) = false) (hcd : (x == ("__classdict__" : Str)) = false) :
    JP X W (.Name x pos) fun μ => Rs.opt (peek μ i) μ := by
  refine pe_mono (pe_var (i := i) hN hv hd hcd) fun σ H Q ⟨c, L, M, μ, S, p⟩ => ?_
  obtain ⟨d, e, q⟩ := p.opt
  unfold peek at e
  split at e
  · rename_i d' h
    cases e
    obtain ⟨v, e1, e2⟩ := S.val i d h
    exact ⟨v, e1, q v H S .refl (.inl e2)⟩
  · rename_i d' h
    cases e
    obtain ⟨v, e1, e2, _⟩ := S.own i d h
    exact ⟨_, e1, q _ H S .refl (.inr ⟨_, rfl, e2⟩)⟩
  · rename_i d' h
    cases e
    obtain ⟨v, e1, e2, _⟩ := S.lck i d h
    exact ⟨_, e1, q _ H S .refl (.inr ⟨_, rfl, e2⟩)⟩
  · cases e
theorem je_int {i : Int} {j : Nat} : JE X W (.Constant (.int i) j pos) fun μ => .ok (.int i) μ := pe_mono pe_int fun _ _ _ ⟨_, _, _, _, S, p⟩ => p _ _ S .refl (.int i)
theorem je_bl {i : Bool} {j : Nat} : JE X W (.Constant (.bool i) j pos) fun μ => .ok (.bool i) μ := pe_mono pe_bl fun _ _ _ ⟨_, _, _, _, S, p⟩ => p _ _ S .refl (.bl i)
theorem je_str {i : Str} {j : Nat} : JE X W (.Constant (.str i) j pos) fun μ => .ok (.str i) μ := pe_mono pe_str fun _ _ _ ⟨_, _, _, _, S, p⟩ => p _ _ S .refl (.str i)
theorem je_non {j : Nat} : JE X W (.Constant .none j pos) fun μ => .ok .none μ := pe_mono pe_non fun _ _ _ ⟨_, _, _, _, S, p⟩ => p _ _ S .refl .non
/-- a constant of the module -/
theorem je_glob {x : Str} {d : D} {v : V} {u : Value} (hg : Gl X x) (hm : X.mg x = some u) (r : RelV v u) (hd : (x == ("__debug__" : Str)) = false) (w : Dv X.K (fun _ => none) (fun _ => False) d v) (n : ∀ H L, Dv X.K H L d v) :
    JE X W (.Name x pos) fun μ => .ok d μ := pe_mono (pe_glob hg hm r hd) fun _ H _ ⟨_, L, _, _, S, p⟩ => p _ _ S .refl (n H L)
/-- what is a value may be looked at -/
theorem JE.jp {r : Mu → Rs D} (h : JE X W e r) : JP X W e r := pe_mono h fun σ H Q ⟨c, L, M, μ, S, p⟩ => ⟨c, L, M, μ, S, by
  cases h : r μ with
  | ok d μ' => rw [h] at p; exact fun b H' S' k' w => p b H' S' k' (.inl w)
  | ex x μ' => rw [h] at p; exact p
  | st => rw [h] at p; exact p⟩
end

/-! ### two operands -/
/-- an operation on data -/
def rOp (K : PySem.W.Frag) (g : D → D → Option D) : R2 := fun x y H Q => ∃ c L M μ σ d e z, Sr K c L M μ σ H ∧ Dv K H L d x ∧ Dv K H L e y ∧ g d e = some z ∧ ∀ v H', Sr K c L M μ σ H' → Kp M H H' → Dv K H' L z v → Q v H'
section
variable {X : Cx} {W : WXm} {a b : Expr} {pos : Pos} {ra rb : Mu → Rs D}
theorem je_op {op : Operator} {g : D → D → Option D} (ho : OpR X (binaryOp op) (rOp X.K g)) (ha : JE X W a ra) (hb : JE X W b rb) :
    JE X W (.BinOp a op b pos) fun μ => (ra μ).bind fun x μ1 => (rb μ1).bind fun y μ2 => Rs.opt (g x y) μ2 := by
  refine pe_mono (pe_op ho ha hb) fun σ H Q ⟨c, L, M, μ, S, p⟩ => ⟨c, L, M, μ, S, p.bind fun x μ1 v H1 S1 k1 d1 p1 => ⟨c, L, M, μ1, S1, p1.bind fun y μ2 w H2 S2 k2 d2 p2 => ?_⟩⟩
  obtain ⟨z, e, q⟩ := p2.opt
  exact ⟨c, L, M, μ2, σ, x, y, z, S2, S2.dk d1 k2, d2, e, q⟩
/-- from a rule on values -/
theorem opR_imp {f : Value → Value → Sem Value} {r r' : R2} (h : OpR X f r) (i : ∀ x y H Q, r' x y H Q → r x y H Q) : OpR X f r' := fun pins s σ H x y v u Q I rx ry q => h pins s σ H x y v u Q I rx ry (i x y H Q q)
theorem opR_by {f : Value → Value → Sem Value} {r' : R2} (h : ∀ x y H Q, r' x y H Q → ∃ r, OpR X f r ∧ r x y H Q) : OpR X f r' := fun pins s σ H x y v u Q I rx ry q =>
  let ⟨r, h1, h2⟩ := h x y H Q q
  h1 pins s σ H x y v u Q I rx ry h2
theorem sizeOkN_of {n : Nat} (h : sizeOkN n = true) : n ≤ sizeLine := by
  have e : sizeLine = 16777216 := by decide
  rw [e]; exact of_decide_eq_true h
theorem Dvs.nil_inv {K : PySem.W.Frag} {H : Hp} {L : Ads} {xs : List D} (h : Dvs K H L xs []) : xs = [] := by cases h; rfl
/-- a list, its object known -/
def SqE (K : PySem.W.Frag) (H : Hp) (a : Addr) (xs : List V) : Prop := Rd H a (.lst xs) ∨ WrL K a xs
theorem Dv.listE {K : PySem.W.Frag} {H : Hp} {L : Ads} {ds : List D} {v : V} (h : Dv K H L (.list ds) v) : ∃ a vs, v = .ref a ∧ SqE K H a vs ∧ Dvs K H L ds vs := by
  cases h with
  | lst n r s => exact ⟨_, _, rfl, .inl r, s⟩
  | lstK w s => exact ⟨_, _, rfl, .inr w, s⟩
theorem inv_sqE {pins : List (Addr × Obj)} {σ : St} {H : Hp} {s : Shared} {a : Addr} {xs : List V} (I : Inv X pins σ H s) (h : SqE X.K H a xs) : xs.length ≤ sizeLine ∧ ∃ (its : List Value) (n : Nat), Vals xs its ∧ xs.length = its.length ∧ s.heap.get? a = some { cls := .type "list", data := .seq its.toArray n } := by
  rcases h with h | ⟨its, n, h1, h2, h3⟩
  · obtain ⟨z, its, n, r, e⟩ := h.ok I.hok
    exact ⟨z, its, n, r, r.length, e⟩
  · have e := I.kIn a _ h1
    have l := h3.length
    refine ⟨by rw [l, Array.length_toList]; exact h2, its.toList, n, h3, l, ?_⟩
    rw [Array.toArray_toList]; exact e
def rCatE (K : PySem.W.Frag) : R2 := fun x y H Q => ∃ l b xs zs, x = .ref l ∧ y = .ref b ∧ SqE K H l xs ∧ SqE K H b zs ∧ xs.length + zs.length ≤ sizeLine ∧ ∀ p, H p = none → Q (.ref p) (upd H p (.lst (xs ++ zs)))
theorem op_catE : OpR X (binaryOp .Add) (rCatE X.K) := by
  intro pins s σ H x y v u Q I rx ry h
  obtain ⟨l, b, xs, zs, rfl, rfl, sx, sy, lz, q⟩ := h
  cases rx; cases ry
  obtain ⟨_, i1, n1, r1, l1, e1⟩ := inv_sqE I sx
  obtain ⟨_, i2, n2, r2, l2, e2⟩ := inv_sqE I sy
  refine PySem.P.add_list e1 e2 ?_ (by rw [List.size_toArray, List.size_toArray]; omega)
  rw [show i1.toArray ++ i2.toArray = (i1 ++ i2).toArray by simp]
  exact ⟨.ref _, _, I.lnew (t' := s.toks) (r1.append r2) (by rw [List.length_append]; omega), rfl, q _ I.fresh⟩
theorem bin_add : OpR X (binaryOp .Add) (rOp X.K addD) := opR_by fun x y H Q ⟨c, L, M, μ, σ, d, e, z, S, hx, hy, hg, q⟩ => by
  unfold addD at hg
  split at hg
  · cases hg; cases hx; cases hy; exact ⟨_, op_add, _, _, rfl, rfl, q _ _ S .refl (.int _)⟩
  · split at hg
    · rename_i h; cases hg; cases hx; cases hy
      exact ⟨_, op_add_str, _, _, rfl, rfl, sizeOkN_of h, q _ _ S .refl (.str _)⟩
    · cases hg
  · split at hg
    · rename_i h; cases hg
      obtain ⟨a, vs, rfl, sa, wa⟩ := hx.tuple
      obtain ⟨b, ws, rfl, sb, wb⟩ := hy.tuple
      have hl : vs.length + ws.length ≤ sizeLine := by rw [← wa.length, ← wb.length]; exact sizeOkN_of h
      refine ⟨_, op_catN, a, b, vs, ws, rfl, rfl, sa, sb, hl, fun e => ?_, fun _ e => ?_, fun _ _ p ti tn hp => ?_⟩
      · subst e
        rw [wa.nil_inv, List.nil_append] at q; exact q _ _ S .refl hy
      · subst e
        rw [wb.nil_inv, List.append_nil] at q; exact q _ _ S .refl hx
      · obtain ⟨h1, h2, h3⟩ := S.newTup ti tn (wa.append wb) hp
        exact q _ _ h1 h2 h3
    · cases hg
  · split at hg
    · rename_i h; cases hg
      obtain ⟨a, vs, rfl, sa, wa⟩ := hx.listE
      obtain ⟨b, ws, rfl, sb, wb⟩ := hy.listE
      have hl : vs.length + ws.length ≤ sizeLine := by rw [← wa.length, ← wb.length]; exact sizeOkN_of h
      refine ⟨_, op_catE, a, b, vs, ws, rfl, rfl, sa, sb, hl, fun p hp => ?_⟩
      obtain ⟨h1, h2, h3⟩ := S.newLst (wa.append wb) hp
      exact q _ _ h1 h2 h3
    · cases hg
  · cases hg
theorem bin_sub : OpR X (binaryOp .Sub) (rOp X.K subD) := opR_by fun x y H Q ⟨c, L, M, μ, σ, d, e, z, S, hx, hy, hg, q⟩ => by
  unfold subD at hg
  split at hg
  · cases hg; cases hx; cases hy; exact ⟨_, op_sub, _, _, rfl, rfl, q _ _ S .refl (.int _)⟩
  · cases hg
theorem bin_mod : OpR X (binaryOp .Mod) (rOp X.K modD) := opR_by fun x y H Q ⟨c, L, M, μ, σ, d, e, z, S, hx, hy, hg, q⟩ => by
  unfold modD at hg
  split at hg
  · split at hg
    · rename_i h; cases hg; cases hx; cases hy; exact ⟨_, op_modN, _, _, rfl, rfl, of_decide_eq_true h, q _ _ S .refl (.int _)⟩
    · cases hg
  · cases hg
theorem bin_pow : OpR X (binaryOp .Pow) (rOp X.K powD) := opR_by fun x y H Q ⟨c, L, M, μ, σ, d, e, z, S, hx, hy, hg, q⟩ => by
  unfold powD at hg
  split at hg
  · split at hg
    · rename_i h; cases hg; cases hx; cases hy
      simp only [Bool.and_eq_true, decide_eq_true_eq] at h
      exact ⟨_, op_pow, _, _, rfl, rfl, ⟨h.1.1, h.1.2, h.2⟩, q _ _ S .refl (.int _)⟩
    · cases hg
  · cases hg
theorem op_fdivX : OpR X (binaryOp .FloorDiv) (rI (fun _ j => divOk j = true) fun i j => .int (i.fdiv j)) := opI fun i j _ _ _ _ _ hc q => by
  unfold divOk at hc
  simp only [Bool.and_eq_true, decide_eq_true_eq] at hc
  exact PyProof.Rows.floordiv_int hc.1 q (.inl (PyProof.noPylong_of_log2 (by omega)))
theorem bin_fdiv : OpR X (binaryOp .FloorDiv) (rOp X.K fdivD) := opR_by fun x y H Q ⟨c, L, M, μ, σ, d, e, z, S, hx, hy, hg, q⟩ => by
  unfold fdivD at hg
  split at hg
  · split at hg
    · rename_i h; cases hg; cases hx; cases hy
      exact ⟨_, op_fdivX, _, _, rfl, rfl, h, q _ _ S .refl (.int _)⟩
    · cases hg
  · cases hg
theorem bin_mul : OpR X (binaryOp .Mult) (rOp X.K mulD) := opR_by fun x y H Q ⟨c, L, M, μ, σ, d, e, z, S, hx, hy, hg, q⟩ => by
  unfold mulD at hg
  split at hg
  · split at hg
    · rename_i h; cases hg; cases hx; cases hy
      unfold mulOk at h
      have h' := of_decide_eq_true h
      exact ⟨_, op_mulW, _, _, rfl, rfl, h', q _ _ S .refl (.int _)⟩
    · cases hg
  · rename_i xs j
    split at hg
    · rename_i h; cases hg; cases hy
      simp only [Bool.and_eq_true, decide_eq_true_eq] at h
      obtain ⟨a, vs, rfl, sa, wa⟩ := hx.tuple
      have hne : vs ≠ [] := fun z => by
        subst z
        rw [wa.nil_inv] at h
        simp at h
      by_cases hj : j = 1
      · subst hj
        have e1 : (List.replicate (1 : Int).toNat xs).flatten = xs := by simp
        rw [e1] at q
        exact ⟨_, op_repT1, a, vs, rfl, rfl, sa, q _ _ S .refl hx⟩
      · by_cases hj0 : j = 0
        · subst hj0
          refine ⟨_, op_repT0, a, vs, rfl, rfl, sa, hne, fun p ti tn hp => ?_⟩
          obtain ⟨h1, h2, h3⟩ := S.newTup ti tn (wa.flat 0) hp
          exact q _ _ h1 h2 h3
        refine ⟨_, op_repN, a, j, vs, rfl, rfl, sa, hne, by omega, by omega, by rw [← wa.length]; omega, fun p ti tn hp => ?_⟩
        obtain ⟨h1, h2, h3⟩ := S.newTup ti tn (wa.flat j.toNat) hp
        exact q _ _ h1 h2 h3
    · cases hg
  · cases hg
def bop : BOp → Operator
  | .add => .Add
  | .sub => .Sub
  | .mul => .Mult
  | .fdiv => .FloorDiv
  | .mod => .Mod
  | .pow => .Pow
theorem bin_all (op : BOp) : OpR X (binaryOp (bop op)) (rOp X.K (binD op)) := by
  cases op
  · exact bin_add
  · exact bin_sub
  · exact bin_mul
  · exact bin_fdiv
  · exact bin_mod
  · exact bin_pow
theorem je_bin {op : BOp} (ha : JE X W a ra) (hb : JE X W b rb) :
    JE X W (.BinOp a (bop op) b pos) fun μ => (ra μ).bind fun x μ1 => (rb μ1).bind fun y μ2 => Rs.opt (binD op x y) μ2 := je_op (bin_all op) ha hb
theorem je_neg (ha : JE X W a ra) : JE X W (.UnaryOp .USub a pos) fun μ => (ra μ).bind fun x μ1 => Rs.opt ((toI x).map fun i => .int (-i)) μ1 := by
  refine pe_mono (pe_un un_neg ha) fun σ H Q ⟨c, L, M, μ, S, p⟩ => ⟨c, L, M, μ, S, p.bind fun x μ1 v H1 S1 k1 d1 p1 => ?_⟩
  obtain ⟨z, e, q⟩ := p1.opt
  unfold toI at e
  split at e
  · cases e; cases d1; exact ⟨_, rfl, q _ _ S1 .refl (.int _)⟩
  · cases e
end

/-! ### comparisons -/
section
variable {X : Cx} {W : WXm} {a b : Expr} {pos : Pos} {ra rb : Mu → Rs D}
theorem Dw.reads {pins : List (Addr × Obj)} {σ : St} {H : Hp} {s : Shared} {L : Ads} {d : D} {v : V} {u : Value} (I : Inv X pins σ H s) (w : Dw X.K H L d v) (hp : d.plain = true) (r : RelV v u) : ∃ as, Reads s.heap u d as :=
  Dp.reads I d v u (w.dp hp) r
/-- a comparison on data -/
def rCmp (K : PySem.W.Frag) (g : D → D → Option Bool) : R2 := fun x y H Q => ∃ L d e z, Dw K H L d x ∧ Dw K H L e y ∧ g d e = some z ∧ Q (.bl z) H
theorem eqD_some {d e : D} {z : Bool} (h : eqD d e = some z) : d.plain = true ∧ e.plain = true ∧ min d.depth e.depth ≤ 60 ∧ z = PyData.eqv d e := by
  unfold eqD at h
  split at h
  · rename_i q
    simp only [Bool.and_eq_true, decide_eq_true_eq] at q
    cases h
    exact ⟨q.1.1, q.1.2, q.2, rfl⟩
  · cases h
theorem ltOk_of {d e : D} (h : ltOk d e = true) : d.plain = true ∧ e.plain = true ∧ PySem.W.alike d e = true ∧ d ≠ .none ∧ min d.depth e.depth ≤ 60 := by
  unfold ltOk at h
  simp only [Bool.and_eq_true, decide_eq_true_eq] at h
  obtain ⟨⟨⟨⟨h1, h2⟩, h3⟩, h4⟩, h5⟩ := h
  refine ⟨h1, h2, h3, fun z => ?_, h5⟩
  subst z
  simp [isNone] at h4
theorem map_some {o : Option Bool} {z : Bool} (h : o.map (!·) = some z) : ∃ w, o = some w ∧ z = !w := by
  cases o with
  | none => cases h
  | some w => exact ⟨w, rfl, (Option.some.inj h).symm⟩
theorem cmp_eq (hu : X.A.units + 64 < cLine) : OpR X (compareOp .Eq) (rCmp X.K eqD) := by
  rintro pins s σ H x y v u Q I rx ry ⟨L, d, e, z, hx, hy, hg, q⟩
  obtain ⟨h1, h2, h3, rfl⟩ := eqD_some hg
  obtain ⟨as, r1⟩ := hx.reads I h1 rx
  obtain ⟨bs, r2⟩ := hy.reads I h2 ry
  exact SeqAt.eq_plain r1 r2 h1 h2 (by omega) ⟨.bl _, H, I, rfl, q⟩
theorem cmp_ne (hu : X.A.units + 64 < cLine) : OpR X (compareOp .NotEq) (rCmp X.K fun x y => (eqD x y).map (!·)) := by
  rintro pins s σ H x y v u Q I rx ry ⟨L, d, e, z, hx, hy, hg, q⟩
  obtain ⟨w, hw, rfl⟩ := map_some hg
  obtain ⟨h1, h2, h3, rfl⟩ := eqD_some hw
  obtain ⟨as, r1⟩ := hx.reads I h1 rx
  obtain ⟨bs, r2⟩ := hy.reads I h2 ry
  exact SeqAt.ne_plain r1 r2 h1 h2 (by omega) ⟨.bl _, H, I, rfl, q⟩
theorem cmp_lt (hu : X.A.units + 64 < cLine) : OpR X (compareOp .Lt) (rCmp X.K ltD) := by
  rintro pins s σ H x y v u Q I rx ry ⟨L, d, e, z, hx, hy, hg, q⟩
  unfold ltD at hg
  split at hg
  · rename_i h; cases hg
    obtain ⟨h1, h2, h3, h4, h5⟩ := ltOk_of h
    obtain ⟨as, r1⟩ := hx.reads I h1 rx
    obtain ⟨bs, r2⟩ := hy.reads I h2 ry
    exact PySem.W.lt_data r1 r2 h3 h4 (by omega) ⟨.bl _, H, I, rfl, q⟩
  · cases hg
theorem cmp_gt (hu : X.A.units + 64 < cLine) : OpR X (compareOp .Gt) (rCmp X.K gtD) := by
  rintro pins s σ H x y v u Q I rx ry ⟨L, d, e, z, hx, hy, hg, q⟩
  unfold gtD at hg
  split at hg
  · rename_i h; cases hg
    obtain ⟨h1, h2, h3, h4, h5⟩ := ltOk_of h
    obtain ⟨as, r1⟩ := hx.reads I h1 rx
    obtain ⟨bs, r2⟩ := hy.reads I h2 ry
    exact PySem.W.gt_data r1 r2 h3 h4 (by omega) ⟨.bl _, H, I, rfl, q⟩
  · cases hg
theorem cmp_le (hu : X.A.units + 64 < cLine) : OpR X (compareOp .LtE) (rCmp X.K leD) := by
  rintro pins s σ H x y v u Q I rx ry ⟨L, d, e, z, hx, hy, hg, q⟩
  unfold leD at hg
  split at hg
  · rename_i h; cases hg
    obtain ⟨h1, h2, h3, h4, h5⟩ := ltOk_of h
    obtain ⟨as, r1⟩ := hx.reads I h1 rx
    obtain ⟨bs, r2⟩ := hy.reads I h2 ry
    exact PySem.W.le_data r1 r2 h3 h4 (by omega) ⟨.bl _, H, I, rfl, q⟩
  · cases hg
theorem cmp_ge (hu : X.A.units + 64 < cLine) : OpR X (compareOp .GtE) (rCmp X.K geD) := by
  rintro pins s σ H x y v u Q I rx ry ⟨L, d, e, z, hx, hy, hg, q⟩
  unfold geD at hg
  split at hg
  · rename_i h; cases hg
    obtain ⟨h1, h2, h3, h4, h5⟩ := ltOk_of h
    obtain ⟨as, r1⟩ := hx.reads I h1 rx
    obtain ⟨bs, r2⟩ := hy.reads I h2 ry
    exact PySem.W.ge_data r1 r2 h3 h4 (by omega) ⟨.bl _, H, I, rfl, q⟩
  · cases hg
theorem Dw.none {H : Hp} {L : Ads} {x : V} (h : Dw X.K H L .none x) : x = .non := by
  have := h.sc (by simp) (by simp); cases this; rfl
theorem Dw.bool {H : Hp} {L : Ads} {x : V} {b : Bool} (h : Dw X.K H L (.bool b) x) : x = .bl b := by
  have := h.sc (by simp) (by simp); cases this; rfl
theorem Dw.ne_non {H : Hp} {L : Ads} {d : D} {x : V} (h : Dw X.K H L d x) (n : d ≠ .none) : x ≠ .non := by
  rintro rfl
  rcases h with h | ⟨a, h, _⟩
  · cases h; exact n rfl
  · cases h
theorem cmp_is : OpR X (compareOp .Is) (rCmp X.K isD) := opR_by fun x y H Q ⟨L, d, e, z, hx, hy, hg, q⟩ => by
  unfold isD at hg
  split at hg
  all_goals (try cases hg)
  · obtain rfl := hx.none; obtain rfl := hy.none; exact ⟨_, op_isN, rfl, q⟩
  · obtain rfl := hy.none; exact ⟨_, op_isN, rfl, by rw [decide_eq_false (hx.ne_non (by simp))]; exact q⟩
  · obtain rfl := hy.none; exact ⟨_, op_isN, rfl, by rw [decide_eq_false (hx.ne_non (by simp))]; exact q⟩
  · obtain rfl := hy.none; exact ⟨_, op_isN, rfl, by rw [decide_eq_false (hx.ne_non (by simp))]; exact q⟩
  · obtain rfl := hy.none; exact ⟨_, op_isN, rfl, by rw [decide_eq_false (hx.ne_non (by simp))]; exact q⟩
  · obtain rfl := hy.none; exact ⟨_, op_isN, rfl, by rw [decide_eq_false (hx.ne_non (by simp))]; exact q⟩
  · obtain rfl := hx.bool; obtain rfl := hy.bool; exact ⟨_, op_is_bl, _, _, rfl, rfl, q⟩
theorem cmp_isnot : OpR X (compareOp .IsNot) (rCmp X.K fun x y => (isD x y).map (!·)) := opR_by fun x y H Q ⟨L, d, e, z, hx, hy, hg, q⟩ => by
  obtain ⟨w, hw, rfl⟩ := map_some hg
  unfold isD at hw
  split at hw
  all_goals (try cases hw)
  · obtain rfl := hx.none; obtain rfl := hy.none; exact ⟨_, op_notN, rfl, q⟩
  · obtain rfl := hy.none; exact ⟨_, op_notN, rfl, by rw [decide_eq_false (hx.ne_non (by simp))]; exact q⟩
  · obtain rfl := hy.none; exact ⟨_, op_notN, rfl, by rw [decide_eq_false (hx.ne_non (by simp))]; exact q⟩
  · obtain rfl := hy.none; exact ⟨_, op_notN, rfl, by rw [decide_eq_false (hx.ne_non (by simp))]; exact q⟩
  · obtain rfl := hy.none; exact ⟨_, op_notN, rfl, by rw [decide_eq_false (hx.ne_non (by simp))]; exact q⟩
  · obtain rfl := hy.none; exact ⟨_, op_notN, rfl, by rw [decide_eq_false (hx.ne_non (by simp))]; exact q⟩
  · obtain rfl := hx.bool; obtain rfl := hy.bool; exact ⟨_, op_isnot_bl, _, _, rfl, rfl, q⟩
theorem inD_some {x y : D} {z : Bool} (h : inD x y = some z) : (∃ a b, x = .str a ∧ y = .str b ∧ z = inS a b) ∨ ∃ ys, (y = .list ys ∨ y = .tuple ys) ∧ x.plain = true ∧ PyData.plainAll ys = true ∧ x.depth ≤ 60 ∧ z = ys.any fun y => PyData.eqv y x := by
  unfold inD at h
  split at h
  · split at h
    · rename_i q; cases h
      simp only [Bool.and_eq_true, decide_eq_true_eq] at q
      exact .inr ⟨_, .inl rfl, q.1.1, q.1.2, q.2, rfl⟩
    · cases h
  · split at h
    · rename_i q; cases h
      simp only [Bool.and_eq_true, decide_eq_true_eq] at q
      exact .inr ⟨_, .inr rfl, q.1.1, q.1.2, q.2, rfl⟩
    · cases h
  · split at h
    · cases h; exact .inl ⟨_, _, rfl, rfl, rfl⟩
    · cases h
  · cases h
theorem cmp_in (hu : X.A.units + 64 < cLine) : OpR X (compareOp .In) (rCmp X.K inD) := by
  rintro pins s σ H x y v u Q I rx ry ⟨L, d, e, z, hx, hy, hg, q⟩
  rcases inD_some hg with ⟨a, b, rfl, rfl, rfl⟩ | ⟨ys, he, h1, h2, h3, rfl⟩
  · have e1 := hx.sc (by simp) (by simp)
    have e2 := hy.sc (by simp) (by simp)
    cases e1; cases e2
    exact op_in_str pins s σ H _ _ v u Q I rx ry ⟨a, b, rfl, rfl, q⟩
  obtain ⟨as, r1⟩ := hx.reads I h1 rx
  rcases he with rfl | rfl
  · obtain ⟨bs, r2⟩ := hy.reads I h2 ry
    exact SeqAt.in_list_data r2 r1 h2 h1 (by omega) ⟨.bl _, H, I, rfl, q⟩
  · obtain ⟨bs, r2⟩ := hy.reads I h2 ry
    exact SeqAt.in_tuple_data r2 r1 h2 h1 (by omega) ⟨.bl _, H, I, rfl, q⟩
theorem cmp_notin (hu : X.A.units + 64 < cLine) : OpR X (compareOp .NotIn) (rCmp X.K fun x y => (inD x y).map (!·)) := by
  rintro pins s σ H x y v u Q I rx ry ⟨L, d, e, z, hx, hy, hg, q⟩
  obtain ⟨w, hw, rfl⟩ := map_some hg
  rcases inD_some hw with ⟨a, b, rfl, rfl, rfl⟩ | ⟨ys, he, h1, h2, h3, rfl⟩
  · have e1 := hx.sc (by simp) (by simp)
    have e2 := hy.sc (by simp) (by simp)
    cases e1; cases e2
    exact op_notin_str pins s σ H _ _ v u Q I rx ry ⟨a, b, rfl, rfl, q⟩
  obtain ⟨as, r1⟩ := hx.reads I h1 rx
  rcases he with rfl | rfl
  · obtain ⟨bs, r2⟩ := hy.reads I h2 ry
    exact SeqAt.notIn_list_data r2 r1 h2 h1 (by omega) ⟨.bl _, H, I, rfl, q⟩
  · obtain ⟨bs, r2⟩ := hy.reads I h2 ry
    exact SeqAt.notIn_tuple_data r2 r1 h2 h1 (by omega) ⟨.bl _, H, I, rfl, q⟩
def cop : COp → CmpOp
  | .eq => .Eq | .ne => .NotEq | .lt => .Lt | .le => .LtE | .gt => .Gt | .ge => .GtE | .isin => .In | .notin => .NotIn | .isn => .Is | .isnot => .IsNot
theorem cmp_all (hu : X.A.units + 64 < cLine) (op : COp) : OpR X (compareOp (cop op)) (rCmp X.K (cmpD op)) := by
  cases op
  · exact cmp_eq hu
  · exact cmp_ne hu
  · exact cmp_lt hu
  · exact cmp_le hu
  · exact cmp_gt hu
  · exact cmp_ge hu
  · exact cmp_in hu
  · exact cmp_notin hu
  · exact cmp_is
  · exact cmp_isnot
end
end Mn
set_option Elab.async false
set_option linter.all false
set_option maxRecDepth 100000
set_option autoImplicit false
namespace Mn
open PySem PySem.Spec L2

/-! ### arguments without a star -/
def isStar : Expr → Bool
  | .Starred _ _ => true
  | _ => false
theorem starEach_cons {e : Expr} (h : isStar e = false) (es : List Expr) (env : Env) : starEach (e :: es) env = (false, eval e env) :: starEach es env := by
  cases e <;> first | rfl | (exact absurd h (by simp [isStar]))
theorem starEach_plain : ∀ (es : List Expr) (env : Env), es.all (fun e => !isStar e) = true → (starEach es env).any (·.1) = false
  | [], _, _ => rfl
  | e :: es, env, h => by
    simp only [List.all_cons, Bool.and_eq_true, Bool.not_eq_true'] at h
    rw [starEach_cons h.1, List.any_cons, starEach_plain es env h.2]; rfl
theorem backTo_any {pos : Pos} : ∀ (l : List (Bool × Sem Value)), (backTo pos l).any (·.1) = l.any (·.1)
  | [] => rfl
  | x :: r => by
    have ih := backTo_any (pos := pos) r
    first
      | (simp only [backTo, List.map_cons, List.any_cons] at *; rw [ih])
      | (simp [backTo])
theorem backTo_plain {pos : Pos} {es : List Expr} {env : Env} (h : es.all (fun e => !isStar e) = true) : (backTo pos (starEach es env)).any (·.1) = false := by
  rw [backTo_any]; exact starEach_plain es env h

section
variable {X : Cx} {W : WXm} {a b e : Expr} {es : List Expr} {pos p : Pos} {ra rb : Mu → Rs D} {rs : Mu → Rs (List D)}
theorem ja_nil : JA X W [] fun μ => .ok [] μ := pa_mono pa_nil fun _ _ _ ⟨_, _, _, _, S, p⟩ => p _ _ S .refl .nil
theorem ja_cons (ha : JE X W e ra) (hr : JA X W es rs) (hs : isStar e = false) : JA X W (e :: es) fun μ => (ra μ).bind fun x μ1 => (rs μ1).bind fun xs μ2 => .ok (x :: xs) μ2 := by
  refine pa_mono (pa_cons ha hr (starEach_cons hs _ _)) fun σ H Q ⟨c, L, M, μ, S, p⟩ => ⟨c, L, M, μ, S, p.bind fun x μ1 v H1 S1 k1 d1 p1 => ⟨c, L, M, μ1, S1, p1.bind fun y μ2 w H2 S2 k2 d2 p2 => ?_⟩⟩
  exact p2 _ _ S2 .refl (.cons (S2.dk d1 k2) d2)
theorem small_line {n : Nat} (h : n ≤ 1000) : n ≤ sizeLine := Nat.le_trans h (by decide)
theorem je_tup {k : Nat} (h : JA X W es rs) (hz : ∀ μ xs μ', rs μ = .ok xs μ' → xs.length ≤ 1000) : JE X W (.Tuple es k pos) fun μ => (rs μ).bind fun xs μ1 => .ok (.tuple xs) μ1 := by
  refine pe_mono (pe_tupE h) fun σ H Q ⟨c, L, M, μ, S, p⟩ => ⟨c, L, M, μ, S, p.bindE fun x μ1 v H1 e S1 k1 d1 p1 => ⟨?_, fun p ti tn hp => ?_⟩⟩
  · have d1 : Dvs X.K H1 L x v := d1
    rw [← d1.length]; exact small_line (hz _ _ _ e)
  · obtain ⟨h1, h2, h3⟩ := S1.newTup ti tn d1 hp
    exact p1 _ _ h1 h2 h3

/-! ### new lists: borne alone -/
/-- a new list at a, that nothing else holds -/
def rF (K : PySem.W.Frag) (d : D) (L : Ads) (a : Addr) (H : Hp) : Prop := (∃ ds vs, d = .list ds ∧ H a = some (.lst vs) ∧ Dvs K H (plusA L a) ds vs) ∨ (∃ es xs, d = .dict es ∧ IsDct H a xs ∧ Dvk K H (plusA L a) es xs)
def Pf (K : PySem.W.Frag) (c : Ent) (L M : Ads) (W : WXm) (σ : St) (H : Hp) (Q : VK) : Rs D → Prop
  | .ok d μ' => ∀ a H', Sr K c L M μ' σ H' → Sr K c (plusA L a) M μ' σ H' → Kp M H H' → ¬ L a → (∀ b, H a = some b → False) → rF K d L a H' → Q (.ref a) H'
  | .ex x μ' => ∀ H', Sr K c L M μ' σ H' → Kp M H H' → W x σ H'
  | .st => False
def Tf (K : PySem.W.Frag) (W : WXm) (r : Mu → Rs D) : TE := fun σ H Q => ∃ c L M μ, Sr K c L M μ σ H ∧ Pf K c L M W σ H Q (r μ)
abbrev JF (X : Cx) (W : WXm) (e : Expr) (r : Mu → Rs D) : Prop := PE X e (Tf X.K W r)
theorem plus_sub {L : Ads} {a b : Addr} (h : L b) : plusA L a b := .inl h
theorem rF.dv {K : PySem.W.Frag} {d : D} {L : Ads} {a : Addr} {H : Hp} (f : rF K d L a H) (n : ¬ L a) : Dv K H L d (.ref a) := by
  rcases f with ⟨ds, vs, rfl, h1, h2⟩ | ⟨es, kvs, rfl, h1, h2⟩
  · exact .lst n (.inl h1) (h2.anti fun _ h => .inl h)
  · exact .dct n h1 (h2.anti fun _ h => .inl h)
/-- a new list is a value -/
theorem JF.je {r : Mu → Rs D} (h : JF X W e r) : JE X W e r := pe_mono h fun σ H Q ⟨c, L, M, μ, S, p⟩ => ⟨c, L, M, μ, S, by
  cases h : r μ with
  | ok d μ' => rw [h] at p; exact fun a H' S1 S2 k n _ f => p _ _ S1 k (f.dv n)
  | ex x μ' => rw [h] at p; exact p
  | st => rw [h] at p; exact p⟩
theorem Pst.bindF {K : PySem.W.Frag} {c : Ent} {L M : Ads} {W : WXm} {σ : St} {H : Hp} {α β : Type} {R : Rl α β} {Q : β → Hp → Prop} {Q2 : VK} {r : Rs α} {k : α → Mu → Rs D} (p : Pf K c L M W σ H Q2 (r.bind k))
    (g : ∀ a μ1 b H1, r = .ok a μ1 → Sr K c L M μ1 σ H1 → Kp M H H1 → R L a b H1 → Pf K c L M W σ H1 Q2 (k a μ1) → Q b H1) (hn : ∀ a H', (∀ b, H' a = some b → False) → Kp M H H' → (∀ a, M a → L a) → ¬ L a → ∀ b, H a = some b → False := by
      intro a H' n k ml nl b e; exact n b (k a b e fun m => nl (ml a m))) : Pst K c L M W σ H R Q r := by
  cases r with
  | ok a μ =>
    intro b H' S k' h
    refine g a μ b H' rfl S k' h ?_
    have p' : Pf K c L M W σ H Q2 (k a μ) := p
    cases h2 : k a μ with
    | ok d μ2 =>
      rw [h2] at p'
      intro a' H2 S1 S2 k2 n nh f
      exact p' a' H2 S1 S2 (k'.trans k2) n (hn a' H' nh k' S.ml n) f
    | ex x μ2 => rw [h2] at p'; intro H2 S1 k2; exact p' H2 S1 (k'.trans k2)
    | st => rw [h2] at p'; exact p'
  | ex x μ => exact p
  | st => exact p
theorem Sr.newF {K : PySem.W.Frag} {c : Ent} {L M : Ads} {μ : Mu} {σ : St} {H : Hp} (S : Sr K c L M μ σ H) {ds : List D} {vs : List V} {p : Addr} (w : Dvs K H L ds vs) (n : H p = none) :
    Sr K c L M μ σ (upd H p (.lst vs)) ∧ Sr K c (plusA L p) M μ σ (upd H p (.lst vs)) ∧ Kp M H (upd H p (.lst vs)) ∧ ¬ L p ∧ (∀ b, H p = some b → False) ∧ rF K (.list ds) L p (upd H p (.lst vs)) :=
  ⟨S.laid n, S.plus n, Kp.laid n, S.free n, (fun b e => by rw [n] at e; cases e), .inl ⟨ds, vs, rfl, upd_same, (w.plus n).keep (Kp.laid n)⟩⟩
theorem jf_disp (h : JA X W es rs) (hz : ∀ μ xs μ', rs μ = .ok xs μ' → xs.length ≤ 1000) : JF X W (.List es pos) fun μ => (rs μ).bind fun xs μ1 => .ok (.list xs) μ1 := by
  refine pe_mono (pe_lst h) fun σ H Q ⟨c, L, M, μ, S, p⟩ => ⟨c, L, M, μ, S, Pst.bindF p fun x μ1 v H1 e S1 k1 d1 p1 => ⟨?_, fun p hp => ?_⟩⟩
  · have d1 : Dvs X.K H1 L x v := d1
    rw [← d1.length]; exact small_line (hz _ _ _ e)
  · obtain ⟨h1, h2, h3, h4, h5, h6⟩ := S1.newF d1 hp
    exact p1 _ _ h1 h2 h3 h4 h5 h6
end

/-! ### tests -/
section
variable {X : Cx} {W : WXm} {a b e : Expr} {es : List Expr} {pos p : Pos} {ra rb : Mu → Rs D}
/-- a bool as a test, where the test asks the value -/
theorem jt_val (h : JE X W e ra) (he : ∀ whole, isTrue e X.env whole = (do let v ← whole; standAt e.pos; holding [v] (truthy v))) : JT X W e fun μ => bitOf (ra μ) := by
  refine pt_mono (pt_val h he) fun σ H Q ⟨c, L, M, μ, S, p⟩ => ⟨c, L, M, μ, S, p.bind fun x μ1 v H1 S1 k1 d1 p1 => ?_⟩
  obtain ⟨z, e, q⟩ := p1.opt
  unfold toB at e
  split at e
  · cases e; cases d1; exact ⟨_, rfl, q _ _ S1 .refl rfl⟩
  · cases e
theorem Pst.bits {K : PySem.W.Frag} {c : Ent} {L M : Ads} {σ : St} {H : Hp} {γ δ : Type} {R2 : Rl γ δ} {Q : VK} {Q2 : δ → Hp → Prop} {r : Rs D} {k : Bool → Mu → Rs γ} (p : Pst K c L M W σ H R2 Q2 ((bitOf r).bind k))
    (g : ∀ b μ1 H1, Sr K c L M μ1 σ H1 → Kp M H H1 → Pst K c L M W σ H1 R2 Q2 (k b μ1) → Q (.bl b) H1) : Pst K c L M W σ H (rD K) Q r := by
  cases r with
  | ok d μ1 =>
    intro v H1 S1 k1 d1
    have p1 : Pst K c L M W σ H R2 Q2 ((Rs.opt (toB d) μ1).bind k) := p
    unfold toB at p1
    split at p1
    · cases d1; exact g _ _ _ S1 k1 (Pst.up k1 p1)
    · exact p1.elim
  | ex x μ1 => exact p
  | st => exact p
/-- a test as a bool -/
theorem Tr.bits {K : PySem.W.Frag} {r : Mu → Rs Bool} {σ : St} {H : Hp} {Q : VK} (h : Tr K W (rD K) (fun μ => (r μ).bind fun b μ1 => .ok (.bool b) μ1) σ H Q) : Tr K W rB r σ H (fun b H' => Q (.bl b) H') := by
  obtain ⟨c, L, M, μ, S, p⟩ := h
  exact ⟨c, L, M, μ, S, p.bind fun b μ1 v H1 S1 k1 d1 p1 => by cases d1; exact p1 _ _ S1 .refl (.bl b)⟩
theorem jt_not {r : Mu → Rs Bool} (h : JT X W e r) : JT X W (.UnaryOp .Not e pos) fun μ => (r μ).bind fun b μ1 => .ok (!b) μ1 :=
  pt_mono (pt_not h) fun σ H Q ⟨c, L, M, μ, S, p⟩ => ⟨c, L, M, μ, S, p.bind fun x μ1 v H1 S1 k1 d1 p1 => by cases d1; exact p1 _ _ S1 .refl rfl⟩
theorem je_not (h : JE X W e ra) : JE X W (.UnaryOp .Not e pos) fun μ => (bitOf (ra μ)).bind fun b μ1 => .ok (.bool (!b)) μ1 :=
  pe_mono (pe_not h) fun σ H Q ⟨c, L, M, μ, S, p⟩ => ⟨c, L, M, μ, S, Pst.bits p fun b μ1 H1 S1 k1 p1 => ⟨b, rfl, p1 _ _ S1 .refl (.bl _)⟩⟩
/-- and, or: the rest of the operands -/
def andR (r : Mu → Rs Bool) (rs : Mu → Rs Bool) : Mu → Rs Bool := fun μ => (r μ).bind fun b μ1 => match b with
  | true => rs μ1
  | false => .ok false μ1
def orR (r : Mu → Rs Bool) (rs : Mu → Rs Bool) : Mu → Rs Bool := fun μ => (r μ).bind fun b μ1 => match b with
  | true => .ok true μ1
  | false => rs μ1
theorem jw_and {r rs : Mu → Rs Bool} (h : JT X W a r) (hr : PW X (.BoolOp .And (b :: es) pos) (Tr X.K W rB rs)) : PW X (.BoolOp .And (a :: b :: es) pos) (Tr X.K W rB (andR r rs)) :=
  pw_mono (pw_and h hr) fun σ H Q ⟨c, L, M, μ, S, p⟩ => ⟨c, L, M, μ, S, Pst.bind p fun x μ1 v H1 S1 k1 d1 p1 => by
    cases d1
    cases x with
    | true => rw [if_pos rfl]; exact ⟨c, L, M, μ1, S1, p1⟩
    | false => rw [if_neg Bool.false_ne_true]; exact p1 _ _ S1 .refl rfl⟩
theorem jw_or {r rs : Mu → Rs Bool} (h : JT X W a r) (hr : PW X (.BoolOp .Or (b :: es) pos) (Tr X.K W rB rs)) : PW X (.BoolOp .Or (a :: b :: es) pos) (Tr X.K W rB (orR r rs)) :=
  pw_mono (pw_or h hr) fun σ H Q ⟨c, L, M, μ, S, p⟩ => ⟨c, L, M, μ, S, Pst.bind p fun x μ1 v H1 S1 k1 d1 p1 => by
    cases d1
    cases x with
    | true => rw [if_pos rfl]; exact p1 _ _ S1 .refl rfl
    | false => rw [if_neg Bool.false_ne_true]; exact ⟨c, L, M, μ1, S1, p1⟩⟩
/-- the same as values: only bools -/
theorem je_bit (h : JE X W e ra) : JE X W e fun μ => (bitOf (ra μ)).bind fun b μ1 => .ok (.bool b) μ1 :=
  pe_mono h fun σ H Q ⟨c, L, M, μ, S, p⟩ => ⟨c, L, M, μ, S, Pst.bits p fun b μ1 H1 S1 k1 p1 => p1 _ _ S1 .refl (.bl _)⟩
theorem je_and {rs : Mu → Rs D} (h : JE X W a ra) (hr : JE X W (.BoolOp .And (b :: es) pos) rs) :
    JE X W (.BoolOp .And (a :: b :: es) pos) fun μ => (bitOf (ra μ)).bind fun b μ1 => match b with
      | true => rs μ1
      | false => .ok (.bool false) μ1 :=
  pe_mono (pe_and h hr) fun σ H Q ⟨c, L, M, μ, S, p⟩ => ⟨c, L, M, μ, S, Pst.bits p fun b μ1 H1 S1 k1 p1 => by
    cases b with
    | true => exact ⟨true, rfl, by rw [if_pos rfl]; exact ⟨c, L, M, μ1, S1, p1⟩⟩
    | false => exact ⟨false, rfl, by rw [if_neg Bool.false_ne_true]; exact p1 _ _ S1 .refl (.bl _)⟩⟩
theorem je_or {rs : Mu → Rs D} (h : JE X W a ra) (hr : JE X W (.BoolOp .Or (b :: es) pos) rs) :
    JE X W (.BoolOp .Or (a :: b :: es) pos) fun μ => (bitOf (ra μ)).bind fun b μ1 => match b with
      | true => .ok (.bool true) μ1
      | false => rs μ1 :=
  pe_mono (pe_or h hr) fun σ H Q ⟨c, L, M, μ, S, p⟩ => ⟨c, L, M, μ, S, Pst.bits p fun b μ1 H1 S1 k1 p1 => by
    cases b with
    | true => exact ⟨true, rfl, by rw [if_pos rfl]; exact p1 _ _ S1 .refl (.bl _)⟩
    | false => exact ⟨false, rfl, by rw [if_neg Bool.false_ne_true]; exact ⟨c, L, M, μ1, S1, p1⟩⟩⟩
theorem je_ife {cnd : Expr} {r : Mu → Rs Bool} (hc : JT X W cnd r) (ha : JE X W a ra) (hb : JE X W b rb) :
    JE X W (.IfExp cnd a b pos) fun μ => (r μ).bind fun t μ1 => match t with
      | true => ra μ1
      | false => rb μ1 :=
  pe_mono (pe_ifExp hc ha hb) fun σ H Q ⟨c, L, M, μ, S, p⟩ => ⟨c, L, M, μ, S, Pst.bind p fun x μ1 v H1 S1 k1 d1 p1 => by
    cases d1
    cases x with
    | true => rw [if_pos rfl]; exact ⟨c, L, M, μ1, S1, p1⟩
    | false => rw [if_neg Bool.false_ne_true]; exact ⟨c, L, M, μ1, S1, p1⟩⟩
/-! ### comparisons -/
def cmpR (op : COp) (ra rb : Mu → Rs D) : Mu → Rs D := fun μ => (ra μ).bind fun x μ1 => (rb μ1).bind fun y μ2 => Rs.opt ((cmpD op x y).map .bool) μ2
theorem cmp_bool {op : COp} {x y z : D} (h : (cmpD op x y).map PyData.bool = some z) : ∃ b, cmpD op x y = some b ∧ z = .bool b := by
  cases q : cmpD op x y with
  | none => rw [q] at h; cases h
  | some b => rw [q] at h; cases h; exact ⟨b, rfl, rfl⟩
theorem tr_cmp {op : COp} {σ : St} {H : Hp} {Q : VK} (h : Tr X.K W (rD X.K) (cmpR op ra rb) σ H Q) :
    tOp (rCmp X.K (cmpD op)) (Tr X.K W (rD X.K) ra) (Tr X.K W (rW X.K) rb) σ H Q := by
  obtain ⟨c, L, M, μ, S, p⟩ := h
  refine ⟨c, L, M, μ, S, Pst.bind p fun x μ1 v H1 S1 k1 d1 p1 => ⟨c, L, M, μ1, S1, p1.bind fun y μ2 w H2 S2 k2 d2 p2 => ?_⟩⟩
  obtain ⟨z, e, q⟩ := p2.opt
  obtain ⟨bb, e1, rfl⟩ := cmp_bool e
  exact ⟨L, x, y, bb, .inl (S2.dk d1 k2), d2, e1, q _ _ S2 .refl (.bl _)⟩
theorem je_cmp {op : COp} (hu : X.A.units + 64 < cLine) (ha : JE X W a ra) (hb : JP X W b rb) (hm : behindInMarks (cop op) b = false) : JE X W (.Compare a [cop op] [b] pos) (cmpR op ra rb) :=
  pe_mono (pe_cmpR (cmp_all hu op) ha hb hm) fun σ H Q h => tr_cmp h
theorem jt_cmp {op : COp} (hu : X.A.units + 64 < cLine) (ha : JE X W a ra) (hb : JP X W b rb) (hm : behindInMarks (cop op) b = false) : JT X W (.Compare a [cop op] [b] pos) fun μ => bitOf (cmpR op ra rb μ) := by
  refine pt_mono (pt_cmpR (cmp_all hu op) ha hb hm) fun σ H Q ⟨c, L, M, μ, S, p⟩ => tr_cmp ⟨c, L, M, μ, S, ?_⟩
  refine Pst.bind p fun x μ1 v H1 S1 k1 d1 p1 => ?_
  obtain ⟨z, e, q⟩ := p1.opt
  unfold toB at e
  split at e
  · cases e; cases d1; exact ⟨_, rfl, q _ _ S1 .refl rfl⟩
  · cases e
/-- the first operand a slot's own object -/
def cmpK (op : COp) (i : Nat) (rb : Mu → Rs D) : Mu → Rs D := fun μ => (Rs.opt (peek μ i) μ).bind fun _ μ1 => (rb μ1).bind fun y μ2 => Rs.opt ((peek μ2 i).bind fun x' => (cmpD op x' y).map .bool) μ2
theorem tr_cmpK {op : COp} {i : Nat} {σ : St} {H : Hp} {Q : VK} (h : Tr X.K W (rD X.K) (cmpK op i rb) σ H Q) :
    tOp (rCmp X.K (cmpD op)) (tVar i) (Tr X.K W (rW X.K) rb) σ H Q := by
  obtain ⟨c, L, M, μ, S, p⟩ := h
  unfold cmpK at p
  cases hp : peek μ i with
  | none => rw [hp] at p; exact p.elim
  | some d0 =>
    rw [hp] at p
    obtain ⟨v, hv, _⟩ := S.peek hp
    refine ⟨v, hv, c, L, M, μ, S, Pst.bind p fun y μ2 w H2 S2 k2 d2 p2 => ?_⟩
    obtain ⟨z, e, q⟩ := p2.opt
    cases hp2 : peek μ2 i with
    | none => rw [hp2] at e; cases e
    | some d1 =>
      rw [hp2] at e
      obtain ⟨bb, e1, rfl⟩ := cmp_bool (show (cmpD op d1 y).map PyData.bool = some z from e)
      obtain ⟨v', hv', w'⟩ := S2.peek hp2
      have : v = v' := by rw [hv] at hv'; exact Option.some.inj (Option.some.inj hv')
      subst this
      exact ⟨L, d1, y, bb, w', d2, e1, q _ _ S2 .refl (.bl _)⟩
theorem je_cmpK {op : COp} {i : Nat} {x : Str} {p1 : Pos} (hu : X.A.units + 64 < cLine) (hN : X.N[i]? = some x) (hv : Vis X.env.scope x) (hd : (x == ("__debug__" : Str)) = false) (hcd : (x == ("__classdict__" : Str)) = false) (hb : JP X W b rb) (hm : behindInMarks (cop op) b = false) :
    JE X W (.Compare (.Name x p1) [cop op] [b] pos) (cmpK op i rb) := pe_mono (pe_cmpR (cmp_all hu op) (pe_var (i := i) hN hv hd hcd) hb hm) fun σ H Q h => tr_cmpK h
theorem jt_cmpK {op : COp} {i : Nat} {x : Str} {p1 : Pos} (hu : X.A.units + 64 < cLine) (hN : X.N[i]? = some x) (hv : Vis X.env.scope x) (hd : (x == ("__debug__" : Str)) = false) (hcd : (x == ("__classdict__" : Str)) = false) (hb : JP X W b rb) (hm : behindInMarks (cop op) b = false) :
    JT X W (.Compare (.Name x p1) [cop op] [b] pos) fun μ => bitOf (cmpK op i rb μ) := by
  refine pt_mono (pt_cmpR (cmp_all hu op) (pe_var (i := i) hN hv hd hcd) hb hm) fun σ H Q ⟨c, L, M, μ, S, p⟩ => tr_cmpK ⟨c, L, M, μ, S, ?_⟩
  refine Pst.bind p fun x μ1 v H1 S1 k1 d1 p1 => ?_
  obtain ⟨z, e, q⟩ := p1.opt
  unfold toB at e
  split at e
  · cases e; cases d1; exact ⟨_, rfl, q _ _ S1 .refl rfl⟩
  · cases e
end
end Mn
set_option Elab.async false
set_option linter.all false
set_option maxRecDepth 100000
set_option autoImplicit false
namespace Mn
open PySem PySem.Spec L2
section
variable {X : Cx} {W : WXm} {a b e : Expr} {es : List Expr} {pos p : Pos} {ra rb : Mu → Rs D}
/-! ### subscripts -/
def rIxX (K : PySem.W.Frag) : R2 := fun x y H Q => ∃ L d e z, Dw K H L d x ∧ Dv K H L e y ∧ ixD d e = some z ∧ ∀ v, Dv K H L z v → Q v H
theorem atI_get {K : PySem.W.Frag} {H : Hp} {L : Ads} {ds : List D} {vs : List V} {i : Int} {z : D} (w : Dvs K H L ds vs) (h : atI ds i = some z) : ∃ v, atI vs i = some v ∧ Dv K H L z v := by
  unfold atI at h ⊢
  rw [← w.length]
  cases q : ixN ds.length i with
  | none => rw [q] at h; cases h
  | some j => rw [q] at h; exact w.getD h
theorem ix_all : IxR X (rIxX X.K) := by
  intro value slice pins s σ H x y v u Q I rx ry ⟨L, d, e, z, hx, hy, hg, q⟩ hs
  unfold ixD at hg
  split at hg
  · obtain ⟨a, vs, rfl, sa, wa⟩ := hx.lst
    cases hy
    obtain ⟨w, h1, h2⟩ := atI_get wa hg
    exact ix_list value slice pins s σ H _ _ v u Q I rx ry ⟨a, vs, _, w, rfl, rfl, sa, h1, q w h2⟩ hs
  · obtain ⟨a, vs, rfl, sa, wa⟩ := hx.tup
    cases hy
    obtain ⟨w, h1, h2⟩ := atI_get wa hg
    exact ix_tup value slice pins s σ H _ _ v u Q I rx ry ⟨a, vs, _, w, rfl, rfl, sa, h1, q w h2⟩ hs
  · rename_i zz i
    split at hg
    · rename_i hz
      have e1 := hx.sc (by simp) (by simp)
      cases e1; cases hy
      cases hc : atI zz.cps.toList i with
      | none => rw [hc] at hg; cases hg
      | some c =>
        rw [hc] at hg; cases hg
        exact ix_str value slice pins s σ H _ _ v u Q I rx ry ⟨zz, i, c, rfl, rfl, sizeOkN_of hz, hc, q _ (.str _)⟩ hs
    · cases hg
  · cases hg
def isSlice : Expr → Bool
  | .Slice _ _ _ _ => true
  | _ => false
theorem plainIx_of {b : Expr} (h : isSlice b = false) : PlainIx b := fun o i => by
  cases b <;> first | rfl | (exact absurd h (by simp [isSlice]))
theorem je_ix (ha : JE X W a ra) (hb : JE X W b rb) (hs : isSlice b = false) : JE X W (.Subscript a b pos) fun μ => (ra μ).bind fun x μ1 => (rb μ1).bind fun y μ2 => Rs.opt (ixD x y) μ2 := by
  refine pe_mono (pe_ix ix_all ha hb (plainIx_of hs)) fun σ H Q ⟨c, L, M, μ, S, p⟩ => ⟨c, L, M, μ, S, p.bind fun x μ1 v H1 S1 k1 d1 p1 => ⟨c, L, M, μ1, S1, p1.bind fun y μ2 w H2 S2 k2 d2 p2 => ?_⟩⟩
  obtain ⟨z, e, q⟩ := p2.opt
  exact ⟨L, x, y, z, .inl (S2.dk d1 k2), d2, e, fun v hv => q _ _ S2 .refl hv⟩
/-- of a slot's own object -/
theorem je_ixK {i : Nat} {x : Str} {p1 : Pos} (hN : X.N[i]? = some x) (hv : Vis X.env.scope x) (hd : (x == ("__debug__" : Str)) = false) (hcd : (x == ("__classdict__" : Str)) = false) (hb : JE X W b rb) (hs : isSlice b = false) :
    JE X W (.Subscript (.Name x p1) b pos) fun μ => (Rs.opt (peek μ i) μ).bind fun _ μ1 => (rb μ1).bind fun y μ2 => Rs.opt ((peek μ2 i).bind fun x' => ixD x' y) μ2 := by
  refine pe_mono (pe_ix ix_all (pe_var (i := i) hN hv hd hcd) hb (plainIx_of hs)) fun σ H Q ⟨c, L, M, μ, S, p⟩ => ?_
  cases hp : peek μ i with
  | none => simp only [hp] at p; exact p.elim
  | some d0 =>
    simp only [hp] at p
    obtain ⟨v, hv, _⟩ := S.peek hp
    refine ⟨v, hv, c, L, M, μ, S, Pst.bind (k := fun y μ2 => Rs.opt ((peek μ2 i).bind fun x' => ixD x' y) μ2) p fun y μ2 w H2 S2 k2 d2 p2 => ?_⟩
    obtain ⟨z, e, q⟩ := p2.opt
    cases hp2 : peek μ2 i with
    | none => rw [hp2] at e; cases e
    | some d1 =>
      rw [hp2] at e
      obtain ⟨v', hv', w'⟩ := S2.peek hp2
      have : v = v' := by rw [hv] at hv'; exact Option.some.inj (Option.some.inj hv')
      subst this
      exact ⟨L, d1, y, z, w', d2, e, fun v hv => q _ _ S2 .refl hv⟩
/-! ### slices -/
abbrev JO (X : Cx) (W : WXm) (e : Option Expr) (r : Mu → Rs (Option Int)) : Prop := PO X e (Tr X.K W rO r)
theorem po_mono {e : Option Expr} {t t' : TO} (h : PO X e t) (i : ∀ σ H Q, t' σ H Q → t σ H Q) : PO X e t' := ⟨fun pins s σ H Q I q => h.run pins s σ H Q I (i σ H Q q)⟩
theorem jo_none : JO X W none fun μ => .ok none μ := po_mono po_none fun _ _ _ ⟨_, _, _, _, S, p⟩ => p _ _ S .refl rfl
theorem jo_some (h : JE X W e ra) : JO X W (some e) fun μ => (ra μ).bind fun x μ1 => Rs.opt ((toI x).map some) μ1 := by
  refine po_mono (po_some h) fun σ H Q ⟨c, L, M, μ, S, p⟩ => ⟨c, L, M, μ, S, p.bind fun x μ1 v H1 S1 k1 d1 p1 => ?_⟩
  obtain ⟨z, e, q⟩ := p1.opt
  unfold toI at e
  split at e
  · cases e; cases d1; exact ⟨_, rfl, q _ _ S1 .refl rfl⟩
  · cases e
theorem cut_dvs {K : PySem.W.Frag} {H : Hp} {L : Ads} {ds : List D} {vs : List V} (lo hi : Option Int) (w : Dvs K H L ds vs) : Dvs K H L (cutD ds lo hi) (cutV vs lo hi) := by
  unfold cutD cutV
  rw [w.length]
  exact (w.drop _).take _
def rSlX (K : PySem.W.Frag) : V → Option Int → Option Int → Hp → VK → Prop := fun x lo hi H Q => ∃ c L M μ σ d z, Sr K c L M μ σ H ∧ Dw K H L d x ∧ slD d lo hi = some z ∧ ∀ v H', Sr K c L M μ σ H' → Kp M H H' → Dv K H' L z v → Q v H'
theorem slR_by {r' : V → Option Int → Option Int → Hp → VK → Prop} (h : ∀ x lo hi H Q, r' x lo hi H Q → ∃ r, SlR X r ∧ r x lo hi H Q) : SlR X r' := fun pins s σ H x v vl vu lo hi sl Q I rx hs pl pu q =>
  let ⟨r, h1, h2⟩ := h x lo hi H Q q
  h1 pins s σ H x v vl vu lo hi sl Q I rx hs pl pu h2
theorem sl_all : SlR X (rSlX X.K) := slR_by fun x lo hi H Q ⟨c, L, M, μ, σ, d, z, S, hx, hg, q⟩ => by
  unfold slD at hg
  split at hg
  · rename_i xs
    cases hg
    obtain ⟨a, vs, rfl, sa, wa⟩ := hx.tup
    refine ⟨_, sl_tupN, a, vs, rfl, sa, fun hw => ?_, fun _ p ti tn hp => ?_⟩
    · have e : cutD xs lo hi = xs := by
        unfold cutD
        rw [wa.length, hw.1, hw.2, List.drop_zero, Nat.sub_zero, ← wa.length, List.take_length]
      rw [e] at q
      rcases hx with hx | ⟨_, _, ⟨_, _, e, _⟩ | ⟨_, _, e, _⟩⟩
      · exact q _ _ S .refl hx
      · cases e
      · cases e
    · obtain ⟨h1, h2, h3⟩ := S.newTup ti tn (cut_dvs lo hi wa) hp
      exact q _ _ h1 h2 h3
  · cases hg
    obtain ⟨a, vs, rfl, sa, wa⟩ := hx.lst
    refine ⟨_, sl_list, a, vs, rfl, sa, fun p hp => ?_⟩
    obtain ⟨h1, h2, h3⟩ := S.newLst (cut_dvs lo hi wa) hp
    exact q _ _ h1 h2 h3
  · split at hg
    · rename_i hz
      cases hg
      have e1 := hx.sc (by simp) (by simp)
      cases e1
      exact ⟨_, sl_str, _, rfl, sizeOkN_of hz, q _ _ S .refl (.str _)⟩
    · cases hg
  · cases hg
theorem je_sl {lo hi : Option Expr} {rl rh : Mu → Rs (Option Int)} {p2 : Pos} (ha : JE X W a ra) (hl : JO X W lo rl) (hh : JO X W hi rh) :
    JE X W (.Subscript a (.Slice lo hi none p2) pos) fun μ => (ra μ).bind fun x μ1 => (rl μ1).bind fun l μ2 => (rh μ2).bind fun h μ3 => Rs.opt (slD x l h) μ3 := by
  refine pe_mono (pe_slice sl_all ha hl hh) fun σ H Q ⟨c, L, M, μ, S, p⟩ => ⟨c, L, M, μ, S, p.bind fun x μ1 v H1 S1 k1 d1 p1 => ⟨c, L, M, μ1, S1, p1.bind fun y μ2 w H2 S2 k2 d2 p2 => ⟨c, L, M, μ2, S2, p2.bind fun y' μ3 w' H3 S3 k3 d3 p3 => ?_⟩⟩⟩
  obtain ⟨z, e, q⟩ := p3.opt
  cases d2
  cases d3
  exact ⟨c, L, M, μ3, σ, x, z, S3, .inl (S3.dk (S2.dk d1 k2) k3), e, q⟩
/-! ### built-ins of one argument -/
def rC1 (K : PySem.W.Frag) (g : D → Option D) : List V → Hp → VK → Prop := fun xs H Q => ∃ c L M μ σ x d z, xs = [x] ∧ Sr K c L M μ σ H ∧ Dw K H L d x ∧ g d = some z ∧ ∀ v H', Sr K c L M μ σ H' → Kp M H H' → Dv K H' L z v → Q v H'
theorem callR_by {f : Value} {r' : List V → Hp → VK → Prop} (h : ∀ xs H Q, r' xs H Q → ∃ r, CallR X f r ∧ r xs H Q) : CallR X f r' := fun pins s σ H xs us Q I rv q =>
  let ⟨r, h1, h2⟩ := h xs H Q q
  h1 pins s σ H xs us Q I rv h2
theorem boolsOf_some : ∀ {ds : List D} {bs : List Bool}, boolsOf ds = some bs → ds = bs.map PyData.bool
  | [], bs, h => by cases h; rfl
  | .bool b :: r, bs, h => by
    unfold boolsOf at h
    cases q : boolsOf r with
    | none => rw [q] at h; cases h
    | some cs => rw [q] at h; cases h; rw [boolsOf_some q]; rfl
  | .none :: _, _, h => by cases h
  | .int _ :: _, _, h => by cases h
  | .str _ :: _, _, h => by cases h
  | .list _ :: _, _, h => by cases h
  | .tuple _ :: _, _, h => by cases h
  | .dict _ :: _, _, h => by cases h
theorem intsOf_some : ∀ {ds : List D} {bs : List Int}, intsOf ds = some bs → ds = bs.map PyData.int
  | [], bs, h => by cases h; rfl
  | .int b :: r, bs, h => by
    unfold intsOf at h
    cases q : intsOf r with
    | none => rw [q] at h; cases h
    | some cs => rw [q] at h; cases h; rw [intsOf_some q]; rfl
  | .none :: _, _, h => by cases h
  | .bool _ :: _, _, h => by cases h
  | .str _ :: _, _, h => by cases h
  | .list _ :: _, _, h => by cases h
  | .tuple _ :: _, _, h => by cases h
  | .dict _ :: _, _, h => by cases h
theorem maxL_spec : ∀ (ns : List Int) (m : Int), (maxL ns m = m ∨ maxL ns m ∈ ns) ∧ m ≤ maxL ns m ∧ ∀ y ∈ ns, y ≤ maxL ns m
  | [], m => ⟨.inl rfl, Int.le_refl _, fun _ h => by simp at h⟩
  | x :: r, m => by
    unfold maxL
    obtain ⟨h1, h2, h3⟩ := maxL_spec r (if m < x then x else m)
    split at h1 <;> rename_i hx
    · simp only [if_pos hx] at *
      refine ⟨.inr ?_, by omega, fun y hy => ?_⟩
      · rcases h1 with h1 | h1
        · rw [h1]; exact List.mem_cons_self
        · exact List.mem_cons_of_mem _ h1
      · rcases List.mem_cons.mp hy with rfl | hy
        · exact h2
        · exact h3 y hy
    · simp only [if_neg hx] at *
      refine ⟨?_, h2, fun y hy => ?_⟩
      · rcases h1 with h1 | h1
        · exact .inl h1
        · exact .inr (List.mem_cons_of_mem _ h1)
      · rcases List.mem_cons.mp hy with rfl | hy
        · omega
        · exact h3 y hy
theorem minL_spec : ∀ (ns : List Int) (m : Int), (minL ns m = m ∨ minL ns m ∈ ns) ∧ minL ns m ≤ m ∧ ∀ y ∈ ns, minL ns m ≤ y
  | [], m => ⟨.inl rfl, Int.le_refl _, fun _ h => by simp at h⟩
  | x :: r, m => by
    unfold minL
    obtain ⟨h1, h2, h3⟩ := minL_spec r (if x < m then x else m)
    split at h1 <;> rename_i hx
    · simp only [if_pos hx] at *
      refine ⟨.inr ?_, by omega, fun y hy => ?_⟩
      · rcases h1 with h1 | h1
        · rw [h1]; exact List.mem_cons_self
        · exact List.mem_cons_of_mem _ h1
      · rcases List.mem_cons.mp hy with rfl | hy
        · exact h2
        · exact h3 y hy
    · simp only [if_neg hx] at *
      refine ⟨?_, h2, fun y hy => ?_⟩
      · rcases h1 with h1 | h1
        · exact .inl h1
        · exact .inr (List.mem_cons_of_mem _ h1)
      · rcases List.mem_cons.mp hy with rfl | hy
        · omega
        · exact h3 y hy
theorem c_len : CallR X (.builtin "len") (rC1 X.K lenD) := callR_by fun xs H Q ⟨c, L, M, μ, σ, x, d, z, e, S, hx, hg, q⟩ => by
  subst e
  unfold lenD at hg
  split at hg
  · cases hg
    obtain ⟨a, vs, rfl, sa, wa⟩ := hx.lst
    exact ⟨_, call_len_seq, a, vs, rfl, .inl sa, q _ _ S .refl (by rw [wa.length]; exact .int _)⟩
  · cases hg
    obtain ⟨a, vs, rfl, sa, wa⟩ := hx.tup
    exact ⟨_, call_len_seq, a, vs, rfl, .inr sa, q _ _ S .refl (by rw [wa.length]; exact .int _)⟩
  · split at hg
    · rename_i hz
      cases hg
      have e1 := hx.sc (by simp) (by simp)
      cases e1
      exact ⟨_, call_len_str, _, rfl, sizeOkN_of hz, q _ _ S .refl (.int _)⟩
    · cases hg
  · cases hg
theorem c_abs : CallR X (.builtin "abs") (rC1 X.K absD) := callR_by fun xs H Q ⟨c, L, M, μ, σ, x, d, z, e, S, hx, hg, q⟩ => by
  subst e
  unfold absD at hg
  split at hg
  · rename_i i
    cases hg
    have := hx.sc (by simp) (by simp)
    cases this
    have e : (if i < 0 then -i else i) = (i.natAbs : Int) := by split <;> omega
    exact ⟨_, call_abs, i, rfl, q _ _ S .refl (by rw [e]; exact .int _)⟩
  · cases hg
theorem c_all (hc : X.calm = true) : CallR X (.builtin "all") (rC1 X.K allD) := callR_by fun xs H Q ⟨c, L, M, μ, σ, x, d, z, e, S, hx, hg, q⟩ => by
  subst e
  unfold allD at hg
  split at hg
  · rename_i ds
    obtain ⟨a, vs, rfl, sa, wa⟩ := hx.lst
    cases hb : boolsOf ds with
    | none => rw [hb] at hg; cases hg
    | some bs =>
      rw [hb] at hg; cases hg
      rw [boolsOf_some hb] at wa
      rw [wa.bools] at sa
      exact ⟨_, cr_all hc, a, bs, rfl, sa, q _ _ S .refl (.bl _)⟩
  · cases hg
theorem c_any (hc : X.calm = true) : CallR X (.builtin "any") (rC1 X.K anyD) := callR_by fun xs H Q ⟨c, L, M, μ, σ, x, d, z, e, S, hx, hg, q⟩ => by
  subst e
  unfold anyD at hg
  split at hg
  · rename_i ds
    obtain ⟨a, vs, rfl, sa, wa⟩ := hx.lst
    cases hb : boolsOf ds with
    | none => rw [hb] at hg; cases hg
    | some bs =>
      rw [hb] at hg; cases hg
      rw [boolsOf_some hb] at wa
      rw [wa.bools] at sa
      exact ⟨_, cr_any hc, a, bs, rfl, sa, q _ _ S .refl (.bl _)⟩
  · cases hg
theorem cr_sumT (hc : X.calm = true) : CallR X (.builtin "sum") (fun vs H Q => ∃ (a : Addr) (ns : List Int), vs = [V.ref a] ∧ SqT X.K H a (ns.map V.int) ∧ Q (.int ns.sum) H) := by
  intro pins s σ H vs us Q I r h
  obtain ⟨a, ns, rfl, hs, q⟩ := h
  obtain ⟨its, rv, hl, _⟩ := I.tuple hs
  rw [Vals.ref1 r]
  have hi := rv.ints
  obtain ⟨xs, e⟩ := hi.allInts.items
  have hn : numsOf (intItems xs).toList = ns := by rw [← e]; exact hi.numsOf
  rw [nums_intItems] at hn
  have hl : s.heap.IsTuple a its.toArray := hl
  rw [e] at hl
  refine PySem.W.ktm_sumG (I.ok.hd hc) hl fun h' tk t' hk => ?_
  rw [preSum_eq, List.take_of_length_le (by simp), hn]
  exact ⟨.int _, H, I.kept hk, ⟨_, rfl⟩, q⟩
theorem c_sum (hc : X.calm = true) : CallR X (.builtin "sum") (rC1 X.K sumD) := callR_by fun xs H Q ⟨c, L, M, μ, σ, x, d, z, e, S, hx, hg, q⟩ => by
  subst e
  unfold sumD at hg
  split at hg
  · rename_i ds
    obtain ⟨a, vs, rfl, sa, wa⟩ := hx.lst
    cases hb : intsOf ds with
    | none => rw [hb] at hg; cases hg
    | some bs =>
      rw [hb] at hg; cases hg
      rw [intsOf_some hb] at wa
      rw [wa.ints] at sa
      exact ⟨_, cr_sum hc, a, bs, rfl, sa, q _ _ S .refl (.int _)⟩
  · rename_i ds
    obtain ⟨a, vs, rfl, sa, wa⟩ := hx.tup
    cases hb : intsOf ds with
    | none => rw [hb] at hg; cases hg
    | some bs =>
      rw [hb] at hg; cases hg
      rw [intsOf_some hb] at wa
      rw [wa.ints] at sa
      exact ⟨_, cr_sumT hc, a, bs, rfl, sa, q _ _ S .refl (.int _)⟩
  · cases hg
theorem listsOf_some : ∀ {ds : List D} {ks : List (List Int)}, listsOf ds = some ks → ds = ks.map fun k => PyData.list (k.map .int)
  | [], ks, h => by cases h; rfl
  | .list xs :: r, ks, h => by
    unfold listsOf at h
    split at h
    · rename_i k ks' h1 h2
      cases h
      rw [intsOf_some h1, listsOf_some h2]; rfl
    · cases h
  | .none :: _, _, h | .bool _ :: _, _, h | .int _ :: _, _, h | .str _ :: _, _, h | .tuple _ :: _, _, h | .dict _ :: _, _, h => by simp [listsOf] at h
theorem maxK_data (k : List Int) : ∀ (ks : List (List Int)), PySem.W.maxD (.list (k.map .int)) (ks.map fun k => .list (k.map .int)) = .list ((maxK ks k).map .int) := by
  intro ks
  unfold PySem.W.maxD
  induction ks generalizing k with
  | nil => rfl
  | cons x r ih =>
    rw [List.map_cons, List.foldl_cons]
    have e : PySem.W.dataLt (.list (k.map .int)) (.list (x.map .int)) = decide (k < x) := (PySem.W.dataLt_list _ _).trans (PySem.W.dataLt_ints k x)
    rw [e]
    unfold maxK
    by_cases h : k < x
    · rw [if_pos (decide_eq_true h), if_pos h]; exact ih x
    · rw [if_neg (by simpa using h), if_neg h]; exact ih k
theorem lists_plain : ∀ (ks : List (List Int)), PyData.plainAll (ks.map fun k => PyData.list (k.map .int)) = true
  | [] => rfl
  | k :: ks => by
    show (PyData.plain (.list (k.map .int)) && PyData.plainAll (ks.map fun k => PyData.list (k.map .int))) = true
    rw [lists_plain ks, Bool.and_true]
    show PyData.plainAll (k.map .int) = true
    induction k with
    | nil => rfl
    | cons i k ih => show (true && PyData.plainAll (k.map .int)) = true; rw [ih]; rfl
theorem lists_depth : ∀ (ks : List (List Int)), PyData.depthAll (ks.map fun k => PyData.list (k.map .int)) ≤ 1
  | [] => Nat.zero_le _
  | k :: ks => by
    have := lists_depth ks
    show max (PyData.depth (.list (k.map .int))) (PyData.depthAll (ks.map fun k => PyData.list (k.map .int))) ≤ 1
    have e : PyData.depth (.list (k.map .int)) = 1 := by
      show PyData.depthAll (k.map .int) + 1 = 1
      rw [PySem.W.depth_ints]
    omega
def rMaxK (K : PySem.W.Frag) : List V → Hp → VK → Prop := fun vs H Q => ∃ a k ks L ws, vs = [.ref a] ∧ SqL K H a ws ∧ Dvs K H L ((k :: ks).map fun k => .list (k.map .int)) ws ∧ ∀ v, Dv K H L (.list ((maxK ks k).map .int)) v → Q v H
theorem cr_maxK (hc : X.calm = true) (hu : X.A.units + 64 < cLine) : CallR X (.builtin "max") (rMaxK X.K) := by
  rintro pins s σ H vs us Q I r ⟨a, k, ks, L, ws, rfl, sq, w, q⟩
  obtain ⟨its, rv, hl, _⟩ := I.list sq
  rw [Vals.ref1 r]
  have pl := lists_plain (k :: ks)
  obtain ⟨as, hr⟩ := Dp.readsAll I _ ws its (w.dp pl) rv
  have ha : PySem.W.AlikeAll ((k :: ks).map fun k => PyData.list (k.map .int)) := by
    constructor
    · intro x hx y hy
      obtain ⟨x', _, rfl⟩ := List.mem_map.mp hx
      obtain ⟨y', _, rfl⟩ := List.mem_map.mp hy
      simp [PySem.W.alike, PySem.W.alike_ints]
    · intro x hx e
      obtain ⟨x', _, rfl⟩ := List.mem_map.mp hx
      cases e
  have dp := lists_depth (k :: ks)
  refine PySem.W.max_list_data (vs := its.toArray) (I.ok.hd hc) hl.isList hr ha (by have dp : PyData.depthAll ((fun k => PyData.list (List.map PyData.int k)) k :: List.map (fun k => PyData.list (List.map PyData.int k)) ks) ≤ 1 := dp; omega) fun i v h' tk bs hv hrd hk => ?_
  have I' : Inv X pins σ H { s with heap := h', toks := tk } := I.kept hk
  have hv' : its[i]? = some v := by simpa using hv
  have il : i < ws.length := by rw [rv.length]; exact (List.getElem?_eq_some_iff.mp hv').1
  obtain ⟨wv, e1⟩ : ∃ wv, ws[i]? = some wv := ⟨_, List.getElem?_eq_getElem il⟩
  obtain ⟨v', e0, e2⟩ := Vals.get rv e1
  obtain rfl : v' = v := by rw [hv'] at e0; exact (Option.some.inj e0).symm
  obtain ⟨d, e3, e4⟩ := w.get e1
  have pd : d.plain = true := by
    obtain ⟨x', _, rfl⟩ := List.mem_map.mp (List.mem_of_getElem? e3)
    have := lists_plain [x']
    simpa [PyData.plainAll] using this
  obtain ⟨as', r2⟩ := Dp.reads I' d wv _ (e4.dp pd) e2
  rw [maxK_data] at hrd
  obtain ⟨rfl, _⟩ := Reads.unique hrd _ _ r2
  exact ⟨wv, H, I', e2, q _ e4⟩
theorem c_max (hc : X.calm = true) (hu : X.A.units + 64 < cLine) : CallR X (.builtin "max") (rC1 X.K maxD) := callR_by fun xs H Q ⟨c, L, M, μ, σ, x, d, z, e, S, hx, hg, q⟩ => by
  subst e
  unfold maxD at hg
  split at hg
  · rename_i ds
    split at hg
    · rename_i n ns hb
      cases hg
      obtain ⟨a, vs, rfl, sa, wa⟩ := hx.lst
      rw [intsOf_some hb] at wa
      rw [wa.ints] at sa
      obtain ⟨h1, h2, h3⟩ := maxL_spec ns n
      refine ⟨_, cr_max hc, a, n :: ns, rfl, sa, by simp, fun m hm hle => ?_⟩
      have e : m = maxL ns n := by
        have a1 : maxL ns n ≤ m := by
          rcases h1 with h1 | h1
          · rw [h1]; exact hle _ List.mem_cons_self
          · exact hle _ (List.mem_cons_of_mem _ h1)
        have a2 : m ≤ maxL ns n := by
          rcases List.mem_cons.mp hm with rfl | hm
          · exact h2
          · exact h3 _ hm
        omega
      rw [e]; exact q _ _ S .refl (.int _)
    · unfold maxKD at hg
      split at hg
      · rename_i k ks hb
        cases hg
        obtain ⟨a, vs, rfl, sa, wa⟩ := hx.lst
        rw [listsOf_some hb] at wa
        exact ⟨_, cr_maxK hc hu, a, k, ks, L, vs, rfl, sa, wa, fun v hv => q _ _ S .refl hv⟩
      · cases hg
  · cases hg
theorem c_str : CallR X (.type "str") (rC1 X.K strD) := callR_by fun xs H Q ⟨c, L, M, μ, σ, x, d, z, e, S, hx, hg, q⟩ => by
  subst e
  unfold strD at hg
  split at hg
  · rename_i i
    split at hg
    · rename_i hi
      cases hg
      have := hx.sc (by simp) (by simp)
      cases this
      exact ⟨_, call_str_int, i, rfl, of_decide_eq_true hi, q _ _ S .refl (.str _)⟩
    · cases hg
  · cases hg
theorem c_min (hc : X.calm = true) : CallR X (.builtin "min") (rC1 X.K minD) := callR_by fun xs H Q ⟨c, L, M, μ, σ, x, d, z, e, S, hx, hg, q⟩ => by
  subst e
  unfold minD at hg
  split at hg
  · rename_i ds
    split at hg
    · rename_i n ns hb
      cases hg
      obtain ⟨a, vs, rfl, sa, wa⟩ := hx.lst
      rw [intsOf_some hb] at wa
      rw [wa.ints] at sa
      obtain ⟨h1, h2, h3⟩ := minL_spec ns n
      refine ⟨_, cr_min hc, a, n :: ns, rfl, sa, by simp, fun m hm hle => ?_⟩
      have e : m = minL ns n := by
        have a1 : m ≤ minL ns n := by
          rcases h1 with h1 | h1
          · rw [h1]; exact hle _ List.mem_cons_self
          · exact hle _ (List.mem_cons_of_mem _ h1)
        have a2 : minL ns n ≤ m := by
          rcases List.mem_cons.mp hm with rfl | hm
          · exact h2
          · exact h3 _ hm
        omega
      rw [e]; exact q _ _ S .refl (.int _)
    · cases hg
  · cases hg
theorem c_tuple : CallR X (.type "tuple") (rC1 X.K tupD) := callR_by fun xs H Q ⟨c, L, M, μ, σ, x, d, z, e, S, hx, hg, q⟩ => by
  subst e
  unfold tupD at hg
  split at hg
  · cases hg
    obtain ⟨a, vs, rfl, sa, wa⟩ := hx.lst
    refine ⟨_, call_tupN, a, vs, rfl, .inl ⟨sa, fun p ti tn hp => ?_⟩⟩
    obtain ⟨h1, h2, h3⟩ := S.newTup ti tn wa hp
    exact q _ _ h1 h2 h3
  · cases hg
    obtain ⟨a, vs, rfl, sa, wa⟩ := hx.tup
    exact ⟨_, call_tupN, a, vs, rfl, .inr ⟨sa, q _ _ S .refl (hx.sc (by simp) (by simp))⟩⟩
  · cases hg
theorem c_int : CallR X (.type "int") (rC1 X.K intD) := callR_by fun xs H Q ⟨c, L, M, μ, σ, x, d, z, e, S, hx, hg, q⟩ => by
  subst e
  unfold intD at hg
  split at hg
  · cases hg
    have := hx.sc (by simp) (by simp)
    cases this
    exact ⟨_, call_int1, .inr ⟨_, rfl, q _ _ S .refl (.int _)⟩⟩
  · cases hg
    have := hx.sc (by simp) (by simp)
    cases this
    exact ⟨_, call_int1, .inl ⟨_, rfl, q _ _ S .refl (.int _)⟩⟩
  · rename_i x
    split at hg
    · rename_i hz
      have e1 := hx.sc (by simp) (by simp)
      cases e1
      cases hn : intText? x with
      | none => rw [hn] at hg; cases hg
      | some n =>
        rw [hn] at hg; cases hg
        exact ⟨_, call_int_str, x, n, rfl, hn, of_decide_eq_true hz, q _ _ S .refl (.int _)⟩
    · cases hg
  · cases hg
mutual
theorem plain_noDict : ∀ {d : D}, d.plain = true → d.hasDict = false
  | .none, _ => rfl
  | .bool _, _ => rfl
  | .int _, _ => rfl
  | .str _, _ => rfl
  | .list xs, h => plains_noDict (ds := xs) h
  | .tuple xs, h => plains_noDict (ds := xs) h
  | .dict _, h => by cases h
theorem plains_noDict : ∀ {ds : List D}, PyData.plainAll ds = true → PyData.hasDictAll ds = false
  | [], _ => rfl
  | d :: ds, h => by
    have h' : (PyData.plain d && PyData.plainAll ds) = true := h
    rw [Bool.and_eq_true] at h'
    show (PyData.hasDict d || PyData.hasDictAll ds) = false
    rw [plain_noDict h'.1, plains_noDict h'.2]; rfl
end
theorem c_repr (hgd : X.A.guards = some []) (hu : X.A.units + 64 < cLine) : CallR X (.builtin "repr") (rC1 X.K reprD) := by
  rintro pins s σ H xs us Q I rv ⟨c, L, M, μ, σ', x, d, z, rfl, S, hx, hz, q⟩
  unfold reprD at hz
  split at hz
  · rename_i h
    simp only [Bool.and_eq_true, decide_eq_true_eq] at h
    obtain ⟨⟨⟨h1, h2⟩, h3⟩, h4⟩ := h
    cases hz
    obtain ⟨u, rfl, rx⟩ := vals1 rv
    obtain ⟨as, r⟩ := hx.reads I h1 rx
    have hl : d.shown.length ≤ sizeLine := by
      have e : sizeLine = 16777216 := by decide
      rw [e]; exact h3
    have hd : d.hasDict = true → sysModules ∉ as := fun z => by rw [plain_noDict h1] at z; cases z
    have fin : ∀ h' tk u', (∀ b o, s.heap.get? b = some o → h'.get? b = some o) → EP X pins σ Q (.str d.shown u') { s with heap := h', toks := tk } := fun h' tk u' k =>
      ⟨.str d.shown, H, I.kept k, ⟨_, rfl⟩, q _ _ S .refl (.str _)⟩
    cases d with
    | none => cases hx.none; cases rx; exact P.repr_of_none (fin _ _ _ fun _ _ e => e)
    | bool b => cases hx.bool; cases rx; exact P.repr_of_bool (fin _ _ _ fun _ _ e => e)
    | int i =>
      have := hx.sc (by simp) (by simp)
      cases this
      obtain ⟨t, rfl⟩ := rx
      exact P.repr_of_int (of_decide_eq_true h2) (fin _ _ _ fun _ _ e => e)
    | str y =>
      have := hx.sc (by simp) (by simp)
      cases this
      obtain ⟨t, rfl⟩ := rx
      exact P.repr_of_str (fin _ _ _ fun _ _ e => e) hl
    | list xs =>
      obtain ⟨a, vs, rfl, _⟩ := hx.lst
      cases rx
      exact repr_of_reads' (h₀ := s.heap) r h2 hd hgd (by omega) (fun _ _ e => e) (fun h' u tk k => fin h' tk u k) hl
    | tuple xs =>
      obtain ⟨a, vs, rfl, _⟩ := hx.tup
      cases rx
      exact repr_of_reads' (h₀ := s.heap) r h2 hd hgd (by omega) (fun _ _ e => e) (fun h' u tk k => fin h' tk u k) hl
    | dict es => cases h1
  · cases hz
/-- f(a), f a built-in function; f(a), f a built-in class -/
theorem je_b1 {id : String} {x : Str} {g : D → Option D} (hc : CallR X (.builtin id) (rC1 X.K g)) (hg : Gl X x) (hm : X.mg x = none) (hv : bootBuiltins x = some (.builtin id)) (ha : JP X W a ra) (hs : isStar a = false) (hn : x ≠ "__name__") (hdb : (x == ("__debug__" : Str)) = false) :
    JE X W (.Call (.Name x p) [a] [] pos) fun μ => (ra μ).bind fun x μ1 => Rs.opt (g x) μ1 := by
  refine pe_mono (pe_callB hc hg hm hv (pa_cons ha pa_nil (starEach_cons hs _ _)) hn hdb (starEach_cons hs _ _) rfl) fun σ H Q ⟨c, L, M, μ, S, p⟩ => ⟨c, L, M, μ, S, p.bind fun x μ1 v H1 S1 k1 d1 p1 => ?_⟩
  obtain ⟨z, e, q⟩ := p1.opt
  exact ⟨c, L, M, μ1, σ, v, x, z, rfl, S1, d1, e, q⟩
theorem je_b1T {id : String} {x : Str} {g : D → Option D} (hc : CallR X (.type id) (rC1 X.K g)) (hg : Gl X x) (hm : X.mg x = none) (hv : bootBuiltins x = some (.type id)) (ha : JP X W a ra) (hs : isStar a = false) (hn : x ≠ "__name__") (hdb : (x == ("__debug__" : Str)) = false) :
    JE X W (.Call (.Name x p) [a] [] pos) fun μ => (ra μ).bind fun x μ1 => Rs.opt (g x) μ1 := by
  refine pe_mono (pe_callTy hc hg hm hv (pa_cons ha pa_nil (starEach_cons hs _ _)) hn hdb (starEach_cons hs _ _) rfl) fun σ H Q ⟨c, L, M, μ, S, p⟩ => ⟨c, L, M, μ, S, p.bind fun x μ1 v H1 S1 k1 d1 p1 => ?_⟩
  obtain ⟨z, e, q⟩ := p1.opt
  exact ⟨c, L, M, μ1, σ, v, x, z, rfl, S1, d1, e, q⟩
/-! two ints -/
def rC2 (K : PySem.W.Frag) (g : D → D → Option D) : List V → Hp → VK → Prop := fun xs H Q => ∃ c L M μ σ x y d e z, xs = [x, y] ∧ Sr K c L M μ σ H ∧ Dv K H L d x ∧ Dv K H L e y ∧ g d e = some z ∧ ∀ v H', Sr K c L M μ σ H' → Kp M H H' → Dv K H' L z v → Q v H'
theorem c_max2 (hc : X.calm = true) : CallR X (.builtin "max") (rC2 X.K (b2D .max)) := callR_by fun xs H Q ⟨c, L, M, μ, σ, x, y, d, e, z, h, S, hx, hy, hg, q⟩ => by
  subst h
  cases d <;> try (cases hg)
  cases e <;> try (cases hg)
  cases hx; cases hy
  exact ⟨_, call_max2 hc, _, _, rfl, q _ _ S .refl (.int _)⟩
theorem c_min2 (hc : X.calm = true) : CallR X (.builtin "min") (rC2 X.K (b2D .min)) := callR_by fun xs H Q ⟨c, L, M, μ, σ, x, y, d, e, z, h, S, hx, hy, hg, q⟩ => by
  subst h
  cases d <;> try (cases hg)
  cases e <;> try (cases hg)
  cases hx; cases hy
  exact ⟨_, call_min2 hc, _, _, rfl, q _ _ S .refl (.int _)⟩
theorem je_b2 {id : String} {x : Str} {g : D → D → Option D} (hc : CallR X (.builtin id) (rC2 X.K g)) (hg : Gl X x) (hm : X.mg x = none) (hv : bootBuiltins x = some (.builtin id)) (ha : JE X W a ra) (hb : JE X W b rb) (hs : isStar a = false) (hs2 : isStar b = false) (hn : x ≠ "__name__") (hdb : (x == ("__debug__" : Str)) = false) :
    JE X W (.Call (.Name x p) [a, b] [] pos) fun μ => (ra μ).bind fun x μ1 => (rb μ1).bind fun y μ2 => Rs.opt (g x y) μ2 := by
  refine pe_mono (pe_callB hc hg hm hv (pa_cons ha (pa_cons hb pa_nil (starEach_cons hs2 _ _)) (starEach_cons hs _ _)) hn hdb (starEach_cons hs _ _) (backTo_plain (by simp [hs2]))) fun σ H Q ⟨c, L, M, μ, S, p⟩ => ⟨c, L, M, μ, S, p.bind fun x μ1 v H1 S1 k1 d1 p1 => ⟨c, L, M, μ1, S1, p1.bind fun y μ2 w H2 S2 k2 d2 p2 => ?_⟩⟩
  obtain ⟨z, e, q⟩ := p2.opt
  exact ⟨c, L, M, μ2, σ, v, w, x, y, z, rfl, S2, S2.dk d1 k2, d2, e, q⟩
/-! isinstance -/
def tyName : Ty → String
  | .int => "int" | .bool => "bool" | .tuple => "tuple" | .list => "list" | .str => "str"
def rIs (K : PySem.W.Frag) (t : Ty) : List V → Hp → VK → Prop := fun xs H Q => ∃ L x d z, xs = [x, .ty (tyName t)] ∧ Dv K H L d x ∧ isiD d t = some z ∧ Q (.bl z) H
theorem c_isi (t : Ty) : CallR X (.builtin "isinstance") (rIs X.K t) := by
  rintro pins s σ H xs us Q I rv ⟨L, x, d, z, rfl, hx, hz, q⟩
  unfold isiD at hz
  split at hz
  · rename_i h1
    cases hz
    obtain ⟨u, u2, rfl, rx, r2⟩ := vals2 rv
    cases r2
    obtain ⟨as, r⟩ := Dw.reads I (.inl hx) h1 rx
    cases t
    · exact PySem.W.isinstance_int_data r fun tk _ => ⟨.bl _, H, I.tok _, rfl, q⟩
    · exact PySem.W.isinstance_bool_data r fun tk _ => ⟨.bl _, H, I.tok _, rfl, q⟩
    · exact PySem.W.isinstance_tuple_data r fun tk _ => ⟨.bl _, H, I.tok _, rfl, q⟩
    · exact PySem.W.isinstance_list_data r fun tk _ => ⟨.bl _, H, I.tok _, rfl, q⟩
    · exact PySem.W.isinstance_str_data r fun tk _ => ⟨.bl _, H, I.tok _, rfl, q⟩
  · cases hz
theorem je_isi {t : Ty} {p1 p2 : Pos} (hg : Gl X "isinstance") (hm : X.mg "isinstance" = none) (hgt : Gl X (Str.ofString (tyName t))) (hmt : X.mg (Str.ofString (tyName t)) = none) (ha : JE X W a ra) (hs : isStar a = false) :
    JE X W (.Call (.Name "isinstance" p) [a, .Name (Str.ofString (tyName t)) p1] [] pos) fun μ => (ra μ).bind fun x μ1 => Rs.opt ((isiD x t).map .bool) μ1 := by
  have hb : bootBuiltins (Str.ofString (tyName t)) = some (.type (tyName t)) := by cases t <;> decide +kernel
  refine pe_mono (pe_callB (c_isi t) hg hm (by decide +kernel) (pa_cons ha (pa_cons (pe_bltn (v := .ty (tyName t)) hgt hmt hb rfl (by cases t <;> decide) (by cases t <;> decide)) pa_nil (starEach_cons rfl _ _)) (starEach_cons hs _ _)) (by decide) (by decide) (starEach_cons hs _ _) (backTo_plain rfl))
    fun σ H Q ⟨c, L, M, μ, S, p⟩ => ⟨c, L, M, μ, S, p.bind fun x μ1 v H1 S1 k1 d1 p1 => ?_⟩
  obtain ⟨z, e, q⟩ := p1.opt
  cases hz : isiD x t with
  | none => rw [hz] at e; cases e
  | some bb => rw [hz] at e; cases e; exact ⟨L, v, x, bb, rfl, d1, hz, q _ _ S1 .refl (.bl _)⟩
end
end Mn
set_option Elab.async false
set_option linter.all false
set_option maxRecDepth 100000
set_option autoImplicit false
namespace Mn
open PySem PySem.Spec L2
/-! ## calls of the program's own defs -/
abbrev XRl := Xc → Value → Option Addr → Hp → Prop
def wx (xr : XRl) (W : WXm) : WX := fun cls d σ H => ∃ x, xr x cls d H ∧ W x σ H
/-- the lent objects among the arguments -/
def ioA : List Sl → List V → List Addr
  | .own _ :: s, .ref a :: v => a :: ioA s v
  | _ :: s, _ :: v => ioA s v
  | _, _ => []
inductive ArgOk (K : PySem.W.Frag) (H : Hp) (L : Ads) : List Sl → List V → Prop
  | nil : ArgOk K H L [] []
  | val {d : D} {v : V} {s : List Sl} {vs : List V} : Dv K H L d v → ArgOk K H L s vs → ArgOk K H L (.val d :: s) (v :: vs)
  | own {d : D} {a : Addr} {s : List Sl} {vs : List V} : OwnAt K H L d a → L a → ArgOk K H L s vs → ArgOk K H L (.own d :: s) (.ref a :: vs)
inductive OutOk (K : PySem.W.Frag) (H : Hp) (L : Ads) : List Addr → List D → Prop
  | nil : OutOk K H L [] []
  | cons {a : Addr} {d : D} {as : List Addr} {ds : List D} : OwnAt K H L d a → OutOk K H L as ds → OutOk K H L (a :: as) (d :: ds)
theorem ArgOk.length {K : PySem.W.Frag} {H : Hp} {L : Ads} {s : List Sl} {vs : List V} (h : ArgOk K H L s vs) : s.length = vs.length := by
  induction h with
  | nil => rfl
  | val _ _ ih => simp [ih]
  | own _ _ _ ih => simp [ih]
/-- the promise of a def that gives G; n: how many parameters -/
def spF (K : PySem.W.Frag) (xr : XRl) (n : Nat) (G : List Sl → FR) : Sp := fun vs H Q E => ∃ (L : Ads) (sl : List Sl), ArgOk K H L sl vs ∧ sl.length = n ∧ (ioA sl vs).Nodup ∧ (∀ a, L a → H a ≠ none) ∧
  match G sl with
  | .ok d outs => ∀ v H', (∀ a o, H a = some o → a ∉ ioA sl vs → H' a = some o) → Dv K H' L d v → OutOk K H' L (ioA sl vs) outs → Q v H'
  | .fr d outs => ∀ a H', (∀ a o, H a = some o → a ∉ ioA sl vs → H' a = some o) → H a = none → OwnAt K H' (plusA L a) d a → OutOk K H' (plusA L a) (ioA sl vs) outs → Q (.ref a) H'
  | .ex x outs => ∀ cls d H', (∀ a o, H a = some o → a ∉ ioA sl vs → H' a = some o) → xr x cls d H' → OutOk K H' L (ioA sl vs) outs → E cls d H'
  | .st => False
/-- an argument: a value, or a slot's own object -/
inductive AgOk (K : PySem.W.Frag) (σ : St) (H : Hp) (L : Ads) : List Ag → List V → Prop
  | nil : AgOk K σ H L [] []
  | val {d : D} {v : V} {s : List Ag} {vs : List V} : Dv K H L d v → AgOk K σ H L s vs → AgOk K σ H L (.v d :: s) (v :: vs)
  | io {i : Nat} {v : V} {s : List Ag} {vs : List V} : σ[i]? = some (some v) → AgOk K σ H L s vs → AgOk K σ H L (.io i :: s) (v :: vs)
def rAg (K : PySem.W.Frag) (σ : St) : Rl (List Ag) (List V) := fun L as vs H => AgOk K σ H L as vs
def TrA (K : PySem.W.Frag) (W : WXm) (r : Mu → Rs (List Ag)) : TA := fun σ H Q => ∃ c L M μ, Sr K c L M μ σ H ∧ Pst K c L M W σ H (rAg K σ) Q (r μ)
abbrev JAg (X : Cx) (W : WXm) (es : List Expr) (r : Mu → Rs (List Ag)) : Prop := PA X es (TrA X.K W r)
section
variable {K : PySem.W.Frag} {c : Ent} {L M : Ads} {μ μ' : Mu} {σ : St} {H H1 : Hp}
theorem AgOk.keep {as : List Ag} {vs : List V} (k : Kp L H H1) (h : AgOk K σ H L as vs) : AgOk K σ H1 L as vs := by
  induction h with
  | nil => exact .nil
  | val d _ ih => exact .val (d.keep k) ih
  | io e _ ih => exact .io e ih
/-- the callee's view of the arguments -/
theorem AgOk.args (S : Sr K c L M μ σ H) : ∀ {as : List Ag} {vs : List V} {sl : List Sl}, AgOk K σ H L as vs → argSl μ as = some sl →
    ArgOk K H L sl vs ∧ (∀ a, a ∈ ioA sl vs ↔ ∃ i ∈ ioNd as, σ[i]? = some (some (.ref a))) ∧ (∀ i ∈ ioNd as, ∃ d, μ[i]? = some (.own d)) ∧
      ((ioNd as).Nodup → (ioA sl vs).Nodup) ∧ Paired (fun i a => σ[i]? = some (some (.ref a))) (ioNd as) (ioA sl vs)
  | _, _, _, .nil, h => by
    cases h
    exact ⟨.nil, fun a => by simp [ioA, ioNd], fun i hi => by simp [ioNd] at hi, fun _ => List.nodup_nil, .nil⟩
  | .v d :: as, v :: vs, sl, .val w t, h => by
    unfold argSl at h
    cases q : argSl μ as with
    | none => rw [q] at h; cases h
    | some sl' =>
      rw [q] at h
      cases h
      obtain ⟨h1, h2, h3, h4, h5⟩ := AgOk.args S t q
      have e : ioA (.val d :: sl') (v :: vs) = ioA sl' vs := by cases v <;> rfl
      rw [show ioNd (.v d :: as) = ioNd as from rfl]
      refine ⟨.val w h1, ?_, h3, ?_, ?_⟩
      · rw [e]; exact h2
      · rw [e]; exact h4
      · rw [e]; exact h5
  | .io i :: as, v :: vs, sl, .io ev t, h => by
    unfold argSl at h
    cases ho : owned μ i with
    | none => rw [ho] at h; cases h
    | some d =>
      rw [ho] at h
      simp only at h
      cases q : argSl μ as with
      | none => rw [q] at h; cases h
      | some sl' =>
        rw [q] at h
        cases h
        have hd : μ[i]? = some (.own d) := by
          unfold owned at ho
          split at ho
          · cases ho; assumption
          · cases ho
        obtain ⟨a, e1, e2, e3⟩ := S.own i d hd
        have : v = .ref a := by rw [ev] at e1; exact Option.some.inj (Option.some.inj e1)
        subst this
        obtain ⟨h1, h2, h3, h4, h5⟩ := AgOk.args S t q
        refine ⟨.own e2 (S.ml a e3) h1, fun b => ?_, fun j hj => ?_, fun nd => ?_, ?_⟩
        · show b ∈ a :: ioA sl' vs ↔ ∃ j ∈ i :: ioNd as, σ[j]? = some (some (.ref b))
          rw [List.mem_cons, h2]
          constructor
          · rintro (rfl | ⟨j, hj, ej⟩)
            · exact ⟨i, List.mem_cons_self, ev⟩
            · exact ⟨j, List.mem_cons_of_mem _ hj, ej⟩
          · rintro ⟨j, hj, ej⟩
            rcases List.mem_cons.mp hj with rfl | hj
            · left; rw [ev] at ej; cases ej; rfl
            · exact .inr ⟨j, hj, ej⟩
        · rcases List.mem_cons.mp hj with rfl | hj
          · exact ⟨d, hd⟩
          · exact h3 j hj
        · show (a :: ioA sl' vs).Nodup
          have nd' : (i :: ioNd as).Nodup := nd
          rw [List.nodup_cons] at nd' ⊢
          refine ⟨fun hm => ?_, h4 nd'.2⟩
          obtain ⟨j, hj, ej⟩ := (h2 a).mp hm
          obtain ⟨d', hd'⟩ := h3 j hj
          have := S.inj i j _ _ a hd rfl hd' rfl ev ej
          subst this
          exact nd'.1 hj
        · exact .cons ev h5
/-- the slots behind a call -/
theorem outM_get : ∀ {is : List Nat} {ds : List D} {μ μ' : Mu}, outM is ds μ = some μ' → is.Nodup → (∀ i ∈ is, i < μ.length) →
    μ'.length = μ.length ∧ (∀ j, j ∉ is → μ'[j]? = μ[j]?) ∧ Paired (fun i d => μ'[i]? = some (.own d)) is ds
  | [], [], μ, μ', h, _, _ => by cases h; exact ⟨rfl, fun _ _ => rfl, .nil⟩
  | i :: is, d :: ds, μ, μ', h, nd, hl => by
    unfold outM at h
    rw [List.nodup_cons] at nd
    obtain ⟨h1, h2, h3⟩ := outM_get h nd.2 (fun j hj => by rw [List.length_set]; exact hl j (List.mem_cons_of_mem _ hj))
    rw [List.length_set] at h1
    refine ⟨h1, fun j hj => ?_, .cons ?_ h3⟩
    · rw [List.mem_cons, not_or] at hj
      rw [h2 j hj.2, List.getElem?_set_ne (Ne.symm hj.1)]
    · rw [h2 i nd.1, List.getElem?_set_self (hl i List.mem_cons_self)]
  | [], _ :: _, _, _, h, _, _ => by cases h
  | _ :: _, [], _, _, h, _, _ => by cases h
theorem paired_left {α β : Type} {R : α → β → Prop} : ∀ {xs : List α} {ys : List β}, Paired R xs ys → ∀ x ∈ xs, ∃ y ∈ ys, R x y
  | _, _, .nil, x, h => by simp at h
  | _, _, .cons r t, x, h => by
    rcases List.mem_cons.mp h with rfl | h
    · exact ⟨_, List.mem_cons_self, r⟩
    · obtain ⟨y, h1, h2⟩ := paired_left t x h
      exact ⟨y, List.mem_cons_of_mem _ h1, h2⟩
theorem paired_right {α β : Type} {R : α → β → Prop} : ∀ {xs : List α} {ys : List β}, Paired R xs ys → ∀ y ∈ ys, ∃ x ∈ xs, R x y
  | _, _, .nil, x, h => by simp at h
  | _, _, .cons r t, x, h => by
    rcases List.mem_cons.mp h with rfl | h
    · exact ⟨_, List.mem_cons_self, r⟩
    · obtain ⟨y, h1, h2⟩ := paired_right t x h
      exact ⟨y, List.mem_cons_of_mem _ h1, h2⟩
/-- three lists side by side -/
theorem out_at {H' : Hp} : ∀ {is : List Nat} {as : List Addr} {ds : List D}, Paired (fun i a => σ[i]? = some (some (V.ref a))) is as → Paired (fun i d => μ'[i]? = some (Sl.own d)) is ds → OutOk K H' L as ds →
    ∀ i ∈ is, ∃ a d, σ[i]? = some (some (.ref a)) ∧ μ'[i]? = some (.own d) ∧ OwnAt K H' L d a ∧ a ∈ as
  | _, _, _, .nil, .nil, _, i, h => by simp at h
  | _, _, _, .cons r1 t1, .cons r2 t2, .cons o1 o2, i, h => by
    rcases List.mem_cons.mp h with rfl | h
    · exact ⟨_, _, r1, r2, o1, List.mem_cons_self⟩
    · obtain ⟨a, d, h1, h2, h3, h4⟩ := out_at t1 t2 o2 i h
      exact ⟨a, d, h1, h2, h3, List.mem_cons_of_mem _ h4⟩
theorem OutOk.at {H' : Hp} : ∀ {as : List Addr} {ds : List D}, OutOk K H' L as ds → ∀ a ∈ as, ∃ d, OwnAt K H' L d a
  | _, _, .nil, a, h => by simp at h
  | _, _, .cons o t, a, h => by
    rcases List.mem_cons.mp h with rfl | h
    · exact ⟨_, o⟩
    · exact OutOk.at t a h
theorem Sr.after {H' : Hp} {L' : Ads} {is : List Nat} {as : List Addr} {outs : List D} (S : Sr K c L M μ σ H) (up : ∀ b, L b → L' b) (dn : ∀ b, L' b → L b ∨ (H b = none ∧ H' b ≠ none)) (nd : is.Nodup) (hk : ∀ a o, H a = some o → a ∉ as → H' a = some o) (hp : Paired (fun i a => σ[i]? = some (some (.ref a))) is as)
    (ho : ∀ i ∈ is, ∃ d, μ[i]? = some (.own d)) (oo : OutOk K H' L' as outs) (e : outM is outs μ = some μ') : Sr K c L' M μ' σ H' ∧ Kp M H H' := by
  have hl : ∀ i ∈ is, i < μ.length := fun i hi => by
    obtain ⟨d, e⟩ := ho i hi
    exact (List.getElem?_eq_some_iff.mp e).1
  obtain ⟨l1, l2, l3⟩ := outM_get e nd hl
  have asM : ∀ a ∈ as, M a := fun a ha => by
    obtain ⟨i, hi, ei⟩ := paired_right hp a ha
    obtain ⟨d, hd⟩ := ho i hi
    obtain ⟨b, e1, _, e3⟩ := S.own i d hd
    rw [ei] at e1; cases e1; exact e3
  have kp : Kp M H H' := fun a o q n => hk a o q fun ha => n (asM a ha)
  have kl : Kp L' H H' := kp.mono fun a h => up a (S.ml a h)
  have gr : ∀ b, L' b → L b ∨ H b = none := fun b h => (dn b h).imp_right fun z => z.1
  have back : ∀ (i : Nat) (s : Sl), μ'[i]? = some s → s.held = true → ∃ t, μ[i]? = some t ∧ t.held = true := fun i s q hh => by
    by_cases hi : i ∈ is
    · obtain ⟨d, hd⟩ := ho i hi; exact ⟨_, hd, rfl⟩
    · rw [l2 i hi] at q; exact ⟨s, q, hh⟩
  have off : ∀ (i : Nat) (s : Sl) (a : Addr), i ∉ is → μ[i]? = some s → s.held = true → σ[i]? = some (some (.ref a)) → a ∉ as := fun i s a ni q hh es ha => by
    obtain ⟨j, hj, ej⟩ := paired_right hp a ha
    obtain ⟨d, hd⟩ := ho j hj
    have := S.inj i j _ _ a q hh hd rfl es ej
    subst this
    exact ni hj
  refine ⟨⟨l1.trans S.len, fun i d q => ?_, fun i d q => ?_, fun i d q => ?_, fun i j s t a q1 hs q2 ht e1 e2 => ?_, fun b h => up b (S.ml b h), fun b h => ⟨up b (S.lkl b h).1, (S.lkl b h).2⟩, fun b h => up b (S.l0 b h), S.m0, S.l00, fun a hL => ?_, fun a o q n => ?_, fun p hpp => ?_, fun p hpp => ?_⟩, kp⟩
  · by_cases hi : i ∈ is
    · obtain ⟨a, d', _, h2, _⟩ := out_at hp l3 oo i hi
      rw [q] at h2; cases h2
    · rw [l2 i hi] at q
      obtain ⟨v, e1, e2⟩ := S.val i d q
      exact ⟨v, e1, (e2.grow gr).keep kl⟩
  · by_cases hi : i ∈ is
    · obtain ⟨a, d', h1, h2, h3, h4⟩ := out_at hp l3 oo i hi
      rw [q] at h2; cases h2
      exact ⟨a, h1, h3, asM a h4⟩
    · rw [l2 i hi] at q
      obtain ⟨a, e1, e2, e3⟩ := S.own i d q
      exact ⟨a, e1, (e2.grow gr).keep kl fun o eo => hk a o eo (off i _ a hi q rfl e1), e3⟩
  · by_cases hi : i ∈ is
    · obtain ⟨a, d', _, h2, _⟩ := out_at hp l3 oo i hi
      rw [q] at h2; cases h2
    · rw [l2 i hi] at q
      obtain ⟨a, e1, e2, e3⟩ := S.lck i d q
      exact ⟨a, e1, (e2.grow gr).keep kl fun o eo => hk a o eo (off i _ a hi q rfl e1), e3⟩
  · obtain ⟨s', q1', hs'⟩ := back i s q1 hs
    obtain ⟨t', q2', ht'⟩ := back j t q2 ht
    exact S.inj i j s' t' a q1' hs' q2' ht' e1 e2
  · by_cases ha : a ∈ as
    · obtain ⟨d, hd⟩ := oo.at a ha
      obtain ⟨o, eo⟩ := hd.there
      rw [eo]; simp
    · rcases dn a hL with hL | hL
      · cases q : H a with
        | none => exact absurd q (S.trk a hL)
        | some o => rw [hk a o q ha]; simp
      · exact hL.2
  · refine hk a o (S.keep a o q n) fun ha => ?_
    rcases S.m0 a (asM a ha) with h | h
    · exact n h
    · rw [h] at q; cases q
  · obtain ⟨e1, s, q, hs⟩ := S.io p hpp
    refine ⟨e1, ?_⟩
    by_cases hi : p.1 ∈ is
    · obtain ⟨a, d', _, h2, _⟩ := out_at hp l3 oo p.1 hi
      exact ⟨_, h2, rfl⟩
    · exact ⟨s, by rw [l2 _ hi]; exact q, hs⟩
  · obtain ⟨e1, dd, q⟩ := S.lks p hpp
    refine ⟨e1, dd, ?_⟩
    have hi : p.1 ∉ is := fun hi => by
      obtain ⟨d', hd'⟩ := ho p.1 hi
      rw [hd'] at q; cases q
    rw [l2 _ hi]; exact q
end

section
variable {X : Cx} {W : WXm} {e : Expr} {es : List Expr} {pos p : Pos} {ra : Mu → Rs D} {rs : Mu → Rs (List Ag)}
theorem jg_nil : JAg X W [] fun μ => .ok [] μ := pa_mono pa_nil fun _ _ _ ⟨_, _, _, _, S, p⟩ => p _ _ S .refl .nil
theorem jg_val (ha : JE X W e ra) (hr : JAg X W es rs) (hs : isStar e = false) : JAg X W (e :: es) fun μ => ((ra μ).bind fun d μ1 => .ok (.v d) μ1).bind fun x μ1 => (rs μ1).bind fun xs μ2 => .ok (x :: xs) μ2 := by
  refine pa_mono (pa_cons ha hr (starEach_cons hs _ _)) fun σ H Q ⟨c, L, M, μ, S, p⟩ => ⟨c, L, M, μ, S, ?_⟩
  cases hq : ra μ with
  | ok d μ1 =>
    simp only [hq] at p
    intro v H1 S1 k1 d1
    refine ⟨c, L, M, μ1, S1, Pst.bind (Pst.up k1 (show Pst X.K c L M W σ H (rAg X.K σ) Q ((rs μ1).bind fun xs μ2 => .ok (.v d :: xs) μ2) from p)) fun xs μ2 ws H2 S2 k2 d2 p2 => ?_⟩
    exact p2 _ _ S2 .refl (.val (S2.dk d1 k2) d2)
  | ex x μ1 => simp only [hq] at p; exact p
  | st => simp only [hq] at p; exact p
theorem jg_io {i : Nat} {x : Str} {p1 : Pos} (hN : X.N[i]? = some x) (hv : Vis X.env.scope x) (hd : (x == ("__debug__" : Str)) = false) (hcd : (x == ("__classdict__" : Str)) = false) (hr : JAg X W es rs) :
    JAg X W (.Name x p1 :: es) fun μ => (match owned μ i with
      | some _ => Rs.ok (Ag.io i) μ
      | none => .st).bind fun x μ1 => (rs μ1).bind fun xs μ2 => .ok (x :: xs) μ2 := by
  refine pa_mono (pa_cons (pe_var (i := i) hN hv hd hcd) hr (starEach_cons rfl _ _)) fun σ H Q ⟨c, L, M, μ, S, p⟩ => ?_
  cases ho : owned μ i with
  | none => simp only [ho] at p; exact p.elim
  | some d =>
    simp only [ho] at p
    have hd : μ[i]? = some (.own d) := by
      unfold owned at ho
      split at ho
      · cases ho; assumption
      · cases ho
    obtain ⟨a, e1, _, _⟩ := S.own i d hd
    refine ⟨.ref a, e1, c, L, M, μ, S, Pst.bind (show Pst X.K c L M W σ H (rAg X.K σ) Q ((rs μ).bind fun xs μ2 => .ok (.io i :: xs) μ2) from p) fun xs μ2 ws H2 S2 k2 d2 p2 => ?_⟩
    exact p2 _ _ S2 .refl (.io e1 d2)
theorem je_call {xr : XRl} {k n : Nat} {f : Addr} {fd : FuncData} {ps : List Str} {G : List Sl → FR} {x : Str} (F : FnG X.prog X.w X.K X.mg X.base (L2.CX X.prog X.w) k f fd ps (spF X.K xr n G)) (hr : Room k X.A) (hgd : X.A.guards = some []) (hg : Gl X x)
    (hm : X.mg x = some (.ref f)) (hk : PySem.W.keepIn X.K (.ref f) = true) (hb : Binds X.K fd ps []) (tk : Takes X (wx xr W)) (ha : JAg X W (e :: es) rs) (hn : ∀ μ xs μ', rs μ = .ok xs μ' → xs.length = n) (hdb : (x == ("__debug__" : Str)) = false) (hst : isStar e = false) (hpl : es.all (fun e => !isStar e) = true) :
    JE X W (.Call (.Name x p) (e :: es) [] pos) fun μ => (rs μ).bind fun xs μ1 => callG G xs μ1 := by
  refine ⟨fun pins s σ H Q I ⟨c, L, M, μ, S, pp⟩ => ?_⟩
  refine wpAny_Call_Name_kw (ld_glob I hg hm ?_ hdb)
  refine PySem.W.callWith_K (h₀ := X.base) I.ok.mod.kin hk (thn (ha.run pos pins s σ H (fun vs H1 => ∃ as μ1, as.length = n ∧ Sr X.K c L M μ1 σ H1 ∧ AgOk X.K σ H1 L as vs ∧ Pst X.K c L M W σ H1 (rD X.K) Q (callG G as μ1)) I
    ⟨c, L, M, μ, S, Pst.bindE pp fun as μ1 vs H1 e1 S1 k1 d1 p1 => ⟨as, μ1, hn _ _ _ e1, S1, d1, p1⟩⟩) fun us s1 ⟨vs, H1, I1, r, as, μ1, hlen, S1, d1, p1⟩ => ⟨I1.kIn, ?_⟩) (starEach_cons hst _ _) (backTo_plain hpl)
  unfold callG at p1
  split at p1
  · rename_i nd
    cases hsl : argSl μ1 as with
    | none => rw [hsl] at p1; exact p1.elim
    | some sl =>
      rw [hsl] at p1
      simp only at p1
      obtain ⟨h1, h2, h3, h4, h5⟩ := AgOk.args S1 d1 hsl
      have hln : sl.length = n := by
        have e1 := h1.length
        have e2 : ∀ {as : List Ag} {vs : List V}, AgOk X.K σ H1 L as vs → as.length = vs.length := fun {as vs} h => by
          induction h with
          | nil => rfl
          | val _ _ ih => simp [ih]
          | io _ _ ih => simp [ih]
        rw [e1, ← e2 d1]; exact hlen
      have prom : spF X.K xr n G vs H1 Q (WE (wx xr W) σ) := by
        refine ⟨L, sl, h1, hln, h4 nd, S1.trk, ?_⟩
        cases hG : G sl with
        | ok d outs =>
          rw [hG] at p1
          simp only at p1 ⊢
          intro v H' hk' dv oo
          split at p1
          · rename_i μ2 e2
            obtain ⟨S2, k2⟩ := S1.after (fun _ h => h) (fun _ h => .inl h) nd hk' h5 h3 oo e2
            exact p1 v H' S2 k2 dv
          · exact p1.elim
        | fr d outs => rw [hG] at p1; exact p1.elim
        | ex x outs =>
          rw [hG] at p1
          simp only at p1 ⊢
          intro cls d H' hk' hx oo
          split at p1
          · rename_i μ2 e2
            obtain ⟨S2, k2⟩ := S1.after (fun _ h => h) (fun _ h => .inl h) nd hk' h5 h3 oo e2
            exact ⟨x, hx, p1 H' S2 k2⟩
          · exact p1.elim
        | st => rw [hG] at p1; exact p1.elim
      have hl : us.length = ps.length := by rw [← r.length]; exact F.len _ _ _ _ prom
      have hbt : BindsTo s1 fd ⟨us, []⟩ (ps.zip us) := by
        have := hb s1 us I1.kIn (by rw [List.append_nil]; exact hl)
        rwa [List.append_nil] at this
      refine wpAny_call (codeAny_mono (F.run X.A X.stack s1 H1 ⟨us, []⟩ us vs Q (WE (wx xr W) σ) hr hgd I1.env0 hbt r prom) fun res s' hq => ?_)
      cases res with
      | error ee => exact passAt tk σ pins H1 s1 ee s' I1 hq
      | ok fl =>
        cases fl with
        | ret u => exact I1.after hq
        | next => exact hq.elim
        | brk => exact hq.elim
        | cont => exact hq.elim
  · exact p1.elim
theorem jf_call {xr : XRl} {k n : Nat} {f : Addr} {fd : FuncData} {ps : List Str} {G : List Sl → FR} {x : Str} (F : FnG X.prog X.w X.K X.mg X.base (L2.CX X.prog X.w) k f fd ps (spF X.K xr n G)) (hr : Room k X.A) (hgd : X.A.guards = some []) (hg : Gl X x)
    (hm : X.mg x = some (.ref f)) (hk : PySem.W.keepIn X.K (.ref f) = true) (hb : Binds X.K fd ps []) (tk : Takes X (wx xr W)) (ha : JAg X W (e :: es) rs) (hn : ∀ μ xs μ', rs μ = .ok xs μ' → xs.length = n) (hdb : (x == ("__debug__" : Str)) = false) (hst : isStar e = false) (hpl : es.all (fun e => !isStar e) = true) :
    JF X W (.Call (.Name x p) (e :: es) [] pos) fun μ => (rs μ).bind fun xs μ1 => callH G xs μ1 := by
  refine ⟨fun pins s σ H Q I ⟨c, L, M, μ, S, pp⟩ => ?_⟩
  refine wpAny_Call_Name_kw (ld_glob I hg hm ?_ hdb)
  refine PySem.W.callWith_K (h₀ := X.base) I.ok.mod.kin hk (thn (ha.run pos pins s σ H (fun vs H1 => ∃ as μ1, as.length = n ∧ Sr X.K c L M μ1 σ H1 ∧ AgOk X.K σ H1 L as vs ∧ Pf X.K c L M W σ H1 Q (callH G as μ1)) I
    ⟨c, L, M, μ, S, Pst.bindF pp fun as μ1 vs H1 e1 S1 k1 d1 p1 => ⟨as, μ1, hn _ _ _ e1, S1, d1, p1⟩⟩) fun us s1 ⟨vs, H1, I1, r, as, μ1, hlen, S1, d1, p1⟩ => ⟨I1.kIn, ?_⟩) (starEach_cons hst _ _) (backTo_plain hpl)
  unfold callH at p1
  split at p1
  · rename_i nd
    cases hsl : argSl μ1 as with
    | none => rw [hsl] at p1; exact p1.elim
    | some sl =>
      rw [hsl] at p1
      simp only at p1
      obtain ⟨h1, h2, h3, h4, h5⟩ := AgOk.args S1 d1 hsl
      have hln : sl.length = n := by
        have e1 := h1.length
        have e2 : ∀ {as : List Ag} {vs : List V}, AgOk X.K σ H1 L as vs → as.length = vs.length := fun {as vs} h => by
          induction h with
          | nil => rfl
          | val _ _ ih => simp [ih]
          | io _ _ ih => simp [ih]
        rw [e1, ← e2 d1]; exact hlen
      have prom : spF X.K xr n G vs H1 Q (WE (wx xr W) σ) := by
        refine ⟨L, sl, h1, hln, h4 nd, S1.trk, ?_⟩
        cases hG : G sl with
        | ok d outs => rw [hG] at p1; exact p1.elim
        | fr d outs =>
          rw [hG] at p1
          simp only at p1 ⊢
          intro a H' hk' hn ow oo
          split at p1
          · rename_i μ2 e2
            have nL : ¬ L a := S1.free hn
            obtain ⟨o, eo⟩ := ow.there
            obtain ⟨S2, k2⟩ := S1.after (L' := plusA L a) (fun _ h => .inl h) (fun b h => h.imp_right fun z => by subst z; exact ⟨hn, by rw [eo]; simp⟩) nd hk' h5 h3 oo e2
            exact p1 a H' (S2.minus S1.ml S1.l0 fun b h => (S1.lkl b h).1) S2 k2 nL (fun b e => by rw [hn] at e; cases e) ow
          · exact p1.elim
        | ex x outs =>
          rw [hG] at p1
          simp only at p1 ⊢
          intro cls d H' hk' hx oo
          split at p1
          · rename_i μ2 e2
            obtain ⟨S2, k2⟩ := S1.after (fun _ h => h) (fun _ h => .inl h) nd hk' h5 h3 oo e2
            exact ⟨x, hx, p1 H' S2 k2⟩
          · exact p1.elim
        | st => rw [hG] at p1; exact p1.elim
      have hl : us.length = ps.length := by rw [← r.length]; exact F.len _ _ _ _ prom
      have hbt : BindsTo s1 fd ⟨us, []⟩ (ps.zip us) := by
        have := hb s1 us I1.kIn (by rw [List.append_nil]; exact hl)
        rwa [List.append_nil] at this
      refine wpAny_call (codeAny_mono (F.run X.A X.stack s1 H1 ⟨us, []⟩ us vs Q (WE (wx xr W) σ) hr hgd I1.env0 hbt r prom) fun res s' hq => ?_)
      cases res with
      | error ee => exact passAt tk σ pins H1 s1 ee s' I1 hq
      | ok fl =>
        cases fl with
        | ret u => exact I1.after hq
        | next => exact hq.elim
        | brk => exact hq.elim
        | cont => exact hq.elim
  · exact p1.elim
end
end Mn
set_option Elab.async false
set_option linter.all false
set_option maxRecDepth 100000
set_option autoImplicit false
namespace Mn
open PySem PySem.Spec L2
/-! ## zip over lists, tuples and texts in any mix -/
inductive Sc where
  | l (a : Addr)
  | t (a : Addr)
  | s (x : Str)
def signs (x : Str) : List V := x.cps.toList.map fun c => V.str ⟨#[c]⟩
def ScAt (K : PySem.W.Frag) (H : Hp) : Sc → List V → Prop
  | .l a, vs => SqL K H a vs
  | .t a, vs => SqT K H a vs
  | .s x, vs => vs = signs x
def ScV : Sc → V
  | .l a => .ref a
  | .t a => .ref a
  | .s x => .str x
def scA : Sc → Option Addr
  | .l a => some a
  | .t a => some a
  | .s _ => none
/-- its iterator, behind i draws -/
def ScIt (it : Addr) (k : Tok) (i : Nat) (h : Heap) : Sc → Prop
  | .l a => h.IsListIter it a i
  | .t a => h.IsTupleIter it a i
  | .s x => h.IsStrIter it (strIterType x) x k i
def ScOb (k : Tok) : Sc → Obj
  | .l a => { cls := .type "list_iterator", data := .fields #[.ref a, .int 0 0] }
  | .t a => { cls := .type "tuple_iterator", data := .fields #[.ref a, .int 0 0] }
  | .s x => { cls := .type (strIterType x), data := .fields #[.str x k, .int 0 0] }
def Itg (K : PySem.W.Frag) (p q : Sc) : It :=
  ⟨fun i H => ∃ (xs ys : List V) (x y : V), ScAt K H p xs ∧ ScAt K H q ys ∧ xs[i]? = some x ∧ ys[i]? = some y,
   fun i H v H' => ∃ T x y, v = .ref T ∧ H T = none ∧ H' = upd H T (.tup [x, y]) ∧ (∀ xs, ScAt K H p xs → xs[i]? = some x) ∧ ∀ ys, ScAt K H q ys → ys[i]? = some y,
   fun i H => ∃ xs ys : List V, ScAt K H p xs ∧ ScAt K H q ys ∧ i = min xs.length ys.length⟩
theorem vals_back : ∀ {xs : List V} {us : List Value} {i : Nat} {u : Value}, Vals xs us → us[i]? = some u → ∃ x, xs[i]? = some x ∧ RelV x u
  | _, _, _, _, .nil, e => by simp at e
  | _, _, 0, _, .cons r _, e => by simp at e; subst e; exact ⟨_, rfl, r⟩
  | _, _, i + 1, u, .cons _ t, e => by
    obtain ⟨x, h1, h2⟩ := vals_back (i := i) (u := u) t (by simpa using e)
    exact ⟨x, by simpa using h1, h2⟩
section
variable {X : Cx} {pins : List (Addr × Obj)} {σ : L2.St} {H : Hp} {s : Shared}
theorem ScAt.inj (I : Inv X pins σ H s) {p : Sc} {xs ys : List V} (h : ScAt X.K H p xs) (g : ScAt X.K H p ys) : xs = ys := by
  cases p with
  | l a => exact I.list_inj h g
  | t a => exact I.tuple_inj h g
  | s x => exact (show xs = signs x from h).trans (show ys = signs x from g).symm
theorem ScIt.at {it : Addr} {k : Tok} {i : Nat} {h h' : Heap} {p : Sc} (st : ScIt it k i h p) (e : ∀ o, h.get? it = some o → h'.get? it = some o) : ScIt it k i h' p := by
  cases p with
  | l a => exact Heap.IsListIter.at st e
  | t a => exact Heap.IsTupleIter.at st e
  | s x => obtain ⟨o, ho, r⟩ := st; exact ⟨o, e o ho, r⟩
theorem ScIt.fields {it : Addr} {k : Tok} {i : Nat} {h : Heap} {p : Sc} (st : ScIt it k i h p) : ∃ o, h.get? it = some o ∧ ∀ v, o.data ≠ .cell v := by
  cases p with
  | l a => obtain ⟨o, e, _, d⟩ := st; exact ⟨o, e, fun v z => by rw [d] at z; cases z⟩
  | t a => obtain ⟨o, e, _, d⟩ := st; exact ⟨o, e, fun v z => by rw [d] at z; cases z⟩
  | s x => obtain ⟨o, e, _, d⟩ := st; exact ⟨o, e, fun v z => by rw [d] at z; cases z⟩
/-- what its iterator draws -/
theorem sc_draws {A : Around} (hh : A.handled = none) (I : Inv X pins σ H s) {p : Sc} {it : Addr} {k : Tok} {vs : List V} (h : ScAt X.K H p vs) (ne : ∀ a, scA p = some a → a ≠ it) :
    ∃ (fp : List Addr) (P : Nat → Value → Prop) (St : Nat → Heap → Prop), Draws X.prog X.w A it fp vs.length P St ∧ it ∈ fp ∧ (∀ b ∈ fp, b = it ∨ scA p = some b) ∧ (∀ i v, P i v → ∃ x, vs[i]? = some x ∧ RelV x v) ∧ (∀ i, ScIt it k i s.heap p → St i s.heap) ∧ (∀ i h', St i h' → ScIt it k i h' p) := by
  cases p with
  | l a =>
    obtain ⟨its, rv, q, _⟩ := I.list h
    have D := Draws.list (prog := X.prog) (w := X.w) hh it a (ne a rfl) its.toArray
    have hn : its.toArray.size = vs.length := by rw [List.size_toArray]; exact (Paired.length rv).symm
    rw [hn] at D
    refine ⟨_, _, _, D, by simp, fun b hb => ?_, fun i v e => ?_, fun i st => ⟨st, q.isList⟩, fun i h' st => st.1⟩
    · simp at hb; rcases hb with rfl | rfl
      · exact .inl rfl
      · exact .inr rfl
    · have e' : its[i]? = some v := by simpa using e
      exact vals_back rv e'
  | t a =>
    obtain ⟨its, rv, q, _⟩ := I.tuple h
    have D := Draws.tuple (prog := X.prog) (w := X.w) hh it a (ne a rfl) its.toArray
    have hn : its.toArray.size = vs.length := by rw [List.size_toArray]; exact (Paired.length rv).symm
    rw [hn] at D
    refine ⟨_, _, _, D, by simp, fun b hb => ?_, fun i v e => ?_, fun i st => ⟨st, q⟩, fun i h' st => st.1⟩
    · simp at hb; rcases hb with rfl | rfl
      · exact .inl rfl
      · exact .inr rfl
    · have e' : its[i]? = some v := by simpa using e
      exact vals_back rv e'
  | s x =>
    have e : vs = signs x := h
    subst e
    have D := Draws.text (prog := X.prog) (w := X.w) hh it x k
    have hn : x.cps.size = (signs x).length := by unfold signs; rw [List.length_map, Array.length_toList]
    rw [hn] at D
    refine ⟨_, _, _, D, by simp, fun b hb => ?_, fun i v ⟨c, u, e1, e2⟩ => ?_, fun i st => st, fun i h' st => st⟩
    · simp at hb; exact .inl hb
    · refine ⟨.str ⟨#[c]⟩, ?_, ?_⟩
      · unfold signs; rw [List.getElem?_map, Array.getElem?_toList, e1]; rfl
      · subst e2; exact ⟨u, rfl⟩
end
theorem nA {a b : Nat} (h : a < b ∨ b < a) : @Ne Addr a b := fun e => by have e' : (a : Nat) = b := e; omega
/-- the walk of a zip -/
theorem turn_g {P : Program} {w : World} {K : PySem.W.Frag} {elts : List Expr} {kk : Nat} {tpos : Pos} {p q : Sc} {N : Nat} {k1 k2 : Tok} (lp : ∀ a : Nat, scA p = some a → a < N) (lq : ∀ a : Nat, scA q = some a → a < N) :
    Turn P w K (.Tuple elts kk tpos) (Itg K p q) [N + 4, N + 2, N + 3, N, N + 1] (N + 4) (fun i h => IsZip h (N + 4) (N + 2) (N + 3) .none ∧ IsTupOf2 h (N + 2) (.ref N) (.ref (N + 1)) ∧ (∃ x y, IsTupOf2 h (N + 3) x y) ∧ ScIt N k1 i h p ∧ ScIt (N + 1) k2 i h q) where
  mem := by simp
  obj := fun i h ⟨a1, a2, ⟨x, y, a3⟩, a4, a5⟩ c hc => by
    simp only [List.mem_cons, List.not_mem_nil, or_false] at hc
    rcases hc with rfl | rfl | rfl | rfl | rfl
    · exact ⟨_, a1, fun v z => nomatch z⟩
    · exact ⟨_, a2, fun v z => nomatch z⟩
    · exact ⟨_, a3, fun v z => nomatch z⟩
    · exact a4.fields
    · exact a5.fields
  keep := fun i h h' ⟨a1, a2, ⟨x, y, a3⟩, a4, a5⟩ k => ⟨k _ (by simp) _ a1, k _ (by simp) _ a2, ⟨x, y, k _ (by simp) _ a3⟩, a4.at fun o e => k _ (by simp) o e, a5.at fun o e => k _ (by simp) o e⟩
  item := by
    rintro X rfl rfl rfl hc i pins s σ H E I hf ⟨a1, a2, ⟨b1, b2, a3⟩, a4, a5⟩ ⟨xs, ys, x, y, g1, g2, e1, e2⟩
    have hh := I.ok.hd hc
    obtain ⟨fp1, P1, S1, D1, m1, o1, r1, i1, j1⟩ := sc_draws (A := X.A.in1) (it := N) (k := k1) hh I g1 fun a ha => nA (by have := lp a ha; omega)
    obtain ⟨fp2, P2, S2, D2, m2, o2, r2, i2, j2⟩ := sc_draws (A := X.A.in1) (it := N + 1) (k := k2) hh I g2 fun a ha => nA (.inl (by have := lq a ha; omega))
    have n1 : ∀ b, N + 1 ≤ b → b ∉ fp1 := fun b hb z => by
      rcases o1 b z with q | q
      · have q' : (b : Nat) = N := q; omega
      · have := lp b q; omega
    have n2 : ∀ b, (N ≤ b ∧ (b < N + 1 ∨ N + 1 < b)) → b ∉ fp2 := fun b hb z => by
      rcases o2 b z with q | q
      · have q' : (b : Nat) = N + 1 := q; omega
      · have := lq b q; omega
    have Sp : ZipSep2 (N + 4) (N + 2) (N + 3) N (N + 1) fp1 fp2 := ⟨nA (by omega), nA (by omega), nA (by omega), nA (by omega), m1, n1 _ (by omega), n1 _ (by omega), nA (by omega), m2, n2 _ (by omega), n2 _ (by omega), n2 _ (by omega), n1 _ (by omega)⟩
    have l1 : i < xs.length := (List.getElem?_eq_some_iff.mp e1).1
    have l2 : i < ys.length := (List.getElem?_eq_some_iff.mp e2).1
    refine wpAny_pyNext_zipD2_item Sp D1 D2 a1 a2 a3 (i1 _ a4) (i2 _ a5) l1 l2 fun u1 u2 h' tk q1 q2 z1 z2 z3 z4 z5 z6 z7 => ?_
    refine ⟨_, rfl, wpAny_letOwnedTupleGo_zip (s := { s with heap := h', toks := tk }) z1 fun h2 y1 y2 => ?_⟩
    obtain ⟨x', f1, rx⟩ := r1 i u1 q1
    obtain ⟨y', f2, ry⟩ := r2 i u2 q2
    obtain rfl : x = x' := Option.some.inj (e1.symm.trans f1)
    obtain rfl : y = y' := Option.some.inj (e2.symm.trans f2)
    have zl : N + 4 < s.heap.objs.size := Heap.lt_size a1
    have new : h2.get? s.heap.objs.size = some { cls := .type "tuple", data := .seq #[u1, u2] } := (y2.2 _ (Nat.ne_of_gt zl)).trans z5
    have ok : ObjOk X.prog X.w (upd H s.heap.objs.size (.tup [x, y])) h2 s.heap.objs.size (.tup [x, y]) := ⟨by show 2 ≤ sizeLine; decide, [u1, u2], .cons rx (.cons ry .nil), ⟨_, new, rfl, _, rfl⟩⟩
    have kp : ∀ c o, c ∉ [N + 4, N + 2, N + 3, N, N + 1] → s.heap.get? c = some o → h2.get? c = some o := fun c o hb e => by
      simp only [List.mem_cons, List.not_mem_nil, or_false, not_or] at hb
      exact (y2.2 c hb.1).trans (z7 c o hb.1 hb.2.2.1 hb.2.2.2.1 hb.2.2.2.2 e)
    refine ⟨.ref s.heap.objs.size, _, I.turnedNew (t' := tk) (ch := [N + 4, N + 2, N + 3, N, N + 1]) kp hf (Nat.le_refl _) ok, rfl, ⟨_, x, y, rfl, I.hok.fresh (Nat.le_refl _), rfl, fun l hl => by rw [hl.inj I g1]; exact e1, fun l hl => by rw [hl.inj I g2]; exact e2⟩, ⟨y1, ?_, ⟨u1, u2, ?_⟩, ?_, ?_⟩, fun c hcm => ?_⟩
    · exact (y2.2 _ (nA (by omega))).trans (z7 _ _ (nA (by omega)) (nA (by omega)) (nA (by omega)) (nA (by omega)) a2)
    · exact (y2.2 _ (nA (by omega))).trans z2
    · exact (j1 _ _ z3).at fun o e => (y2.2 _ (nA (by omega))).trans e
    · exact (j2 _ _ z4).at fun o e => (y2.2 _ (nA (by omega))).trans e
    · have hlt : @LT.lt Nat _ c s.heap.objs.size := by
        simp only [List.mem_cons, List.not_mem_nil, or_false] at hcm
        rcases hcm with rfl | rfl | rfl | rfl | rfl <;> omega
      rw [upd_ne (Nat.ne_of_lt hlt)]
      exact (hf c hcm).1
  done := by
    rintro X rfl rfl rfl hc i pins s σ H E I hf ⟨a1, a2, ⟨b1, b2, a3⟩, a4, a5⟩ ⟨xs, ys, g1, g2, e⟩
    have hh := I.ok.hd hc
    obtain ⟨fp1, P1, S1, D1, m1, o1, r1, i1, j1⟩ := sc_draws (A := X.A.in1) (it := N) (k := k1) hh I g1 fun a ha => nA (by have := lp a ha; omega)
    obtain ⟨fp2, P2, S2, D2, m2, o2, r2, i2, j2⟩ := sc_draws (A := X.A.in1) (it := N + 1) (k := k2) hh I g2 fun a ha => nA (.inl (by have := lq a ha; omega))
    have n1 : ∀ b, N + 1 ≤ b → b ∉ fp1 := fun b hb z => by
      rcases o1 b z with q | q
      · have q' : (b : Nat) = N := q; omega
      · have := lp b q; omega
    have n2 : ∀ b, (N ≤ b ∧ (b < N + 1 ∨ N + 1 < b)) → b ∉ fp2 := fun b hb z => by
      rcases o2 b z with q | q
      · have q' : (b : Nat) = N + 1 := q; omega
      · have := lq b q; omega
    have Sp : ZipSep2 (N + 4) (N + 2) (N + 3) N (N + 1) fp1 fp2 := ⟨nA (by omega), nA (by omega), nA (by omega), nA (by omega), m1, n1 _ (by omega), n1 _ (by omega), nA (by omega), m2, n2 _ (by omega), n2 _ (by omega), n2 _ (by omega), n1 _ (by omega)⟩
    refine wpAny_pyNext_zipD2_end Sp D1 D2 a1 a2 a3 (i1 _ a4) (i2 _ a5) (by omega) (by omega) (by omega) fun h' tk kp => ⟨rfl, I.turnedL (t' := tk) (ch := [N + 4, N + 2, N + 3, N, N + 1]) (fun c o hb q => ?_) hf⟩
    simp only [List.mem_cons, List.not_mem_nil, or_false, not_or] at hb
    exact kp c o hb.1 hb.2.2.1 hb.2.2.2.1 hb.2.2.2.2 q
  self := fun A i s Q E st h => wpAny_pyIter_zip st.1 h
/-- how it begins -/
theorem sc_begins {X : Cx} {pins : List (Addr × Obj)} {σ : L2.St} {H : Hp} {s : Shared} (I : Inv X pins σ H s) {p : Sc} {vs : List V} {u : Value} (h : ScAt X.K H p vs) (r : RelV (ScV p) u) :
    ∃ (k : Tok) (G : Heap → Prop), Begins u (ScOb k p) G ∧ G s.heap ∧ (∀ a : Nat, scA p = some a → a < s.heap.objs.size) ∧ ∀ (h' : Heap) (it : Addr), h'.get? it = some (ScOb k p) → ScIt it k 0 h' p := by
  cases p with
  | l a =>
    obtain rfl : u = Value.ref a := r
    obtain ⟨its, rv, q, _⟩ := I.list h
    exact ⟨0, _, begins_list a its.toArray, q.isList, fun b hb => by cases hb; exact q.lt, fun h' it e => ⟨_, e, rfl, rfl⟩⟩
  | t a =>
    obtain rfl : u = Value.ref a := r
    obtain ⟨its, rv, q, _⟩ := I.tuple h
    obtain ⟨o, ho, _⟩ := id q
    exact ⟨0, _, begins_tuple a its.toArray, q, fun b hb => by cases hb; exact Heap.lt_size ho, fun h' it e => ⟨_, e, rfl, rfl⟩⟩
  | s x =>
    obtain ⟨t, rfl⟩ := r
    exact ⟨t, fun _ => True, begins_text x t, trivial, fun b hb => (by cases hb), fun h' it e => ⟨_, e, rfl, rfl⟩⟩
def iZipG (K : PySem.W.Frag) (ta : TA) : TI := fun σ H R => ta σ H fun vs H1 => ∃ p q xs ys, vs = [ScV p, ScV q] ∧ ScAt K H1 p xs ∧ ScAt K H1 q ys ∧ R (Itg K p q) H1
theorem pi_zipG {X : Cx} {e e2 : Expr} {ta : TA} {p pos tpos : Pos} {elts : List Expr} {kk : Nat} (hg : Gl X "zip") (hm : X.mg "zip" = none) (ha : PA X [e, e2] ta)
    (hs : starEach [e, e2] X.env = (false, eval e X.env) :: starEach [e2] X.env) (hpl : (backTo pos (starEach [e2] X.env)).any (·.1) = false) :
    PI X (.Tuple elts kk tpos) (.Call (.Name "zip" p) [e, e2] [] pos) (iZipG X.K ta) := by
  refine ⟨fun pins s σ H R I h => PyProof.Rows.Call_ (ld_blt I hg hm PyProof.Rows.boot_zip (PyProof.Rows.callWith_type1 (thn (ha.run pos pins s σ H _ I h) fun us s1 ⟨vs, H1, I1, rv, sp, sq, xs, ys, ev, g1, g2, q⟩ => ?_) hs hpl))⟩
  subst ev
  cases rv with
  | cons ra rr =>
    cases rr with
    | cons rb rr =>
      cases rr
      obtain ⟨k1, G1, B1, h1, l1, j1⟩ := sc_begins I1 g1 ra
      obtain ⟨k2, G2, B2, h2, l2, j2⟩ := sc_begins I1 g2 rb
      refine zip_begins2 B1 B2 h1 h2 fun h' z1 z2 z3 z4 z5 z6 kp => wpAny_pyIter_zip z1 ?_
      refine ⟨s1.heap.objs.size + 4, [s1.heap.objs.size + 4, s1.heap.objs.size + 2, s1.heap.objs.size + 3, s1.heap.objs.size, s1.heap.objs.size + 1], _, _, H1, rfl, I1.kept (t' := s1.toks) kp, turn_g (k1 := k1) (k2 := k2) l1 l2, ⟨z1, z2, ⟨_, _, z3⟩, j1 _ _ z4, j2 _ _ z5⟩, fun c hcm => ?_, q⟩
      have hle : s1.heap.objs.size ≤ c := by
        simp only [List.mem_cons, List.not_mem_nil, or_false] at hcm
        rcases hcm with rfl | rfl | rfl | rfl | rfl <;> omega
      exact I1.fpOk hle (I1.hok.fresh hle)
end Mn
set_option Elab.async false
set_option linter.all false
set_option maxRecDepth 100000
set_option autoImplicit false
namespace Mn
open PySem PySem.Spec L2
/-! ## what is walked -/
inductive Yi where
  | one (v : V)
  | two (v w : V)
def YOk : Yi → V → Hp → Hp → Prop
  | .one v, x, H, H' => x = v ∧ H' = H
  | .two v w, x, H, H' => ∃ T, x = .ref T ∧ H T = none ∧ H' = upd H T (.tup [v, w])
inductive Dyi (K : PySem.W.Frag) (H : Hp) (L : Ads) : D → Yi → Prop
  | one {d : D} {v : V} : Dv K H L d v → Dyi K H L d (.one v)
  | two {d e : D} {v w : V} : Dv K H L d v → Dv K H L e w → Dyi K H L (pairD d e) (.two v w)
inductive Dys (K : PySem.W.Frag) (H : Hp) (L : Ads) : List D → List Yi → Prop
  | nil : Dys K H L [] []
  | cons {d : D} {y : Yi} {ds : List D} {ys : List Yi} : Dyi K H L d y → Dys K H L ds ys → Dys K H L (d :: ds) (y :: ys)
def ItAt (J : It) (ys : List Yi) (H : Hp) : Prop := (∀ (i : Nat) (y : Yi), ys[i]? = some y → J.go i H ∧ ∀ x H', J.yld i H x H' → YOk y x H H') ∧ J.stop ys.length H
def IterSt (K : PySem.W.Frag) (L N : Ads) (J : It) (ds : List D) (H : Hp) : Prop := ∃ (deps : List (Addr × HO)) (ys : List Yi), (∀ p ∈ deps, H p.1 = some p.2 ∧ ¬ N p.1) ∧ Dys K H L ds ys ∧ ∀ H', (∀ p ∈ deps, H' p.1 = some p.2) → ItAt J ys H'
section
variable {K : PySem.W.Frag} {L L' N N' : Ads} {J : It} {ds : List D} {ys : List Yi} {H H' : Hp}
theorem Dyi.keep {d : D} {y : Yi} (k : Kp L H H') (h : Dyi K H L d y) : Dyi K H' L d y := by
  cases h with
  | one w => exact .one (w.keep k)
  | two w z => exact .two (w.keep k) (z.keep k)
theorem Dyi.anti {d : D} {y : Yi} (k : ∀ a, L' a → L a) (h : Dyi K H L d y) : Dyi K H L' d y := by
  cases h with
  | one w => exact .one (w.anti k)
  | two w z => exact .two (w.anti k) (z.anti k)
theorem Dyi.plus {d : D} {y : Yi} {b : Addr} (n : H b = none) (h : Dyi K H L d y) : Dyi K H (plusA L b) d y := by
  cases h with
  | one w => exact .one (w.plus n)
  | two w z => exact .two (w.plus n) (z.plus n)
theorem Dys.map {f : ∀ {d : D} {y : Yi}, Dyi K H L d y → Dyi K H' L' d y} : ∀ {ds : List D} {ys : List Yi}, Dys K H L ds ys → Dys K H' L' ds ys
  | _, _, .nil => .nil
  | _, _, .cons h t => .cons (f h) (Dys.map (f := f) t)
theorem Dys.length : ∀ {ds : List D} {ys : List Yi}, Dys K H L ds ys → ds.length = ys.length
  | _, _, .nil => rfl
  | _, _, .cons _ t => congrArg (· + 1) (Dys.length t)
theorem Dys.at : ∀ {ds : List D} {ys : List Yi} {i : Nat} {d : D}, Dys K H L ds ys → ds[i]? = some d → ∃ y, ys[i]? = some y ∧ Dyi K H L d y
  | _, _, _, _, .nil, e => by simp at e
  | _, _, 0, _, .cons x _, e => by simp at e; subst e; exact ⟨_, rfl, x⟩
  | _, _, i + 1, d, .cons _ t, e => by
    obtain ⟨y, h1, h2⟩ := Dys.at (i := i) (d := d) t (by simpa using e)
    exact ⟨y, by simpa using h1, h2⟩
theorem Dys.ones : ∀ {ds : List D} {vs : List V}, Dvs K H L ds vs → Dys K H L ds (vs.map .one)
  | _, _, .nil => .nil
  | _, _, .cons h t => .cons (.one h) (Dys.ones t)
theorem IterSt.keep (h : IterSt K L N J ds H) (k : Kp N H H') (nl : ∀ a, N a → L a) : IterSt K L N J ds H' := by
  obtain ⟨deps, ys, h1, h2, h3⟩ := h
  exact ⟨deps, ys, fun p hp => ⟨k _ _ (h1 p hp).1 (h1 p hp).2, (h1 p hp).2⟩, h2.map (f := fun x => x.keep (k.mono nl)), h3⟩
theorem IterSt.plus {b : Addr} (h : IterSt K L N J ds H) (n : H b = none) : IterSt K (plusA L b) (plusA N b) J ds H := by
  obtain ⟨deps, ys, h1, h2, h3⟩ := h
  exact ⟨deps, ys, fun p hp => ⟨(h1 p hp).1, fun z => z.elim (h1 p hp).2 (ne_of_none (h1 p hp).1 n)⟩, h2.map (f := fun x => x.plus n), h3⟩
theorem IterSt.anti (h : IterSt K L N J ds H) (hl : ∀ a, L' a → L a) (hn : ∀ a, N' a → N a) : IterSt K L' N' J ds H := by
  obtain ⟨deps, ys, h1, h2, h3⟩ := h
  exact ⟨deps, ys, fun p hp => ⟨(h1 p hp).1, fun z => (h1 p hp).2 (hn _ z)⟩, h2.map (f := fun x => x.anti hl), h3⟩
theorem IterSt.laid (h : IterSt K L N J ds H) (k : ∀ a o, H a = some o → H' a = some o) : IterSt K L N J ds H' := by
  obtain ⟨deps, ys, h1, h2, h3⟩ := h
  exact ⟨deps, ys, fun p hp => ⟨k _ _ (h1 p hp).1, (h1 p hp).2⟩, h2.map (f := fun x => x.keep fun a o e _ => k a o e), h3⟩
theorem IterSt.turn {i : Nat} {d : D} (h : IterSt K L N J ds H) (e : ds[i]? = some d) : ∃ y, Dyi K H L d y ∧ J.go i H ∧ ∀ x H', J.yld i H x H' → YOk y x H H' := by
  obtain ⟨deps, ys, h1, h2, h3⟩ := h
  obtain ⟨y, ey, dy⟩ := h2.at e
  obtain ⟨a, b⟩ := (h3 H fun p hp => (h1 p hp).1).1 i y ey
  exact ⟨y, dy, a, b⟩
theorem IterSt.stop (h : IterSt K L N J ds H) : J.stop ds.length H := by
  obtain ⟨deps, ys, h1, h2, h3⟩ := h
  rw [h2.length]
  exact (h3 H fun p hp => (h1 p hp).1).2
/-! the kinds -/
theorem sqL_deps {a : Addr} {vs : List V} (r : Rd H a (.lst vs)) : ∃ o, H a = some o ∧ ∀ H' : Hp, H' a = some o → SqL K H' a vs := by
  rcases r with r | ⟨o, r⟩
  · exact ⟨_, r, fun H' e => .inl (.inl e)⟩
  · exact ⟨_, r, fun H' e => .inl (.inr ⟨o, e⟩)⟩
theorem sqT_deps {a : Addr} {vs : List V} (r : Rd H a (.tup vs)) : ∃ o, H a = some o ∧ ∀ H' : Hp, H' a = some o → SqT K H' a vs := by
  rcases r with r | ⟨o, r⟩
  · exact ⟨_, r, fun H' e => .inl (.inl e)⟩
  · exact ⟨_, r, fun H' e => .inl (.inr ⟨o, e⟩)⟩
/-- what a walked thing leans on: its one object, or none (a constant of the module) -/
theorem Dw.src {d : D} {v : V} {xs : List D} (w : Dw K H L d v) (hs : seqD0 d = some xs) : ∃ (a : Addr) (vs : List V) (deps : List (Addr × HO)), v = .ref a ∧ Dvs K H L xs vs ∧ (∀ p ∈ deps, H p.1 = some p.2 ∧ (¬ L p.1 ∨ (p.1 = a ∧ OwnAt K H L d a))) ∧
    ((d = .list xs ∧ ∀ H' : Hp, (∀ p ∈ deps, H' p.1 = some p.2) → SqL K H' a vs) ∨ (d = .tuple xs ∧ ∀ H' : Hp, (∀ p ∈ deps, H' p.1 = some p.2) → SqT K H' a vs)) := by
  unfold seqD0 at hs
  split at hs
  · cases hs
    rcases w with w | ⟨a, rfl, w⟩
    · cases w with
      | lst n r s =>
        obtain ⟨o, e, f⟩ := sqL_deps (K := K) r
        exact ⟨_, _, [(_, o)], rfl, s, fun p hp => by simp at hp; subst hp; exact ⟨e, .inl n⟩, .inl ⟨rfl, fun H' q => f H' (q _ List.mem_cons_self)⟩⟩
      | lstK wr s => exact ⟨_, _, [], rfl, s, fun p hp => by simp at hp, .inl ⟨rfl, fun H' _ => wr.sq⟩⟩
    · rcases id w with ⟨_, vs, e, h, s⟩ | ⟨_, _, e, _⟩
      · cases e
        exact ⟨a, vs, [(a, _)], rfl, s, fun p hp => by simp at hp; subst hp; exact ⟨h, .inr ⟨rfl, w⟩⟩, .inl ⟨rfl, fun H' q => .inl (.inl (q _ List.mem_cons_self))⟩⟩
      · cases e
  · cases hs
    rcases w with w | ⟨a, rfl, w⟩
    · cases w with
      | tup n r s =>
        obtain ⟨o, e, f⟩ := sqT_deps (K := K) r.rd
        exact ⟨_, _, [(_, o)], rfl, s, fun p hp => by simp at hp; subst hp; exact ⟨e, .inl n⟩, .inr ⟨rfl, fun H' q => f H' (q _ List.mem_cons_self)⟩⟩
      | tupK wr s => exact ⟨_, _, [], rfl, s, fun p hp => by simp at hp, .inr ⟨rfl, fun H' _ => wr.sq⟩⟩
    · rcases w with ⟨_, _, e, _⟩ | ⟨_, _, e, _⟩
      · cases e
      · cases e
  · cases hs
theorem itAt_list {a : Addr} {vs : List V} (h : SqL K H a vs) : ItAt (Itl K a) (vs.map .one) H := by
  refine ⟨fun i y e => ?_, ?_⟩
  · rw [List.getElem?_map] at e
    cases q : vs[i]? with
    | none => rw [q] at e; cases e
    | some v =>
      rw [q] at e; cases e
      exact ⟨⟨vs, v, h, q⟩, fun x H' ⟨e1, e2⟩ => ⟨Option.some.inj ((e2 vs h).symm.trans q), e1⟩⟩
  · exact ⟨vs, h, by rw [List.length_map]; exact Nat.le_refl _⟩
theorem itAt_tup {a : Addr} {vs : List V} (h : SqT K H a vs) : ItAt (Itt K a) (vs.map .one) H := by
  refine ⟨fun i y e => ?_, ?_⟩
  · rw [List.getElem?_map] at e
    cases q : vs[i]? with
    | none => rw [q] at e; cases e
    | some v =>
      rw [q] at e; cases e
      exact ⟨⟨vs, v, h, q⟩, fun x H' ⟨e1, e2⟩ => ⟨Option.some.inj ((e2 vs h).symm.trans q), e1⟩⟩
  · exact ⟨vs, h, by rw [List.length_map]; exact Nat.le_refl _⟩
end
/-- the address of a slot's own object left out -/
def Mlk (M : Ads) (μ : Mu) (σ : St) (o : Option Nat) : Ads := fun b => M b ∧ ∀ i d, o = some i → μ[i]? = some (.own d) → σ[i]? ≠ some (some (.ref b))
def PstI (K : PySem.W.Frag) (c : Ent) (L M : Ads) (W : WXm) (o : Option Nat) (σ : St) (H : Hp) (R : It → Hp → Prop) : Rs (List D) → Prop
  | .ok ds μ' => ∀ J H', Sr K c L M μ' σ H' → Kp M H H' → IterSt K L (Mlk M μ' σ o) J ds H' → ds.length ≤ sizeLine → R J H'
  | .ex x μ' => ∀ H', Sr K c L M μ' σ H' → Kp M H H' → W x σ H'
  | .st => False
def TrI (K : PySem.W.Frag) (W : WXm) (o : Option Nat) (r : Mu → Rs (List D)) : TI := fun σ H R => ∃ c L M μ, Sr K c L M μ σ H ∧ PstI K c L M W o σ H R (r μ)
abbrev JI (X : Cx) (W : WXm) (is : Option Nat) (tg e : Expr) (r : Mu → Rs (List D)) : Prop := PI X tg e (TrI X.K W is r)
section
variable {X : Cx} {W : WXm} {tg e a b : Expr} {pos p : Pos} {ra rb : Mu → Rs D}
theorem Pst.bindI {K : PySem.W.Frag} {c : Ent} {L M : Ads} {is : Option Nat} {σ : St} {H : Hp} {α β : Type} {R : Rl α β} {Q : β → Hp → Prop} {R2 : It → Hp → Prop} {r : Rs α} {k : α → Mu → Rs (List D)} (p : PstI K c L M W is σ H R2 (r.bind k))
    (g : ∀ a μ1 b H1, Sr K c L M μ1 σ H1 → Kp M H H1 → R L a b H1 → PstI K c L M W is σ H1 R2 (k a μ1) → Q b H1) : Pst K c L M W σ H R Q r := by
  cases r with
  | ok a μ =>
    intro b H' S k' h
    refine g a μ b H' S k' h ?_
    have p' : PstI K c L M W is σ H R2 (k a μ) := p
    cases h2 : k a μ with
    | ok d μ2 => rw [h2] at p'; exact fun J H2 S1 k2 i z => p' J H2 S1 (k'.trans k2) i z
    | ex x μ2 => rw [h2] at p'; exact fun H2 S1 k2 => p' H2 S1 (k'.trans k2)
    | st => rw [h2] at p'; exact p'
  | ex x μ => exact p
  | st => exact p
theorem PstI.opt {K : PySem.W.Frag} {c : Ent} {L M : Ads} {is : Option Nat} {σ : St} {H : Hp} {R2 : It → Hp → Prop} {o : Option (List D)} {μ : Mu} (p : PstI K c L M W is σ H R2 (Rs.opt o μ)) :
    ∃ ds, o = some ds ∧ ∀ J H', Sr K c L M μ σ H' → Kp M H H' → IterSt K L (Mlk M μ σ is) J ds H' → ds.length ≤ sizeLine → R2 J H' := by
  cases o with
  | none => exact p.elim
  | some a => exact ⟨a, rfl, p⟩
theorem seqD_or {d : D} {ds : List D} (h : seqD d = some ds) : (∃ x, d = .str x ∧ ds = signsD x ∧ x.length ≤ sizeLine) ∨ seqD0 d = some ds := by
  unfold seqD at h
  split at h
  · split at h
    · rename_i h1; cases h; exact .inl ⟨_, rfl, rfl, sizeOkN_of h1⟩
    · cases h
  · exact .inr h
theorem signs_dvs {K : PySem.W.Frag} {H : Hp} {L : Ads} (x : Str) : Dvs K H L (signsD x) (signs x) := by
  unfold signsD signs
  induction x.cps.toList with
  | nil => exact .nil
  | cons c l ih => exact .cons (.str _) ih
theorem itAt_str {H : Hp} (x : Str) : ItAt (Its x) ((signs x).map .one) H := by
  refine ⟨fun i y e => ?_, ?_⟩
  · unfold signs at e
    rw [List.map_map, List.getElem?_map] at e
    cases q : x.cps.toList[i]? with
    | none => rw [q] at e; cases e
    | some c =>
      rw [q] at e; cases e
      have q' : x.cps[i]? = some c := by rw [← Array.getElem?_toList]; exact q
      refine ⟨(Array.getElem?_eq_some_iff.mp q').1, fun v H' ⟨e1, c', e2, e3⟩ => ⟨?_, e1⟩⟩
      rw [q'] at e2; cases e2; exact e3
  · show x.cps.size ≤ _
    unfold signs
    rw [List.length_map, List.length_map, Array.length_toList]; exact Nat.le_refl _
theorem signsD_len (x : Str) : (signsD x).length = x.length := by unfold signsD; rw [List.length_map, Array.length_toList]; rfl
theorem pi_seq {l : Expr} {tl : TE} (hl : PE X l tl) : PI X tg l (fun σ H R => tl σ H fun x H1 => (∃ z, x = .str z ∧ R (Its z) H1) ∨ ∃ a, x = .ref a ∧ ((∃ xs, SqL X.K H1 a xs ∧ (xs.length ≤ sizeLine → R (Itl X.K a) H1)) ∨ (∃ xs, SqT X.K H1 a xs ∧ (xs.length ≤ sizeLine → R (Itt X.K a) H1)))) := by
  refine ⟨fun pins s σ H R I h => thn (hl.run pins s σ H _ I h) fun v s1 ⟨x, H1, I1, r1, q⟩ => ?_⟩
  rcases q with ⟨z, ex, q⟩ | ⟨a, ex, q⟩
  · subst ex
    obtain ⟨t, rfl⟩ := r1
    cases ha : z.cps.all (· < 128)
    · exact wpAny_pyIter_wide ha (pi_one (tk := s1.toks) I1 _ (turn_str _ z t "str_iterator" (.inr rfl)) ⟨_, Heap.get?_push_size _ rfl, rfl, rfl⟩ q)
    · exact wpAny_pyIter_ascii ha (pi_one (tk := s1.toks) I1 _ (turn_str _ z t "str_ascii_iterator" (.inl rfl)) ⟨_, Heap.get?_push_size _ rfl, rfl, rfl⟩ q)
  · subst ex
    cases r1
    rcases q with ⟨xs, hq, q⟩ | ⟨xs, hq, q⟩
    · obtain ⟨its, rv, p', hz⟩ := I1.list hq
      exact wpAny_pyIter_list p'.isList (pi_one (tk := s1.toks) I1 _ (turn_list a _) ⟨_, Heap.get?_push_size _ rfl, rfl, rfl⟩ (q hz))
    · obtain ⟨its, rv, p', hz⟩ := I1.tuple hq
      exact wpAny_pyIter_tuple (show s1.heap.IsTuple a its.toArray from p') (pi_one (tk := s1.toks) I1 _ (turn_tuple a _) ⟨_, Heap.get?_push_size _ rfl, rfl, rfl⟩ (q hz))
theorem Dv.src2 {K : PySem.W.Frag} {H : Hp} {L : Ads} {d : D} {v : V} {xs : List D} (w : Dv K H L d v) (hs : seqD0 d = some xs) : ∃ (a : Addr) (vs : List V) (deps : List (Addr × HO)), v = .ref a ∧ Dvs K H L xs vs ∧ (∀ p ∈ deps, H p.1 = some p.2 ∧ ¬ L p.1) ∧
    ((d = .list xs ∧ ∀ H' : Hp, (∀ p ∈ deps, H' p.1 = some p.2) → SqL K H' a vs) ∨ (d = .tuple xs ∧ ∀ H' : Hp, (∀ p ∈ deps, H' p.1 = some p.2) → SqT K H' a vs)) := by
  unfold seqD0 at hs
  split at hs
  · cases hs
    cases w with
    | lst n r s =>
      obtain ⟨o, e, f⟩ := sqL_deps (K := K) r
      exact ⟨_, _, [(_, o)], rfl, s, fun p hp => by simp at hp; subst hp; exact ⟨e, n⟩, .inl ⟨rfl, fun H' q => f H' (q _ List.mem_cons_self)⟩⟩
    | lstK wr s => exact ⟨_, _, [], rfl, s, fun p hp => by simp at hp, .inl ⟨rfl, fun H' _ => wr.sq⟩⟩
  · cases hs
    cases w with
    | tup n r s =>
      obtain ⟨o, e, f⟩ := sqT_deps (K := K) r.rd
      exact ⟨_, _, [(_, o)], rfl, s, fun p hp => by simp at hp; subst hp; exact ⟨e, n⟩, .inr ⟨rfl, fun H' q => f H' (q _ List.mem_cons_self)⟩⟩
    | tupK wr s => exact ⟨_, _, [], rfl, s, fun p hp => by simp at hp, .inr ⟨rfl, fun H' _ => wr.sq⟩⟩
  · cases hs
theorem seq_fin {K : PySem.W.Frag} {c : Ent} {L M : Ads} {μ : Mu} {σ : St} {H : Hp} {is : Option Nat} {d : D} {v : V} {ds : List D} {R : It → Hp → Prop} (S : Sr K c L M μ σ H) (w : Dv K H L d v ∨ ∃ a, v = .ref a ∧ OwnAt K H L d a ∧ ¬ Mlk M μ σ is a) (e : seqD0 d = some ds)
    (q : ∀ J, IterSt K L (Mlk M μ σ is) J ds H → ds.length ≤ sizeLine → R J H) :
    ∃ a, v = .ref a ∧ ((∃ xs, SqL K H a xs ∧ (xs.length ≤ sizeLine → R (Itl K a) H)) ∨ (∃ xs, SqT K H a xs ∧ (xs.length ≤ sizeLine → R (Itt K a) H))) := by
  have fin : ∀ (a : Addr) (vs : List V) (deps : List (Addr × HO)), Dvs K H L ds vs → (∀ p ∈ deps, H p.1 = some p.2 ∧ ¬ Mlk M μ σ is p.1) → ((d = .list ds ∧ ∀ H' : Hp, (∀ p ∈ deps, H' p.1 = some p.2) → SqL K H' a vs) ∨ (d = .tuple ds ∧ ∀ H' : Hp, (∀ p ∈ deps, H' p.1 = some p.2) → SqT K H' a vs)) →
      ((∃ xs, SqL K H a xs ∧ (xs.length ≤ sizeLine → R (Itl K a) H)) ∨ (∃ xs, SqT K H a xs ∧ (xs.length ≤ sizeLine → R (Itt K a) H))) := fun a vs deps w' hd hk => by
    have self : ∀ p ∈ deps, H p.1 = some p.2 := fun p hp => (hd p hp).1
    rcases hk with ⟨_, hk⟩ | ⟨_, hk⟩
    · exact .inl ⟨vs, hk H self, fun hz => q _ ⟨deps, vs.map .one, hd, .ones w', fun H' hH => itAt_list (hk H' hH)⟩ (by rw [w'.length]; exact hz)⟩
    · exact .inr ⟨vs, hk H self, fun hz => q _ ⟨deps, vs.map .one, hd, .ones w', fun H' hH => itAt_tup (hk H' hH)⟩ (by rw [w'.length]; exact hz)⟩
  rcases w with w | ⟨a, rfl, ow, nm⟩
  · obtain ⟨a, vs, deps, rfl, w', hd, hk⟩ := w.src2 e
    exact ⟨a, rfl, fin a vs deps w' (fun p hp => ⟨(hd p hp).1, fun z => (hd p hp).2 (S.ml _ z.1)⟩) hk⟩
  · rcases id ow with ⟨_, vs, e', h, s⟩ | ⟨_, _, e', _⟩
    · subst e'
      cases e
      exact ⟨a, rfl, fin a vs [(a, _)] s (fun p hp => by simp at hp; subst hp; exact ⟨h, nm⟩) (.inl ⟨rfl, fun H' q => .inl (.inl (q _ List.mem_cons_self))⟩)⟩
    · subst e'; cases e
theorem str_iter {K : PySem.W.Frag} {L N : Ads} {H : Hp} (x : Str) : IterSt K L N (Its x) (signsD x) H := ⟨[], (signs x).map .one, fun p hp => by simp at hp, .ones (signs_dvs x), fun H' _ => itAt_str x⟩
theorem ji_seq {is : Option Nat} (ha : JE X W e ra) : JI X W is tg e fun μ => (ra μ).bind fun x μ1 => Rs.opt (seqD x) μ1 := by
  refine pi_mono (pi_seq ha) fun σ H R ⟨c, L, M, μ, S, p⟩ => ⟨c, L, M, μ, S, Pst.bindI p fun x μ1 v H1 S1 k1 d1 p1 => ?_⟩
  obtain ⟨ds, e1, q⟩ := p1.opt
  rcases seqD_or e1 with ⟨z, rfl, rfl, hz⟩ | e1
  · cases d1
    exact .inl ⟨z, rfl, q _ H1 S1 .refl (str_iter z) (by rw [signsD_len]; exact hz)⟩
  · exact .inr (seq_fin S1 (.inl d1) e1 fun J i z => q J H1 S1 .refl i z)
theorem ji_seqK {i : Nat} {x : Str} (hN : X.N[i]? = some x) (hv : Vis X.env.scope x) (hd : (x == ("__debug__" : Str)) = false) (hcd : (x == ("__classdict__" : Str)) = false) :
    JI X W (some i) tg (.Name x pos) fun μ => (Rs.opt (peek μ i) μ).bind fun x μ1 => Rs.opt (seqD x) μ1 := by
  refine pi_mono (pi_seq (pe_var (i := i) hN hv hd hcd)) fun σ H R ⟨c, L, M, μ, S, p⟩ => ?_
  cases hp : peek μ i with
  | none => simp only [hp] at p; exact p.elim
  | some d0 =>
    simp only [hp] at p
    obtain ⟨ds, e1, q⟩ := PstI.opt (show PstI X.K c L M W (some i) σ H R (Rs.opt (seqD d0) μ) from p)
    have noStr : ∀ {z : Str} {a : Addr}, OwnAt X.K H L (.str z) a → False := fun {z a} h => by
      rcases h with ⟨_, _, e, _⟩ | ⟨_, _, e, _⟩ <;> cases e
    unfold peek at hp
    split at hp
    · rename_i d' h; cases hp
      obtain ⟨v', e2, e3⟩ := S.val i _ h
      refine ⟨v', e2, ?_⟩
      rcases seqD_or e1 with ⟨z, rfl, rfl, hz⟩ | e1
      · cases e3
        exact .inl ⟨z, rfl, q _ H S .refl (str_iter z) (by rw [signsD_len]; exact hz)⟩
      · exact .inr (seq_fin S (.inl e3) e1 fun J i z => q J H S .refl i z)
    · rename_i d' h; cases hp
      obtain ⟨a, e2, e3, _⟩ := S.own i _ h
      rcases seqD_or e1 with ⟨z, rfl, rfl, hz⟩ | e1
      · exact (noStr e3).elim
      · exact ⟨_, e2, .inr (seq_fin S (.inr ⟨a, rfl, e3, fun z => z.2 i _ rfl h e2⟩) e1 fun J i z => q J H S .refl i z)⟩
    · rename_i d' h; cases hp
      obtain ⟨a, e2, e3, e4⟩ := S.lck i _ h
      rcases seqD_or e1 with ⟨z, rfl, rfl, hz⟩ | e1
      · exact (noStr e3).elim
      · exact ⟨_, e2, .inr (seq_fin S (.inr ⟨a, rfl, e3, fun z => (S.lkl a ⟨_, e4, rfl⟩).2 z.1⟩) e1 fun J i z => q J H S .refl i z)⟩
    · cases hp
/-! ranges -/
theorem range_get {lo : Int} {n i : Nat} {d : D} (h : (rangeD lo n)[i]? = some d) : i < n ∧ d = .int (lo + (i : Int)) := by
  unfold rangeD at h
  rw [List.getElem?_map] at h
  cases q : (List.range n)[i]? with
  | none => rw [q] at h; cases h
  | some k =>
    rw [q] at h
    obtain ⟨h1, h2⟩ := List.getElem?_eq_some_iff.mp q
    rw [List.getElem_range] at h2
    rw [List.length_range] at h1
    cases h
    exact ⟨h1, by rw [h2]⟩
theorem rangeD_dvs {K : PySem.W.Frag} {H : Hp} {L : Ads} (ns : List Int) : Dys K H L (ns.map PyData.int) (ns.map fun i => .one (.int i)) := by
  induction ns with
  | nil => exact .nil
  | cons n ns ih => exact .cons (.one (.int n)) ih
theorem iter_ints {K : PySem.W.Frag} {H : Hp} {L N : Ads} {J : It} {f : Nat → Int} {n : Nat} (hg : ∀ i H, i < n → J.go i H) (hy : ∀ i H x H', i < n → J.yld i H x H' → H' = H ∧ x = .int (f i)) (hs : ∀ H, J.stop n H) : IterSt K L N J ((List.range n).map fun k => .int (f k)) H := by
  refine ⟨[], ((List.range n).map f).map (fun i => .one (.int i)), fun p hp => by simp at hp, ?_, fun H' _ => ⟨fun i y e => ?_, ?_⟩⟩
  · have := rangeD_dvs (K := K) (H := H) (L := L) ((List.range n).map f)
    rw [List.map_map] at this; exact this
  · rw [List.map_map, List.getElem?_map] at e
    cases q : (List.range n)[i]? with
    | none => rw [q] at e; cases e
    | some k =>
      obtain ⟨h1, h2⟩ := List.getElem?_eq_some_iff.mp q
      rw [List.getElem_range] at h2
      rw [List.length_range] at h1
      subst h2
      rw [q] at e; cases e
      exact ⟨hg i H' h1, fun x H'' y => let ⟨a, b⟩ := hy i H' x H'' h1 y; ⟨b, a⟩⟩
  · simp only [List.length_map, List.length_range]; exact hs H'
theorem smallI_of {i : Int} (h : smallI i = true) : -(2 ^ 62) ≤ i ∧ i < 2 ^ 62 ∧ -(2 ^ 61) ≤ i ∧ i < 2 ^ 61 := by
  unfold smallI at h
  simp only [Bool.and_eq_true, decide_eq_true_eq] at h
  exact ⟨by omega, by omega, h.1, h.2⟩
theorem ji_rng1 {is : Option Nat} (hg : Gl X "range") (hm : X.mg "range" = none) (ha : JE X W a ra) (hs : isStar a = false) : JI X W is tg (.Call (.Name "range" p) [a] [] pos) fun μ => (ra μ).bind fun x μ1 => match x with
    | .int j => if smallI j && sizeOkN j.toNat then .ok (rangeD 0 j.toNat) μ1 else .st
    | _ => .st := by
  refine pi_mono (pi_range1 hg hm (pa_cons ha pa_nil (starEach_cons hs _ _)) (starEach_cons hs _ _)) fun σ H R ⟨c, L, M, μ, S, p⟩ => ⟨c, L, M, μ, S, Pst.bindI p fun x μ1 v H1 S1 k1 d1 p1 => ?_⟩
  split at p1
  · rename_i j
    split at p1
    · rename_i h
      simp only [Bool.and_eq_true] at h
      cases d1
      obtain ⟨s1, s2, _⟩ := smallI_of h.1
      refine ⟨j, rfl, s1, s2, p1 _ _ S1 .refl (iter_ints (f := fun k => 0 + (k : Int)) (fun i H hi => hi) (fun i H x H' hi y => ⟨y.1, y.2⟩) fun H => Nat.le_refl _) ?_⟩
      unfold rangeD; rw [List.length_map, List.length_range]; exact sizeOkN_of h.2
    · exact p1.elim
  · exact p1.elim
theorem ji_rng2 {is : Option Nat} (hg : Gl X "range") (hm : X.mg "range" = none) (ha : JE X W a ra) (hb : JE X W b rb) (hs : isStar a = false) (hs2 : isStar b = false) : JI X W is tg (.Call (.Name "range" p) [a, b] [] pos) fun μ => (ra μ).bind fun x μ1 => (rb μ1).bind fun y μ2 => match x, y with
    | .int i, .int j => if smallI i && smallI j && sizeOkN (j - i).toNat then .ok (rangeD i (j - i).toNat) μ2 else .st
    | _, _ => .st := by
  refine pi_mono (pi_range2 hg hm (pa_cons ha (pa_cons hb pa_nil (starEach_cons hs2 _ _)) (starEach_cons hs _ _)) (by rw [starEach_cons hs, starEach_cons hs2]; rfl) (by rw [starEach_cons hs2]; rfl)) fun σ H R ⟨c, L, M, μ, S, p⟩ => ⟨c, L, M, μ, S, Pst.bindI p fun x μ1 v H1 S1 k1 d1 p1 => ⟨c, L, M, μ1, S1, Pst.bindI p1 fun y μ2 w H2 S2 k2 d2 p2 => ?_⟩⟩
  split at p2
  · rename_i i j
    split at p2
    · rename_i h
      simp only [Bool.and_eq_true] at h
      cases d1; cases d2
      obtain ⟨s1, s2, _⟩ := smallI_of h.1.1
      obtain ⟨s3, s4, _⟩ := smallI_of h.1.2
      refine ⟨i, j, rfl, ⟨s1, s2, s3, s4⟩, p2 _ _ S2 .refl (iter_ints (f := fun k => i + (k : Int)) (fun i H hi => hi) (fun i H x H' hi y => ⟨y.1, y.2⟩) fun H => Nat.le_refl _) ?_⟩
      unfold rangeD; rw [List.length_map, List.length_range]; exact sizeOkN_of h.2
    · exact p2.elim
  · exact p2.elim
/-! zip -/
theorem dys_zip {K : PySem.W.Frag} {H : Hp} {L : Ads} : ∀ {xs ys : List D} {vs ws : List V}, Dvs K H L xs vs → Dvs K H L ys ws → Dys K H L (zipD xs ys) ((vs.zip ws).map fun p => .two p.1 p.2)
  | _, _, _, _, .nil, _ => .nil
  | _, _, _, _, .cons _ _, .nil => .nil
  | _, _, _, _, .cons a t, .cons b u => .cons (.two a b) (dys_zip t u)
theorem zip_get {α β : Type} {xs : List α} {ys : List β} {i : Nat} {x : α} {y : β} (h : (xs.zip ys)[i]? = some (x, y)) : xs[i]? = some x ∧ ys[i]? = some y := by
  rw [List.getElem?_zip_eq_some] at h; exact h
theorem itAt_zipG {H : Hp} {p q : Sc} {vs ws : List V} (h1 : ScAt X.K H p vs) (h2 : ScAt X.K H q ws) : ItAt (Itg X.K p q) ((vs.zip ws).map fun p => .two p.1 p.2) H := by
  refine ⟨fun i y e => ?_, ⟨vs, ws, h1, h2, ?_⟩⟩
  · rw [List.getElem?_map] at e
    cases q : (vs.zip ws)[i]? with
    | none => rw [q] at e; cases e
    | some p =>
      obtain ⟨v, w⟩ := p
      rw [q] at e; cases e
      obtain ⟨q1, q2⟩ := zip_get q
      refine ⟨⟨vs, ws, v, w, h1, h2, q1, q2⟩, fun x H' ⟨T, x1, x2, e1, e2, e3, f1, f2⟩ => ?_⟩
      have z1 : x1 = v := Option.some.inj ((f1 vs h1).symm.trans q1)
      have z2 : x2 = w := Option.some.inj ((f2 ws h2).symm.trans q2)
      subst z1 z2
      exact ⟨T, e1, e2, e3⟩
  · rw [List.length_map, List.length_zip]
theorem Dv.scs {K : PySem.W.Frag} {H : Hp} {L : Ads} {d : D} {v : V} {xs : List D} (w : Dv K H L d v) (hs : seqD d = some xs) : ∃ (p : Sc) (vs : List V) (deps : List (Addr × HO)), v = ScV p ∧ Dvs K H L xs vs ∧ (∀ q ∈ deps, H q.1 = some q.2 ∧ ¬ L q.1) ∧ (∀ H' : Hp, (∀ q ∈ deps, H' q.1 = some q.2) → ScAt K H' p vs) ∧ ∀ x, p = .s x → vs.length ≤ sizeLine := by
  rcases seqD_or hs with ⟨z, rfl, rfl, hz⟩ | hs
  · cases w
    refine ⟨.s z, signs z, [], rfl, signs_dvs z, fun p hp => by simp at hp, fun H' _ => rfl, fun _ _ => ?_⟩
    have := signsD_len z
    rw [← (signs_dvs (K := K) (H := H) (L := L) z).length, this]; exact hz
  · obtain ⟨a, vs, deps, rfl, w1, hd, hk⟩ := w.src2 hs
    rcases hk with ⟨_, hk⟩ | ⟨_, hk⟩
    · exact ⟨.l a, vs, deps, rfl, w1, hd, hk, fun x e => by cases e⟩
    · exact ⟨.t a, vs, deps, rfl, w1, hd, hk, fun x e => by cases e⟩
/-- what is known while a body runs -/
theorem pa_inv {es : List Expr} {ta : TA} (ha : PA X es ta) : PA X es (fun σ H Q => ta σ H fun vs H1 => (∃ pins s, L2.Inv X pins σ H1 s) → Q vs H1) :=
  ⟨fun pos' pins' s' σ' H' Q' I' h' => thn (ha.run pos' pins' s' σ' H' _ I' h') fun us s1 ⟨vs, H1, I1, r, q⟩ => ⟨vs, H1, I1, r, q ⟨pins', s1, I1⟩⟩⟩
theorem pe_inv {e : Expr} {te : TE} (ha : PE X e te) : PE X e (fun σ H Q => te σ H fun v H1 => (∃ pins s, L2.Inv X pins σ H1 s) → Q v H1) :=
  ⟨fun pins' s' σ' H' Q' I' h' => thn (ha.run pins' s' σ' H' _ I' h') fun us s1 ⟨vs, H1, I1, r, q⟩ => ⟨vs, H1, I1, r, q ⟨pins', s1, I1⟩⟩⟩
theorem ji_zip {is : Option Nat} {elts : List Expr} {kk : Nat} {tpos : Pos} (hg : Gl X "zip") (hm : X.mg "zip" = none) (ha : JE X W a ra) (hb : JE X W b rb) (hs : isStar a = false) (hs2 : isStar b = false) :
    JI X W is (.Tuple elts kk tpos) (.Call (.Name "zip" p) [a, b] [] pos) fun μ => (ra μ).bind fun x μ1 => (rb μ1).bind fun y μ2 => match seqD x, seqD y with
      | some xs, some ys => .ok (zipD xs ys) μ2
      | _, _ => .st := by
  refine pi_mono (pi_zipG hg hm (pa_inv (pa_cons ha (pa_cons hb pa_nil (starEach_cons hs2 _ _)) (starEach_cons hs _ _))) (starEach_cons hs _ _) (backTo_plain (by simp [hs2]))) fun σ H R ⟨c, L, M, μ, S, p⟩ => ⟨c, L, M, μ, S, Pst.bindI p fun x μ1 v H1 S1 k1 d1 p1 => ⟨c, L, M, μ1, S1, Pst.bindI p1 fun y μ2 w H2 S2 k2 d2 p2 => ?_⟩⟩
  rintro ⟨pins, s, I⟩
  split at p2
  · rename_i xs ys e1 e2
    have d1' := S2.dk d1 k2
    obtain ⟨a1, vs, deps, rfl, w1, hd1, hk1, le1⟩ := d1'.scs e1
    obtain ⟨a2, ws, deps2, rfl, w2, hd2, hk2, le2⟩ := Dv.scs d2 e2
    have noN : ∀ p ∈ deps ++ deps2, H2 p.1 = some p.2 ∧ ¬ Mlk M μ2 σ is p.1 := fun p hp => by
      rcases List.mem_append.mp hp with h | h
      · exact ⟨(hd1 p h).1, fun z => (hd1 p h).2 (S2.ml _ z.1)⟩
      · exact ⟨(hd2 p h).1, fun z => (hd2 p h).2 (S2.ml _ z.1)⟩
    have self1 : ∀ p ∈ deps, H2 p.1 = some p.2 := fun p hp => (hd1 p hp).1
    have self2 : ∀ p ∈ deps2, H2 p.1 = some p.2 := fun p hp => (hd2 p hp).1
    have len : vs.length ≤ sizeLine → (zipD xs ys).length ≤ sizeLine := fun h => by
      unfold zipD; rw [List.length_map, List.length_zip, w1.length]; omega
    have lv : vs.length ≤ sizeLine := by
      have h := hk1 H2 self1
      cases a1 with
      | l a => obtain ⟨_, _, _, z⟩ := I.list h; exact z
      | t a => obtain ⟨_, _, _, z⟩ := I.tuple h; exact z
      | s z => exact le1 z rfl
    exact ⟨a1, a2, vs, ws, rfl, hk1 H2 self1, hk2 H2 self2, p2 _ _ S2 .refl ⟨deps ++ deps2, _, noN, dys_zip w1 w2, fun H' hH => itAt_zipG (hk1 H' fun p hp => hH p (List.mem_append_left _ hp)) (hk2 H' fun p hp => hH p (List.mem_append_right _ hp))⟩ (len lv)⟩
  · exact p2.elim
end
end Mn
set_option Elab.async false
set_option linter.all false
set_option maxRecDepth 100000
set_option autoImplicit false
namespace Mn
open PySem PySem.Spec L2
/-! ## a comprehension's own slots -/
theorem wipeL_len (μ : Mu) : ∀ t : List Nat, (wipeL μ t).length = μ.length
  | [] => rfl
  | v :: vs => by unfold wipeL; rw [List.length_set, wipeL_len μ vs]
theorem wipeL_out {μ : Mu} {i : Nat} : ∀ {t : List Nat}, i ∉ t → (wipeL μ t)[i]? = μ[i]?
  | [], _ => rfl
  | v :: vs, h => by
    rw [List.mem_cons, not_or] at h
    unfold wipeL
    rw [List.getElem?_set_ne (Ne.symm h.1), wipeL_out h.2]
theorem wipeL_in {μ : Mu} {i : Nat} : ∀ {t : List Nat}, i ∈ t → i < μ.length → (wipeL μ t)[i]? = some .no
  | v :: vs, h, hl => by
    unfold wipeL
    by_cases e : v = i
    · subst e; rw [List.getElem?_set_self (by rw [wipeL_len]; exact hl)]
    · rw [List.getElem?_set_ne e]
      exact wipeL_in ((List.mem_cons.mp h).resolve_left (Ne.symm e)) hl
theorem backL_len (μ0 μ : Mu) : ∀ t : List Nat, (backL μ0 μ t).length = μ.length
  | [] => rfl
  | v :: vs => by unfold backL; rw [List.length_set, backL_len μ0 μ vs]
theorem backL_out {μ0 μ : Mu} {i : Nat} : ∀ {t : List Nat}, i ∉ t → (backL μ0 μ t)[i]? = μ[i]?
  | [], _ => rfl
  | v :: vs, h => by
    rw [List.mem_cons, not_or] at h
    unfold backL
    rw [List.getElem?_set_ne (Ne.symm h.1), backL_out h.2]
theorem backL_in {μ0 μ : Mu} {i : Nat} : ∀ {t : List Nat}, i ∈ t → i < μ.length → (backL μ0 μ t)[i]? = some (μ0.getD i .no)
  | v :: vs, h, hl => by
    unfold backL
    by_cases e : v = i
    · subst e; rw [List.getElem?_set_self (by rw [backL_len]; exact hl)]
    · rw [List.getElem?_set_ne e]
      exact backL_in ((List.mem_cons.mp h).resolve_left (Ne.symm e)) hl
theorem freeAll_of {t : List Nat} {μ : Mu} (h : freeAll t μ = true) : ∀ i ∈ t, ∃ s, μ[i]? = some s ∧ s.held = false := fun i hi => by
  have := List.all_eq_true.mp h i hi
  cases q : μ[i]? with
  | none => rw [q] at this; cases this
  | some s => rw [q] at this; exact ⟨s, rfl, by simpa using this⟩
section
variable {K : PySem.W.Frag} {c : Ent} {L M : Ads} {μ μ1 μ3 m : Mu} {σ σ2 : St} {H H4 : Hp} {t : List Nat}
theorem wipe_out' {i : Nat} (h : i ∉ t) : (wipe σ t)[i]? = σ[i]? := wipe_out h
theorem Sr.wipe (S : Sr K c L M μ σ H) (hf : freeAll t μ = true) : Sr K c L M (wipeL μ t) (L2.wipe σ t) H := by
  have fr := freeAll_of hf
  have out : ∀ (i : Nat) (s : Sl), (wipeL μ t)[i]? = some s → s ≠ .no → i ∉ t := fun i s e n hi => by
    obtain ⟨s', e', _⟩ := fr i hi
    rw [wipeL_in hi (List.getElem?_eq_some_iff.mp e').1] at e
    exact n (Option.some.inj e).symm
  have held : ∀ (i : Nat) (s : Sl), μ[i]? = some s → s.held = true → i ∉ t := fun i s e h hi => by
    obtain ⟨s', e', h'⟩ := fr i hi
    rw [e] at e'; cases e'; rw [h] at h'; cases h'
  refine ⟨by rw [wipeL_len, wipe_length]; exact S.len, fun i d e => ?_, fun i d e => ?_, fun i d e => ?_, fun i j s s' a e1 h1 e2 h2 q1 q2 => ?_, S.ml, S.lkl, S.l0, S.m0, S.l00, S.trk, S.keep, fun p hp => ?_, fun p hp => ?_⟩
  · have n := out i _ e (by simp)
    rw [wipeL_out n] at e; rw [wipe_out n]; exact S.val i d e
  · have n := out i _ e (by simp)
    rw [wipeL_out n] at e; rw [wipe_out n]; exact S.own i d e
  · have n := out i _ e (by simp)
    rw [wipeL_out n] at e; rw [wipe_out n]; exact S.lck i d e
  · have n1 := out i _ e1 (by rintro rfl; cases h1)
    have n2 := out j _ e2 (by rintro rfl; cases h2)
    rw [wipeL_out n1] at e1; rw [wipeL_out n2] at e2
    rw [wipe_out n1] at q1; rw [wipe_out n2] at q2
    exact S.inj i j s s' a e1 h1 e2 h2 q1 q2
  · obtain ⟨e1, s, e2, e3⟩ := S.io p hp
    have n := held p.1 s e2 e3
    rw [wipe_out n, wipeL_out n]; exact ⟨e1, s, e2, e3⟩
  · obtain ⟨e1, d, e2⟩ := S.lks p hp
    have n := held p.1 _ e2 rfl
    rw [wipe_out n, wipeL_out n]; exact ⟨e1, d, e2⟩
theorem Sr.back (S3 : Sr K c L M μ3 σ2 H4) (S0 : Sr K c L M m σ H) (k : Kp M H H4) (ag : ∀ j, j ∉ t → σ2[j]? = σ[j]?) (hl : σ2.length = σ.length) (hf : freeAll t m = true) : Sr K c L M (backL m μ3 t) σ H4 := by
  have fr := freeAll_of hf
  have lm : m.length = μ3.length := by rw [S0.len, S3.len, hl]
  have atT : ∀ (i : Nat), i ∈ t → ∃ s, (backL m μ3 t)[i]? = some s ∧ m[i]? = some s ∧ s.held = false := fun i hi => by
    obtain ⟨s, e, h⟩ := fr i hi
    refine ⟨s, ?_, e, h⟩
    rw [backL_in hi (by rw [← lm]; exact (List.getElem?_eq_some_iff.mp e).1)]
    simp [List.getD, e]
  have held : ∀ (i : Nat) (s : Sl), (backL m μ3 t)[i]? = some s → s.held = true → i ∉ t := fun i s e h hi => by
    obtain ⟨s', e', _, h'⟩ := atT i hi
    rw [e] at e'; cases e'; rw [h] at h'; cases h'
  have held3 : ∀ (i : Nat), (∃ s, m[i]? = some s ∧ s.held = true) → i ∉ t := fun i ⟨s, e, h⟩ hi => by
    obtain ⟨s', _, e', h'⟩ := atT i hi
    rw [e] at e'; cases e'; rw [h] at h'; cases h'
  have kl : Kp L H H4 := k.mono S0.ml
  refine ⟨by rw [backL_len, S3.len, hl], fun i d e => ?_, fun i d e => ?_, fun i d e => ?_, fun i j s s' a e1 h1 e2 h2 q1 q2 => ?_, S3.ml, S3.lkl, S3.l0, S3.m0, S3.l00, S3.trk, S3.keep, fun p hp => ?_, fun p hp => ?_⟩
  · by_cases hi : i ∈ t
    · obtain ⟨s, e1, e2, _⟩ := atT i hi
      rw [e] at e1; cases e1
      obtain ⟨v, q1, q2⟩ := S0.val i d e2
      exact ⟨v, q1, q2.keep kl⟩
    · rw [backL_out hi] at e; rw [← ag i hi]; exact S3.val i d e
  · have hi := held i _ e rfl
    rw [backL_out hi] at e; rw [← ag i hi]; exact S3.own i d e
  · have hi := held i _ e rfl
    rw [backL_out hi] at e; rw [← ag i hi]; exact S3.lck i d e
  · have n1 := held i _ e1 h1
    have n2 := held j _ e2 h2
    rw [backL_out n1] at e1; rw [backL_out n2] at e2
    rw [← ag i n1] at q1; rw [← ag j n2] at q2
    exact S3.inj i j s s' a e1 h1 e2 h2 q1 q2
  · obtain ⟨_, s0, q2, q3⟩ := S0.io p hp
    have n := held3 p.1 ⟨s0, q2, q3⟩
    rw [← ag _ n, backL_out n]; exact S3.io p hp
  · obtain ⟨_, d0, q2⟩ := S0.lks p hp
    have n := held3 p.1 ⟨_, q2, rfl⟩
    rw [← ag _ n, backL_out n]; exact S3.lks p hp
theorem wipe_set {σ : St} {t : List Nat} {σ2 : St} (hl : σ2.length = σ.length) (ag : ∀ j, j ∉ t → σ2[j]? = (L2.wipe σ t)[j]?) : L2.wipe σ2 t = L2.wipe σ t := by
  apply List.ext_getElem?
  intro j
  by_cases hj : j ∈ t
  · have aux : ∀ (τ : St) (t : List Nat), j ∈ t → (L2.wipe τ t)[j]? = if j < τ.length then some none else none := fun τ t => by
      induction t with
      | nil => intro h; simp at h
      | cons v vs ih =>
        intro h
        unfold L2.wipe
        by_cases e : v = j
        · subst e
          by_cases hv : v < τ.length
          · rw [if_pos hv, List.getElem?_set_self (by rw [wipe_length]; exact hv)]
          · rw [if_neg hv, List.getElem?_eq_none (by rw [List.length_set, wipe_length]; omega)]
        · rw [List.getElem?_set_ne e]
          exact ih ((List.mem_cons.mp h).resolve_left (Ne.symm e))
    rw [aux σ2 t hj, aux σ t hj, hl]
  · rw [wipe_out hj, ag j hj]
end
/-! ## targets -/
def gsOf : List Nat → TGs
  | [] => gNil
  | i :: is => gCons (gName i) (gsOf is)
def gOf (K : PySem.W.Frag) (t : List Nat) (tup : Bool) : TG := match tup with
  | true => gTup K t.length (gsOf t)
  | false => gName (t.getD 0 0)
section
variable {K : PySem.W.Frag} {c : Ent} {L M : Ads} {μ μ1 : Mu} {σ : St} {H H' : Hp}
theorem isLck_of {μ : Mu} {i : Nat} (h : ¬ isLck μ i = true) : ∀ e, μ[i]? ≠ some (.lck e) := fun e z => by
  unfold isLck at h; rw [z] at h; exact h rfl
theorem Sr.set' (S : Sr K c L M μ σ H) {i : Nat} {d : D} {v : V} (w : Dv K H L d v) (hio : ∀ p ∈ c.io, p.1 ≠ i) (hlk : ∀ e, μ[i]? ≠ some (.lck e)) : Sr K c L M (setN i d μ) (σ.set i (some v)) H := by
  by_cases hi : i < σ.length
  · exact S.set w hio hlk hi
  · have e1 : σ.set i (some v) = σ := List.set_eq_of_length_le (by omega)
    have e2 : setN i d μ = μ := List.set_eq_of_length_le (by rw [S.len]; omega)
    rw [e1, e2]; exact S
theorem gs_set : ∀ {t : List Nat} {ds : List D} {vs : List V} {μ μ1 : Mu} {σ : St} {Q : St → Hp → Prop}, Sr K c L M μ σ H → Dvs K H L ds vs → setAll t ds μ = some μ1 → (∀ i ∈ t, ∀ p ∈ c.io, p.1 ≠ i) →
    (∀ σ2, Sr K c L M μ1 σ2 H → (∀ j, j ∉ t → σ2[j]? = σ[j]?) → σ2.length = σ.length → Q σ2 H) → gsOf t vs σ H Q
  | [], _, _, μ, μ1, σ, Q, S, .nil, e, _, q => by
    cases e
    exact ⟨rfl, q σ S (fun _ _ => rfl) rfl⟩
  | i :: is, _, _, μ, μ1, σ, Q, S, .cons w t, e, hi, q => by
    unfold setAll at e
    split at e
    · cases e
    · rename_i hl
      have h2 := hi i List.mem_cons_self
      have S' := S.set' w h2 (isLck_of hl)
      refine ⟨_, _, rfl, gs_set S' t e (fun j hj => ?_) fun σ2 S2 ag hl2 => q σ2 S2 (fun j hj => ?_) (by rw [hl2, List.length_set])⟩
      · exact hi j (List.mem_cons_of_mem _ hj)
      · rw [List.mem_cons, not_or] at hj
        rw [ag j hj.2, List.getElem?_set_ne (Ne.symm hj.1)]
  | [], _, _, _, _, _, _, _, .cons _ _, e, _, _ => by cases e
  | _ :: _, _, _, _, _, _, _, _, .nil, e, _, _ => by cases e
theorem setAll_len : ∀ {t : List Nat} {ds : List D} {μ μ1 : Mu}, setAll t ds μ = some μ1 → t.length = ds.length
  | [], [], _, _, _ => rfl
  | _ :: _, _ :: _, μ, μ1, e => by
    unfold setAll at e
    split at e
    · cases e
    · exact congrArg (· + 1) (setAll_len e)
  | [], _ :: _, _, _, e => by cases e
  | _ :: _, [], _, _, e => by cases e
/-- a target takes what a walk yields -/
theorem g_set {t : List Nat} {tup : Bool} {d : D} {y : Yi} {x : V} {Q : St → Hp → Prop} (S : Sr K c L M μ σ H) (dy : Dyi K H L d y) (hy : YOk y x H H') (e : setT t tup d μ = some μ1) (hi : ∀ i ∈ t, ∀ p ∈ c.io, p.1 ≠ i) (ht : tup = false → t.length = 1)
    (q : ∀ σ2, Sr K c L M μ1 σ2 H' → (∀ j, j ∉ t → σ2[j]? = σ[j]?) → σ2.length = σ.length → (∀ a o, H a = some o → H' a = some o) → Q σ2 H') : gOf K t tup x σ H' Q := by
  cases tup with
  | false =>
    have hlen := ht rfl
    match t, hlen with
    | [i], _ =>
      have e0 : (if isPair d then none else setAll [i] [d] μ) = some μ1 := e
      cases dy with
      | two w z => cases e0
      | one w =>
        obtain ⟨rfl, rfl⟩ := hy
        split at e0
        · cases e0
        · have e' : setAll [i] [d] μ = some μ1 := e0
          unfold setAll at e'
          split at e'
          · cases e'
          · rename_i hl
            have h2 := hi i List.mem_cons_self
            have e2 : setN i d μ = μ1 := by
              have : setAll [] [] (setN i d μ) = some μ1 := e'
              unfold setAll at this; exact Option.some.inj this
            subst e2
            show Q (σ.set i (some x)) H'
            exact q _ (S.set' w h2 (isLck_of hl)) (fun j hj => by rw [List.mem_singleton] at hj; rw [List.getElem?_set_ne (Ne.symm hj)]) (by rw [List.length_set]) fun _ _ h => h
  | true =>
    unfold setT at e
    simp only at e
    split at e
    · rename_i xs
      cases dy with
      | one w =>
        obtain ⟨rfl, rfl⟩ := hy
        obtain ⟨a, vs, rfl, sa, wa⟩ := w.tuple
        exact ⟨a, vs, rfl, sa, by rw [← wa.length, setAll_len e], gs_set S wa e hi fun σ2 S2 ag hl => q σ2 S2 ag hl fun _ _ h => h⟩
    · rename_i xs
      generalize hd : PyData.dict [(PyData.none, PyData.tuple xs)] = dd at dy
      cases dy with
      | one w =>
        subst hd
        cases w with
        | dct n r s => exact nomatch s
      | @two d1 d2 v w1 w z =>
        have hx : xs = [d1, d2] := by
          unfold pairD at hd
          simpa using hd
        subst hx
        obtain ⟨T, rfl, nT, rfl⟩ := hy
        refine ⟨T, _, rfl, .inl (.inl upd_same), ?_, gs_set (S.laid nT) (.cons (w.keep (Kp.laid nT)) (.cons (z.keep (Kp.laid nT)) .nil)) e hi fun σ2 S2 ag hl => q σ2 S2 ag hl (fun a o h => by rw [upd_ne (ne_of_none h nT)]; exact h)⟩
        rw [setAll_len e]; rfl
    · cases e
end
/-! ## locks -/
section
variable {K : PySem.W.Frag} {c : Ent} {L M : Ads} {μ : Mu} {σ : St} {H : Hp}
/-- a walk's own slot is locked meanwhile -/
theorem Sr.lock (S : Sr K c L M μ σ H) (o : Option Nat) : ∃ (c' : Ent) (M' : Ads), c'.io = c.io ∧ Sr K c' L M' (lockM o μ) σ H ∧ (∀ b, M' b → Mlk M μ σ o b) ∧ (∀ b, M' b → M b) ∧
    ∀ L2 M2 μ2 σ2 H2, Sr K c' L2 M2 μ2 σ2 H2 → ∃ M3, Sr K c L2 M3 (unlockM o μ μ2) σ2 H2 ∧ (∀ b, M3 b → M2 b ∨ M b) ∧ ((∀ b, M2 b ↔ M' b) → ∀ b, M3 b ↔ M b) := by
  have easy : (∀ i d, o = some i → μ[i]? ≠ some (.own d)) → ∃ (c' : Ent) (M' : Ads), c'.io = c.io ∧ Sr K c' L M' (lockM o μ) σ H ∧ (∀ b, M' b → Mlk M μ σ o b) ∧ (∀ b, M' b → M b) ∧
      ∀ L2 M2 μ2 σ2 H2, Sr K c' L2 M2 μ2 σ2 H2 → ∃ M3, Sr K c L2 M3 (unlockM o μ μ2) σ2 H2 ∧ (∀ b, M3 b → M2 b ∨ M b) ∧ ((∀ b, M2 b ↔ M' b) → ∀ b, M3 b ↔ M b) := fun no => by
    have e1 : lockM o μ = μ := by
      cases o with
      | none => rfl
      | some i =>
        unfold lockM
        cases hq : μ[i]? with
        | none => simp only [hq]
        | some s =>
          cases s with
          | own d => exact absurd hq (no i d rfl)
          | _ => simp only [hq]
    have e2 : ∀ μ2, unlockM o μ μ2 = μ2 := fun μ2 => by
      cases o with
      | none => rfl
      | some i =>
        unfold unlockM
        cases hq : μ[i]? with
        | none => simp only [hq]
        | some s =>
          cases s with
          | own d => exact absurd hq (no i d rfl)
          | _ => simp only [hq]
    refine ⟨c, M, rfl, by rw [e1]; exact S, fun b hb => ⟨hb, fun i d ho hd => absurd hd (no i d ho)⟩, fun _ h => h, fun L2 M2 μ2 σ2 H2 S2 => ⟨M2, by rw [e2]; exact S2, fun _ h => .inl h, fun h => h⟩⟩
  cases o with
  | none => exact easy (fun i d z => by cases z)
  | some i =>
    by_cases hd : ∃ d, μ[i]? = some (.own d)
    · obtain ⟨d, hd⟩ := hd
      obtain ⟨a, ea, ow, hM⟩ := S.own i d hd
      have il : i < μ.length := (List.getElem?_eq_some_iff.mp hd).1
      have e1 : lockM (some i) μ = μ.set i (.lck d) := by
        unfold lockM; simp only [hd]
      have back : ∀ (j : Nat) (s : Sl), (μ.set i (.lck d))[j]? = some s → s.held = true → ∃ t, μ[j]? = some t ∧ t.held = true := fun j s e h => by
        by_cases n : j = i
        · subst n; exact ⟨_, hd, rfl⟩
        · rw [List.getElem?_set_ne (Ne.symm n)] at e; exact ⟨s, e, h⟩
      refine ⟨{ c with lks := (i, a) :: c.lks }, fun b => M b ∧ b ≠ a, rfl, ?_, fun b hb => ⟨hb.1, fun j d' ho hd' z => ?_⟩, fun b hb => hb.1, fun L2 M2 μ2 σ2 H2 S2 => ?_⟩
      · rw [e1]
        refine ⟨by rw [List.length_set]; exact S.len, fun j e q => ?_, fun j e q => ?_, fun j e q => ?_, fun j j' s t b q1 h1 q2 h2 e1 e2 => ?_, fun b h => S.ml b h.1, fun b h => ?_, S.l0, fun b h => S.m0 b h.1, S.l00, S.trk, S.keep, fun p hp => ?_, fun p hp => ?_⟩
        · by_cases n : j = i
          · subst n; rw [List.getElem?_set_self il] at q; cases q
          · rw [List.getElem?_set_ne (Ne.symm n)] at q; exact S.val j e q
        · by_cases n : j = i
          · subst n; rw [List.getElem?_set_self il] at q; cases q
          · rw [List.getElem?_set_ne (Ne.symm n)] at q
            obtain ⟨b, q1, q2, q3⟩ := S.own j e q
            exact ⟨b, q1, q2, q3, fun z => n (S.inj j i _ _ a q rfl hd rfl (z ▸ q1) ea)⟩
        · by_cases n : j = i
          · subst n; rw [List.getElem?_set_self il] at q; cases q
            exact ⟨a, ea, ow, List.mem_cons_self⟩
          · rw [List.getElem?_set_ne (Ne.symm n)] at q
            obtain ⟨b, q1, q2, q3⟩ := S.lck j e q
            exact ⟨b, q1, q2, List.mem_cons_of_mem _ q3⟩
        · obtain ⟨s', a1, a2⟩ := back j s q1 h1
          obtain ⟨t', b1, b2⟩ := back j' t q2 h2
          exact S.inj j j' s' t' b a1 a2 b1 b2 e1 e2
        · obtain ⟨p, hp, rfl⟩ := h
          rcases List.mem_cons.mp hp with rfl | hp
          · exact ⟨S.ml a hM, fun z => z.2 rfl⟩
          · obtain ⟨z1, z2⟩ := S.lkl p.2 ⟨p, hp, rfl⟩
            exact ⟨z1, fun z => z2 z.1⟩
        · obtain ⟨q1, s, q2, q3⟩ := S.io p hp
          refine ⟨q1, ?_⟩
          by_cases n : p.1 = i
          · rw [n, List.getElem?_set_self il]; exact ⟨_, rfl, rfl⟩
          · rw [List.getElem?_set_ne (Ne.symm n)]; exact ⟨s, q2, q3⟩
        · rcases List.mem_cons.mp hp with rfl | hp
          · exact ⟨ea, d, List.getElem?_set_self il⟩
          · obtain ⟨q1, dd, q2⟩ := S.lks p hp
            have n : p.1 ≠ i := fun z => by rw [z, hd] at q2; cases q2
            exact ⟨q1, dd, by rw [List.getElem?_set_ne (Ne.symm n)]; exact q2⟩
      · cases ho
        rw [ea] at z; cases z; exact hb.2 rfl
      · obtain ⟨q1, d2, q2⟩ := S2.lks (i, a) List.mem_cons_self
        have q1 : σ2[i]? = some (some (.ref a)) := q1
        have q2 : μ2[i]? = some (.lck d2) := q2
        have il2 : i < μ2.length := (List.getElem?_eq_some_iff.mp q2).1
        have e2 : unlockM (some i) μ μ2 = μ2.set i (.own d2) := by
          unfold unlockM; simp only [hd, q2]
        obtain ⟨z1, z2⟩ := S2.lkl a ⟨(i, a), List.mem_cons_self, rfl⟩
        obtain ⟨a', ea', ow', _⟩ := S2.lck i d2 q2
        have : a' = a := by rw [q1] at ea'; cases ea'; rfl
        subst this
        have back2 : ∀ (j : Nat) (s : Sl), (μ2.set i (.own d2))[j]? = some s → s.held = true → ∃ t, μ2[j]? = some t ∧ t.held = true := fun j s e h => by
          by_cases n : j = i
          · subst n; exact ⟨_, q2, rfl⟩
          · rw [List.getElem?_set_ne (Ne.symm n)] at e; exact ⟨s, e, h⟩
        refine ⟨fun b => M2 b ∨ b = a', ?_, fun b h => h.elim .inl fun z => .inr (by rw [z]; exact hM), fun h b => ?_⟩
        · rw [e2]
          refine ⟨by rw [List.length_set]; exact S2.len, fun j e q => ?_, fun j e q => ?_, fun j e q => ?_, fun j j' s t b q1 h1 q2 h2 e1 e2 => ?_, fun b h => ?_, fun b h => ?_, S2.l0, fun b h => ?_, S2.l00, S2.trk, S2.keep, fun p hp => ?_, fun p hp => ?_⟩
          · by_cases n : j = i
            · subst n; rw [List.getElem?_set_self il2] at q; cases q
            · rw [List.getElem?_set_ne (Ne.symm n)] at q; exact S2.val j e q
          · by_cases n : j = i
            · subst n; rw [List.getElem?_set_self il2] at q; cases q
              exact ⟨a', q1, ow', .inr rfl⟩
            · rw [List.getElem?_set_ne (Ne.symm n)] at q
              obtain ⟨b, r1, r2, r3⟩ := S2.own j e q
              exact ⟨b, r1, r2, .inl r3⟩
          · by_cases n : j = i
            · subst n; rw [List.getElem?_set_self il2] at q; cases q
            · rw [List.getElem?_set_ne (Ne.symm n)] at q
              obtain ⟨b, r1, r2, r3⟩ := S2.lck j e q
              rcases List.mem_cons.mp r3 with r3 | r3
              · exact absurd (congrArg Prod.fst r3) n
              · exact ⟨b, r1, r2, r3⟩
          · obtain ⟨s', a1, a2⟩ := back2 j s q1 h1
            obtain ⟨t', b1, b2⟩ := back2 j' t q2 h2
            exact S2.inj j j' s' t' b a1 a2 b1 b2 e1 e2
          · rcases h with h | rfl
            · exact S2.ml b h
            · exact z1
          · obtain ⟨p, hp, rfl⟩ := h
            obtain ⟨y1, y2⟩ := S2.lkl p.2 ⟨p, List.mem_cons_of_mem _ hp, rfl⟩
            refine ⟨y1, fun z => ?_⟩
            rcases z with z | z
            · exact y2 z
            · exact (S.lkl p.2 ⟨p, hp, rfl⟩).2 (by rw [z]; exact hM)
          · rcases h with h | rfl
            · exact S2.m0 b h
            · exact S.m0 b hM
          · obtain ⟨r1, s, r2, r3⟩ := S2.io p hp
            refine ⟨r1, ?_⟩
            by_cases n : p.1 = i
            · rw [n, List.getElem?_set_self il2]; exact ⟨_, rfl, rfl⟩
            · rw [List.getElem?_set_ne (Ne.symm n)]; exact ⟨s, r2, r3⟩
          · obtain ⟨r1, dd, r2⟩ := S2.lks p (List.mem_cons_of_mem _ hp)
            have n : p.1 ≠ i := fun z => by
              obtain ⟨_, d3, r3⟩ := S.lks p hp
              rw [z, hd] at r3; cases r3
            exact ⟨r1, dd, by rw [List.getElem?_set_ne (Ne.symm n)]; exact r2⟩
        · constructor
          · rintro (z | rfl)
            · exact ((h b).mp z).1
            · exact hM
          · intro z
            by_cases e : b = a'
            · exact .inr e
            · exact .inl ((h b).mpr ⟨z, e⟩)
    · exact easy fun j d z => by cases z; exact fun q => hd ⟨d, q⟩
end
end Mn
set_option Elab.async false
set_option linter.all false
set_option maxRecDepth 100000
set_option autoImplicit false
namespace Mn
open PySem PySem.Spec L2
/-! ## comprehensions -/
abbrev W0 : WXm := fun _ _ _ => False
def ttOf (K : PySem.W.Frag) : Option (Mu → Rs Bool) → TT
  | none => tYes
  | some r => Tr K W0 rB r
/-- one turn -/
def turnR (t : List Nat) (tup : Bool) (re : Mu → Rs D) (rc : Option (Mu → Rs Bool)) (d : D) (m : Mu) : Rs (Option D) := Rs.nox (match (wipeM t m).bind (setT t tup d) with
  | none => .st
  | some m1 => match rc with
    | none => (re m1).bind fun y m2 => .ok (some y) (backL m m2 t)
    | some r => (r m1).bind fun b m2 => match b with
      | true => (re m2).bind fun y m3 => .ok (some y) (backL m m3 t)
      | false => .ok none (backL m m2 t))
section
variable {X : Cx} {W : WXm} {elt tg iter : Expr} {ifs : List Expr} {scope : Scope} {own : List (Str × Nat)} {pos : Pos} {t : List Nat} {tup : Bool} {o : Option Nat} {ri : Mu → Rs (List D)} {re : Mu → Rs D} {rc : Option (Mu → Rs Bool)}
/-- the reading of a comprehension -/
theorem tr_comp (ht1 : tup = false → t.length = 1) {σ : St} {H : Hp} {Q : VK}
    (h : Tf X.K W (fun μ => (ri μ).bind fun xs μ1 => (compL (turnR t tup re rc) xs [] (lockM o μ1)).bind fun ys μ2 => .ok (.list ys) (unlockM o μ1 μ2)) σ H Q) :
    tLc (TrI X.K W o ri) (gOf X.K t tup) (ttOf X.K rc) (Tr X.K W0 (rD X.K) re) t σ H Q := by
  obtain ⟨c, L, M, μ, S, p⟩ := h
  refine ⟨c, L, M, μ, S, ?_⟩
  cases hri : ri μ with
  | st => simp only [hri] at p; exact p
  | ex x μ1 => simp only [hri] at p; exact p
  | ok xs μ1 =>
    simp only [hri] at p
    intro J H1 S1 k1 it hz D nD
    obtain ⟨c', M', ioe, S1', mlk, mm, back⟩ := S1.lock o
    have nL : ¬ L D := S1.free nD
    have nM' : ¬ M' D := fun z => nL (S1.ml D (mm D z))
    have nlk : ¬ c'.lk D := fun z => nL (S1'.lkl D z).1
    have n0 : c'.H0 D = none ∨ c'.M0 D := by
      by_cases z : c'.M0 D
      · exact .inr z
      · cases q : c'.H0 D with
        | none => exact .inl rfl
        | some o => have := S1'.keep D o q z; rw [nD] at this; cases this
    have S2 : Sr X.K c' (plusA L D) M' (lockM o μ1) σ (upd H1 D (.lst [])) := S1'.plus nD
    have kD : ∀ (H : Hp) (oo : HO), Kp (plusA M' D) H (upd H D oo) := fun H oo a u e n => by rw [upd_ne (fun z => n (.inr z))]; exact e
    have kDL : ∀ (H : Hp) (oo : HO), Kp (plusA L D) H (upd H D oo) := fun H oo a u e n => by rw [upd_ne (fun z => n (.inr z))]; exact e
    have nl' : ∀ a, plusA M' D a → plusA L D a := fun a h => h.elim (fun h => .inl (S1'.ml a h)) .inr
    have it2 : IterSt X.K (plusA L D) (plusA M' D) J xs (upd H1 D (.lst [])) := ((it.anti (fun _ h => h) mlk).plus nD).keep (kD _ _) nl'
    refine ⟨fun i m H' => ∃ μi accD acc, i + m = xs.length ∧ Sr X.K c' (plusA L D) M' μi σ H' ∧ IterSt X.K (plusA L D) (plusA M' D) J xs H' ∧ H' D = some (.lst acc) ∧ Dvs X.K H' (plusA L D) accD acc ∧ acc.length ≤ i ∧ Kp (plusA M' D) H1 H' ∧
      Pf X.K c L M W σ H Q ((compL (turnR t tup re rc) (xs.drop i) accD μi).bind fun ys μ2 => .ok (.list ys) (unlockM o μ1 μ2)), ⟨xs.length, lockM o μ1, [], [], by omega, S2, it2, upd_same, .nil, Nat.zero_le _, kD _ _, p⟩, ?_⟩
    rintro i m H' ⟨μi, accD, acc, him, Si, iti, eD, dvs, hla, ki, pf⟩
    by_cases hi : i < xs.length
    · obtain ⟨d, ed⟩ : ∃ d, xs[i]? = some d := ⟨xs[i], List.getElem?_eq_getElem hi⟩
      obtain ⟨y, dy, go, yl⟩ := iti.turn ed
      have hdrop : xs.drop i = d :: xs.drop (i + 1) := by
        rw [List.drop_eq_getElem_cons hi]
        congr 1
        rw [List.getElem?_eq_getElem hi] at ed
        exact Option.some.inj ed
      rw [hdrop] at pf
      have pf' : Pf X.K c L M W σ H Q (((turnR t tup re rc d μi).bind fun o μ1 => match o with
          | some x => compL (turnR t tup re rc) (xs.drop (i + 1)) (accD ++ [x]) μ1
          | none => compL (turnR t tup re rc) (xs.drop (i + 1)) accD μ1).bind fun ys μ2 => .ok (.list ys) (unlockM o μ1 μ2)) := pf
      refine .inr ⟨go, fun H'' => ∃ μi accD acc, (i + 1) + (m - 1) = xs.length ∧ Sr X.K c' (plusA L D) M' μi σ H'' ∧ IterSt X.K (plusA L D) (plusA M' D) J xs H'' ∧ H'' D = some (.lst acc) ∧ Dvs X.K H'' (plusA L D) accD acc ∧ acc.length ≤ i + 1 ∧ Kp (plusA M' D) H1 H'' ∧
        Pf X.K c L M W σ H Q ((compL (turnR t tup re rc) (xs.drop (i + 1)) accD μi).bind fun ys μ2 => .ok (.list ys) (unlockM o μ1 μ2)), fun H'' h => ⟨m - 1, by omega, h⟩, fun x H'' hyld => ?_⟩
      have hy := yl x H'' hyld
      clear pf
      generalize hcl : compL (turnR t tup re rc) (List.drop (i + 1) xs) = cl at pf' ⊢
      unfold turnR wipeM at pf'
      by_cases hf : freeAll t μi = true
      · rw [if_pos hf] at pf'
        simp only [Option.bind_some] at pf'
        cases hset : setT t tup d (wipeL μi t) with
        | none => rw [hset] at pf'; exact pf'.elim
        | some m1 =>
          rw [hset] at pf'
          simp only at pf'
          have Sw := Si.wipe (t := t) hf
          have fr := freeAll_of hf
          refine g_set Sw dy hy hset (fun j hj => ?_) ht1 fun σ2 Sx ag hl kk => ⟨wipe_set (by rw [hl, wipe_length]) ag, ?_⟩
          · obtain ⟨s, e, h⟩ := fr j hj
            intro p hp z
            obtain ⟨_, s', e', h'⟩ := Si.io p hp
            rw [z, e] at e'; cases e'; rw [h] at h'; cases h'
          · have ag' : ∀ j, j ∉ t → σ2[j]? = σ[j]? := fun j hj => (ag j hj).trans (wipe_out hj)
            have hl' : σ2.length = σ.length := by rw [hl, wipe_length]
            have kx : Kp M' H' H'' := fun a oo e _ => kk a oo e
            -- behind the turn
            have next : ∀ (m2 : Mu) (H4 : Hp), Sr X.K c' (plusA L D) M' m2 σ2 H4 → Kp M' H'' H4 → Sr X.K c' (plusA L D) M' (backL μi m2 t) σ H4 ∧ IterSt X.K (plusA L D) (plusA M' D) J xs H4 ∧ H4 D = some (.lst acc) ∧ Dvs X.K H4 (plusA L D) accD acc ∧ Kp (plusA M' D) H1 H4 := fun m2 H4 S4 k4 => by
              have k' : Kp M' H' H4 := kx.trans k4
              have kp : Kp (plusA M' D) H' H4 := k'.mono fun a h => .inl h
              exact ⟨S4.back Si k' ag' hl' hf, iti.keep kp nl', k' D _ eD nM', dvs.keep (k'.mono Si.ml), ki.trans kp⟩
            have elem : ∀ (m2 : Mu) (H3 : Hp), Sr X.K c' (plusA L D) M' m2 σ2 H3 → Kp M' H'' H3 → Pf X.K c L M W σ H Q (((Rs.nox ((re m2).bind fun y m3 => .ok (some y) (backL μi m3 t))).bind fun o μ1 => match o with
                | some x => cl (accD ++ [x]) μ1
                | none => cl accD μ1).bind fun ys μ2 => .ok (.list ys) (unlockM o μ1 μ2)) →
                Tr X.K W0 (rD X.K) re σ2 H3 (fun y H4 => ∃ acc, H4 D = some (.lst acc) ∧ acc.length < sizeLine ∧ ∃ μi accD acc_1, (i + 1) + (m - 1) = xs.length ∧ Sr X.K c' (plusA L D) M' μi σ (upd H4 D (.lst (acc ++ [y]))) ∧ IterSt X.K (plusA L D) (plusA M' D) J xs (upd H4 D (.lst (acc ++ [y]))) ∧
                  (upd H4 D (.lst (acc ++ [y]))) D = some (.lst acc_1) ∧ Dvs X.K (upd H4 D (.lst (acc ++ [y]))) (plusA L D) accD acc_1 ∧ acc_1.length ≤ i + 1 ∧ Kp (plusA M' D) H1 (upd H4 D (.lst (acc ++ [y]))) ∧
                  Pf X.K c L M W σ H Q ((cl accD μi).bind fun ys μ2 => .ok (.list ys) (unlockM o μ1 μ2))) := fun m2 H3 S3 k3 pe => by
              refine ⟨c', plusA L D, M', m2, S3, ?_⟩
              cases hre : re m2 with
              | st => rw [hre] at pe; exact pe.elim
              | ex x μx => rw [hre] at pe; exact pe.elim
              | ok yv m3 =>
                rw [hre] at pe
                intro v H4 S4 k4 d4
                obtain ⟨n1, n2, n3, n4, n5⟩ := next m3 H4 S4 (k3.trans k4)
                refine ⟨acc, n3, by omega, backL μi m3 t, accD ++ [yv], acc ++ [v], by omega, n1.wr (.inr rfl) nM' nlk n0, n2.keep (kD _ _) nl', upd_same, (n4.append (.cons d4 .nil)).keep (kDL _ _), by rw [List.length_append]; simp; omega, n5.trans (kD _ _), pe⟩
            clear hcl
            cases rc with
            | none =>
              have g := elem m1 H'' Sx .refl pf'
              unfold ttOf tYes
              dsimp only
              rw [if_pos rfl]
              exact g
            | some r =>
              refine ⟨c', plusA L D, M', m1, Sx, ?_⟩
              simp only at pf'
              cases hr : r m1 with
              | st => rw [hr] at pf'; exact pf'.elim
              | ex x μx => rw [hr] at pf'; exact pf'.elim
              | ok bb m2 =>
                rw [hr] at pf'
                intro b' H3 S3 k3 eb
                have eb : bb = b' := eb
                subst eb
                cases bb with
                | true =>
                  rw [if_pos rfl]
                  exact elem m2 H3 S3 k3 pf'
                | false =>
                  rw [if_neg Bool.false_ne_true]
                  obtain ⟨n1, n2, n3, n4, n5⟩ := next m2 H3 S3 k3
                  exact ⟨backL μi m2 t, accD, acc, by omega, n1, n2, n3, n4, by omega, n5, pf'⟩
      · rw [if_neg hf] at pf'; exact pf'.elim
    · have e : i = xs.length := by omega
      subst e
      refine .inl ⟨iti.stop, ?_⟩
      rw [List.drop_length] at pf
      have pf' : ∀ a H'', Sr X.K c L M (unlockM o μ1 μi) σ H'' → Sr X.K c (plusA L a) M (unlockM o μ1 μi) σ H'' → Kp M H H'' → ¬ L a → (∀ b, H a = some b → False) → rF X.K (.list accD) L a H'' → Q (.ref a) H'' := pf
      obtain ⟨M3, S3, _, h3⟩ := back (plusA L D) M' μi σ H' Si
      have e3 : M3 = M := funext fun b => propext (h3 (fun _ => Iff.rfl) b)
      subst e3
      refine pf' D H' (S3.minus S1.ml S1.l0 fun a h => (S1.lkl a h).1) S3 (fun a oo e n => ki a oo (k1 a oo e n) fun z => z.elim (fun z => n (mm a z)) fun z => ?_) nL (fun b e => ?_) (.inl ⟨accD, acc, rfl, eD, dvs⟩)
      · have := k1 a oo e n; rw [z, nD] at this; cases this
      · have := k1 D b e fun z => nL (S1.ml D z); rw [nD] at this; cases this
theorem jf_comp (hc : X.calm = true) (hN : X.N.Nodup) (hi : JI X W o tg iter ri) (ok : BlkOk X.N X.env.scope scope own) (hown : own.map (·.2) = t) (ht1 : tup = false → t.length = 1)
    (hg : ∀ (s : Shared) (H : Hp) (C : Addr) (cl : List (Str × Addr)) (fp : List Addr), PG (X.blk s H scope (compEnvC scope cl C X.env) fp) tg (gOf X.K t tup))
    (hts : ∀ (s : Shared) (H : Hp) (C : Addr) (cl : List (Str × Addr)) (fp : List Addr), PTs (X.blk s H scope (compEnvC scope cl C X.env) fp) ifs (ttOf X.K rc))
    (he : ∀ (s : Shared) (H : Hp) (C : Addr) (cl : List (Str × Addr)) (fp : List Addr), PE (X.blk s H scope (compEnvC scope cl C X.env) fp) elt (Tr X.K W0 (rD X.K) re))
    (hfs : ∀ x, foldedSetIterable iter X.env x = pure x) :
    JF X W (.ListComp elt [⟨tg, iter, ifs, 0⟩] scope pos) fun μ => (ri μ).bind fun xs μ1 => (compL (turnR t tup re rc) xs [] (lockM o μ1)).bind fun ys μ2 => .ok (.list ys) (unlockM o μ1 μ2) := by
  subst hown
  exact pe_mono (pe_lc hc hN hi ok hg hts he hfs) fun σ H Q h => tr_comp ht1 h
end
end Mn
set_option Elab.async false
set_option linter.all false
set_option maxRecDepth 100000
set_option autoImplicit false
namespace Mn
open PySem PySem.Spec L2
/-! ## statements -/
/-- what a statement may change -/
structure Ext (L M : Ads) (H : Hp) (L' M' : Ads) (H' : Hp) : Prop where
  kp : Kp M H H'
  mm : ∀ a, M' a → M a ∨ H a = none
  ll : ∀ a, L' a → L a ∨ H a = none
theorem Ext.of {L M : Ads} {H H' : Hp} (k : Kp M H H') : Ext L M H L M H' := ⟨k, fun _ h => .inl h, fun _ h => .inl h⟩
theorem Ext.trans {L M L1 M1 L2 M2 : Ads} {H H1 H2 : Hp} (ml : ∀ a, M a → L a) (a : Ext L M H L1 M1 H1) (b : Ext L1 M1 H1 L2 M2 H2) : Ext L M H L2 M2 H2 := by
  have back : ∀ c, H1 c = none → M c ∨ H c = none := fun c h => by
    by_cases m : M c
    · exact .inl m
    · cases q : H c with
      | none => exact .inr rfl
      | some o => rw [a.kp c o q m] at h; cases h
  refine ⟨fun c o e n => b.kp c o (a.kp c o e n) fun z => ?_, fun c h => ?_, fun c h => ?_⟩
  · rcases a.mm c z with z | z
    · exact n z
    · rw [z] at e; cases e
  · rcases b.mm c h with h | h
    · exact a.mm c h
    · exact back c h
  · rcases b.ll c h with h | h
    · exact a.ll c h
    · exact (back c h).imp_left (ml c)
def PostS (K : PySem.W.Frag) (c : Ent) (L M : Ads) (W : WXm) (H : Hp) (E : Ends) : Rs Fl → Prop
  | .ok .nx μ' => ∀ L' M' σ' H', Sr K c L' M' μ' σ' H' → Ext L M H L' M' H' → E.nx σ' H'
  | .ok (.rt d) μ' => ∀ v L' M' σ' H', Sr K c L' M' μ' σ' H' → Ext L M H L' M' H' → Dv K H' L' d v → E.rt v H'
  | .ok (.rf d) μ' => ∀ a L' M' σ' H', Sr K c L' M' μ' σ' H' → Sr K c (plusA L' a) M' μ' σ' H' → Ext L M H L' M' H' → ¬ L' a → (c.H0 a = none ∨ c.M0 a) → rF K d L' a H' → E.rt (.ref a) H'
  | .ex x μ' => ∀ L' M' σ' H', Sr K c L' M' μ' σ' H' → Ext L M H L' M' H' → W x σ' H'
  | .st => False
theorem PostS.up {K : PySem.W.Frag} {c : Ent} {L M L1 M1 : Ads} {W : WXm} {H H1 : Hp} {E : Ends} {r : Rs Fl} (ml : ∀ a, M a → L a) (x : Ext L M H L1 M1 H1) (p : PostS K c L M W H E r) : PostS K c L1 M1 W H1 E r := by
  cases r with
  | st => exact p
  | ex y μ => exact fun L' M' σ' H' S e => p L' M' σ' H' S (x.trans ml e)
  | ok fl μ =>
    cases fl with
    | nx => exact fun L' M' σ' H' S e => p L' M' σ' H' S (x.trans ml e)
    | rt d => exact fun v L' M' σ' H' S e dv => p v L' M' σ' H' S (x.trans ml e) dv
    | rf d => exact fun a L' M' σ' H' S S2 e n h0 f => p a L' M' σ' H' S S2 (x.trans ml e) n h0 f
def TrS (K : PySem.W.Frag) (W : WXm) (ios : List Nat) (r : Mu → Rs Fl) : TS := fun E σ H => ∃ c L M μ, c.io.map (·.1) = ios ∧ Sr K c L M μ σ H ∧ PostS K c L M W H E (r μ)
abbrev JS (X : Cx) (W : WXm) (ios : List Nat) (st : Stmt) (r : Mu → Rs Fl) : Prop := PS X st (TrS X.K W ios r)
abbrev JSs (X : Cx) (W : WXm) (ios : List Nat) (st : List Stmt) (r : Mu → Rs Fl) : Prop := PSs X st (TrS X.K W ios r)
section
variable {K : PySem.W.Frag} {c : Ent} {L M : Ads} {μ : Mu} {σ : St} {H : Hp}
theorem io_ne {c : Ent} {ios : List Nat} {i : Nat} (e : c.io.map (·.1) = ios) (h : i ∉ ios) : ∀ p ∈ c.io, p.1 ≠ i := fun p hp z => h (by rw [← e, ← z]; exact List.mem_map_of_mem hp)
/-- a new list is a slot's own -/
theorem Sr.setOwn {a : Addr} {H0 : Hp} {c0 : Ads} (S : Sr K c (plusA L a) M μ σ H) (S0 : Sr K c L M μ σ H) {i : Nat} {d : D} (nL : ¬ L a) (n0 : c.H0 a = none ∨ c.M0 a) (f : rF K d L a H) (hio : ∀ p ∈ c.io, p.1 ≠ i) (hlk : ∀ e, μ[i]? ≠ some (.lck e)) (hi : i < σ.length) :
    Sr K c (plusA L a) (plusA M a) (μ.set i (.own d)) (σ.set i (some (.ref a))) H := by
  have il : i < μ.length := by rw [S.len]; exact hi
  have ow : OwnAt K H (plusA L a) d a := by
    rcases f with ⟨ds, vs, rfl, h1, h2⟩ | ⟨es, kvs, rfl, h1, h2⟩
    · exact .inl ⟨ds, vs, rfl, h1, h2⟩
    · exact .inr ⟨es, kvs, rfl, h1, h2⟩
  have ne : ∀ (j : Nat) (s : Sl), (μ.set i (.own d))[j]? = some s → j ≠ i → μ[j]? = some s ∧ (σ.set i (some (.ref a)))[j]? = σ[j]? := fun j s e n => by
    rw [List.getElem?_set_ne (Ne.symm n)] at e
    exact ⟨e, List.getElem?_set_ne (Ne.symm n)⟩
  have off : ∀ (j : Nat) (s : Sl), μ[j]? = some s → s.held = true → σ[j]? ≠ some (some (.ref a)) := fun j s e h z => by
    cases s with
    | no => cases h
    | val _ => cases h
    | own e' => obtain ⟨b, q1, _, q3⟩ := S0.own j e' e; rw [q1] at z; cases z; exact nL (S0.ml _ q3)
    | lck e' => obtain ⟨b, q1, _, q3⟩ := S0.lck j e' e; rw [q1] at z; cases z; exact nL (S0.lkl _ ⟨_, q3, rfl⟩).1
  refine ⟨by rw [List.length_set, List.length_set]; exact S.len, fun j e q => ?_, fun j e q => ?_, fun j e q => ?_, fun j j' s t b q1 h1 q2 h2 e1 e2 => ?_, fun b h => ?_, fun b h => ?_, S.l0, fun b h => ?_, S.l00, S.trk, S.keep, fun p hp => ?_, fun p hp => ?_⟩
  · by_cases n : j = i
    · subst n; rw [List.getElem?_set_self il] at q; cases q
    · obtain ⟨a1, a2⟩ := ne j _ q n; rw [a2]; exact S.val j e a1
  · by_cases n : j = i
    · subst n; rw [List.getElem?_set_self il] at q; cases q
      exact ⟨a, List.getElem?_set_self hi, ow, .inr rfl⟩
    · obtain ⟨a1, a2⟩ := ne j _ q n; rw [a2]
      obtain ⟨b, q1, q2, q3⟩ := S.own j e a1
      exact ⟨b, q1, q2, .inl q3⟩
  · by_cases n : j = i
    · subst n; rw [List.getElem?_set_self il] at q; cases q
    · obtain ⟨a1, a2⟩ := ne j _ q n; rw [a2]; exact S.lck j e a1
  · by_cases n : j = i
    · by_cases n' : j' = i
      · rw [n, n']
      · subst n
        rw [List.getElem?_set_self hi] at e1; cases e1
        obtain ⟨a1, a2⟩ := ne j' _ q2 n'
        rw [a2] at e2
        exact absurd e2 (off j' t a1 h2)
    · obtain ⟨a1, a2⟩ := ne j _ q1 n
      by_cases n' : j' = i
      · subst n'
        rw [List.getElem?_set_self hi] at e2; cases e2
        rw [a2] at e1
        exact absurd e1 (off j s a1 h1)
      · obtain ⟨b1, b2⟩ := ne j' _ q2 n'
        rw [a2] at e1; rw [b2] at e2
        exact S.inj j j' s t b a1 h1 b1 h2 e1 e2
  · rcases h with h | rfl
    · exact S.ml b h
    · exact .inr rfl
  · obtain ⟨z1, z2⟩ := S.lkl b h
    refine ⟨z1, fun z => ?_⟩
    rcases z with z | rfl
    · exact z2 z
    · exact nL (S0.lkl _ h).1
  · rcases h with h | rfl
    · exact S.m0 b h
    · exact n0.symm
  · obtain ⟨e1, s, e2, e3⟩ := S.io p hp
    have n := hio p hp
    rw [List.getElem?_set_ne (Ne.symm n), List.getElem?_set_ne (Ne.symm n)]
    exact ⟨e1, s, e2, e3⟩
  · obtain ⟨e1, dd, e2⟩ := S.lks p hp
    have n : p.1 ≠ i := fun z => hlk dd (by rw [← z]; exact e2)
    rw [List.getElem?_set_ne (Ne.symm n), List.getElem?_set_ne (Ne.symm n)]
    exact ⟨e1, dd, e2⟩
/-- a slot's own object is handed on as a value -/
theorem Sr.freeze (S : Sr K c L M μ σ H) {i : Nat} {d : D} (hd : μ[i]? = some (.own d)) (hio : ∀ p ∈ c.io, p.1 ≠ i) : ∃ L' M', Sr K c L' M' (μ.set i (.val d)) σ H ∧ (∀ a, L' a → L a) ∧ (∀ a, M' a → M a) := by
  obtain ⟨a, ea, ow, hM⟩ := S.own i d hd
  have il : i < μ.length := (List.getElem?_eq_some_iff.mp hd).1
  have nio : ¬ c.M0 a := fun ⟨p, hp, e⟩ => by
    obtain ⟨e1, s, e2, e3⟩ := S.io p hp
    exact hio p hp (S.inj p.1 i s _ a e2 e3 hd rfl (by rw [e1, e]) ea)
  have h0 : c.H0 a = none := (S.m0 a hM).resolve_left nio
  have nL0 : ¬ c.L0 a := fun z => S.l00 a z h0
  have sub : ∀ b, (L b ∧ b ≠ a) → L b := fun b h => h.1
  have dv : Dv K H (fun b => L b ∧ b ≠ a) d (.ref a) := by
    rcases ow with ⟨ds, vs, rfl, h1, h2⟩ | ⟨es, kvs, rfl, h1, h2⟩
    · exact .lst (fun z => z.2 rfl) (.inl h1) (h2.anti sub)
    · exact .dct (fun z => z.2 rfl) h1 (h2.anti sub)
  have ne : ∀ (j : Nat) (s : Sl), (μ.set i (.val d))[j]? = some s → j ≠ i → μ[j]? = some s := fun j s e n => by rw [List.getElem?_set_ne (Ne.symm n)] at e; exact e
  have held : ∀ (j : Nat) (s : Sl), (μ.set i (.val d))[j]? = some s → s.held = true → j ≠ i := fun j s e h n => by
    subst n; rw [List.getElem?_set_self il] at e; cases e; cases h
  refine ⟨fun b => L b ∧ b ≠ a, fun b => M b ∧ b ≠ a, ⟨by rw [List.length_set]; exact S.len, fun j e q => ?_, fun j e q => ?_, fun j e q => ?_, fun j j' s t b q1 h1 q2 h2 e1 e2 => ?_, fun b h => ⟨S.ml b h.1, h.2⟩, fun b h => ?_, fun b h => ⟨S.l0 b h, fun z => nL0 (z ▸ h)⟩, fun b h => S.m0 b h.1, S.l00, fun b h => S.trk b h.1, S.keep, fun p hp => ?_, fun p hp => ?_⟩, fun _ h => h.1, fun _ h => h.1⟩
  · by_cases n : j = i
    · subst n; rw [List.getElem?_set_self il] at q; cases q; exact ⟨_, ea, dv⟩
    · obtain ⟨v, e1, e2⟩ := S.val j e (ne j _ q n); exact ⟨v, e1, e2.anti sub⟩
  · have n := held j _ q rfl
    have q' := ne j _ q n
    obtain ⟨b, e1, e2, e3⟩ := S.own j e q'
    exact ⟨b, e1, e2.anti sub, e3, fun z => n (S.inj j i _ _ a q' rfl hd rfl (z ▸ e1) ea)⟩
  · have n := held j _ q rfl
    have q' := ne j _ q n
    obtain ⟨b, e1, e2, e3⟩ := S.lck j e q'
    exact ⟨b, e1, e2.anti sub, e3⟩
  · exact S.inj j j' s t b (ne j _ q1 (held j _ q1 h1)) h1 (ne j' _ q2 (held j' _ q2 h2)) h2 e1 e2
  · obtain ⟨z1, z2⟩ := S.lkl b h
    exact ⟨⟨z1, fun z => z2 (z ▸ hM)⟩, fun z => z2 z.1⟩
  · obtain ⟨e1, s, e2, e3⟩ := S.io p hp
    have n := hio p hp
    rw [List.getElem?_set_ne (Ne.symm n)]; exact ⟨e1, s, e2, e3⟩
  · obtain ⟨e1, dd, e2⟩ := S.lks p hp
    have n : p.1 ≠ i := fun z => by rw [z, hd] at e2; cases e2
    rw [List.getElem?_set_ne (Ne.symm n)]; exact ⟨e1, dd, e2⟩
end
/-- from an expression on -/
theorem PostS.bind {K : PySem.W.Frag} {c : Ent} {L M : Ads} {W : WXm} {E : Ends} {σ : St} {H : Hp} {α β : Type} {R : Rl α β} {Q : β → Hp → Prop} {r : Rs α} {k : α → Mu → Rs Fl} (ml : ∀ a, M a → L a) (p : PostS K c L M W H E (r.bind k))
    (g : ∀ a μ1 b H1, Sr K c L M μ1 σ H1 → R L a b H1 → PostS K c L M W H1 E (k a μ1) → Q b H1) : Pst K c L M W σ H R Q r := by
  cases r with
  | ok a μ => exact fun b H' S k' h => g a μ b H' S h (PostS.up ml (.of k') p)
  | ex x μ => exact fun H' S k' => p L M σ H' S (.of k')
  | st => exact p
theorem PostS.bindK {K : PySem.W.Frag} {c : Ent} {L M : Ads} {W : WXm} {E : Ends} {σ : St} {H : Hp} {α β : Type} {R : Rl α β} {Q : β → Hp → Prop} {r : Rs α} {k : α → Mu → Rs Fl} (ml : ∀ a, M a → L a) (p : PostS K c L M W H E (r.bind k))
    (g : ∀ a μ1 b H1, Sr K c L M μ1 σ H1 → Kp M H H1 → R L a b H1 → PostS K c L M W H1 E (k a μ1) → Q b H1) : Pst K c L M W σ H R Q r := by
  cases r with
  | ok a μ => exact fun b H' S k' h => g a μ b H' S k' h (PostS.up ml (.of k') p)
  | ex x μ => exact fun H' S k' => p L M σ H' S (.of k')
  | st => exact p
theorem PostS.bindF {K : PySem.W.Frag} {c : Ent} {L M : Ads} {W : WXm} {E : Ends} {σ : St} {H : Hp} {Q : VK} {r : Rs D} {k : D → Mu → Rs Fl} (p : PostS K c L M W H E (r.bind k))
    (g : ∀ d μ1 a H1, Sr K c L M μ1 σ H1 → Sr K c (plusA L a) M μ1 σ H1 → Kp M H H1 → ¬ L a → (∀ b, H a = some b → False) → rF K d L a H1 → PostS K c L M W H E (k d μ1) → Q (.ref a) H1) : Pf K c L M W σ H Q r := by
  cases r with
  | ok a μ => exact fun b H' S1 S2 k n nh f => g a μ b H' S1 S2 k n nh f p
  | ex x μ => exact fun H' S k => p L M σ H' S (.of k)
  | st => exact p
theorem tr_tf {K : PySem.W.Frag} {W : WXm} {r : Mu → Rs D} {σ : St} {H : Hp} {Q : VK} (h : Tr K W (rD K) r σ H Q) : Tf K W r σ H Q := by
  obtain ⟨c, L, M, μ, S, p⟩ := h
  refine ⟨c, L, M, μ, S, ?_⟩
  cases h : r μ with
  | ok d μ' => rw [h] at p; exact fun a H' S1 S2 k n _ f => p _ _ S1 k (f.dv n)
  | ex x μ' => rw [h] at p; exact p
  | st => rw [h] at p; exact p
section
variable {X : Cx} {W : WXm} {ios : List Nat} {st : Stmt} {sts : List Stmt} {e a b : Expr} {pos : Pos} {i j : Nat} {re ra rb : Mu → Rs D} {r r' : Mu → Rs Fl} {te : TE}
/-- x = e -/
theorem js_asg (h : PS X st (tAsg te (gName i))) (imp : ∀ σ H Q, Tr X.K W (rD X.K) re σ H Q → te σ H Q) (hio : i ∉ ios) : JS X W ios st fun μ => (re μ).bind fun d μ1 => match setAll [i] [d] μ1 with
    | some μ2 => .ok .nx μ2
    | none => .st := by
  refine ps_mono h fun E σ H ⟨c, L, M, μ, hc, S, p⟩ => imp _ _ _ ⟨c, L, M, μ, S, PostS.bind S.ml p fun d μ1 v H1 S1 d1 p1 => ?_⟩
  unfold setAll setAll at p1
  by_cases hl : isLck μ1 i = true
  · rw [if_pos hl] at p1; exact p1.elim
  · rw [if_neg hl] at p1
    exact p1 L M _ _ (S1.set' d1 (io_ne hc hio) (isLck_of hl)) (.of .refl)
/-- x = a new list, the slot's own -/
theorem js_own (h : PS X st (tAsg te (gName i))) (imp : ∀ σ H Q, Tf X.K W re σ H Q → te σ H Q) (hio : i ∉ ios) (hi : i < X.N.length) : JS X W ios st fun μ => (re μ).bind fun d μ1 => if isLck μ1 i then .st else .ok .nx (μ1.set i (.own d)) := by
  refine ⟨fun pins s σ H E I ⟨c, L, M, μ, hc, S, p⟩ => h.run pins s σ H E I (imp _ _ _ ⟨c, L, M, μ, S, PostS.bindF p fun d μ1 a H1 S1 S2 kp nL nh f p1 => ?_⟩)⟩
  by_cases hl : isLck μ1 i = true
  · rw [if_pos hl] at p1; exact p1.elim
  · rw [if_neg hl] at p1
    have n0 : c.H0 a = none ∨ c.M0 a := by
      by_cases z : c.M0 a
      · exact .inr z
      · cases q : c.H0 a with
        | none => exact .inl rfl
        | some o => exact (nh o (S.keep a o q z)).elim
    have na : H a = none := by
      cases q : H a with
      | none => rfl
      | some o => exact (nh o q).elim
    exact p1 _ _ _ _ (S2.setOwn (H0 := H) (c0 := L) S1 nL n0 f (io_ne hc hio) (isLck_of hl) (by rw [I.len]; exact hi)) ⟨kp, fun b h => h.elim .inl fun z => .inr (by rw [z]; exact na), fun b h => h.elim .inl fun z => .inr (by rw [z]; exact na)⟩
theorem js_ret (h : JE X W e re) : JS X W ios (.Return (some e) pos) fun μ => (re μ).bind fun d μ1 => .ok (.rt d) μ1 :=
  ps_mono (ps_ret h) fun E σ H ⟨c, L, M, μ, hc, S, p⟩ => ⟨c, L, M, μ, S, PostS.bind S.ml p fun d μ1 v H1 S1 d1 p1 => p1 v L M σ H1 S1 (.of .refl) d1⟩
theorem js_retF (h : JF X W e re) : JS X W ios (.Return (some e) pos) fun μ => (re μ).bind fun d μ1 => .ok (.rf d) μ1 :=
  ps_mono (ps_ret h) fun E σ H ⟨c, L, M, μ, hc, S, p⟩ => ⟨c, L, M, μ, S, PostS.bindF p fun d μ1 a H1 S1 S2 kp nL nh f p1 => p1 a L M σ H1 S1 S2 (.of kp) nL (by
    by_cases z : c.M0 a
    · exact .inr z
    · cases q : c.H0 a with
      | none => exact .inl rfl
      | some o => exact (nh o (S.keep a o q z)).elim) f⟩
theorem js_pass : JS X W ios (.Pass pos) fun μ => .ok .nx μ := ps_mono ps_pass fun E σ H ⟨c, L, M, μ, hc, S, p⟩ => p L M σ H S (.of .refl)
theorem js_never : JS X W ios st fun _ => .st := ps_mono ps_never fun E σ H ⟨c, L, M, μ, hc, S, p⟩ => p
theorem js_expr (h : JE X W e re) (hs : swapsWith e none pos.line X.env = pure false) : JS X W ios (.Expr e pos) fun μ => (re μ).bind fun _ μ1 => .ok .nx μ1 :=
  ps_mono (ps_expr h hs) fun E σ H ⟨c, L, M, μ, hc, S, p⟩ => ⟨c, L, M, μ, S, PostS.bind S.ml p fun d μ1 v H1 S1 d1 p1 => p1 L M σ H1 S1 (.of .refl)⟩
theorem js_if {cnd : Expr} {A B : List Stmt} {rc : Mu → Rs Bool} (hc : JT X W cnd rc) (ha : JSs X W ios A r) (hb : JSs X W ios B r') : JS X W ios (.If cnd A B pos) fun μ => (rc μ).bind fun t μ1 => match t with
    | true => r μ1
    | false => r' μ1 :=
  ps_mono (ps_if hc ha hb) fun E σ H ⟨c, L, M, μ, hio, S, p⟩ => ⟨c, L, M, μ, S, PostS.bind S.ml p fun t μ1 v H1 S1 d1 p1 => by
    cases d1
    cases t with
    | true => rw [if_pos rfl]; exact ⟨c, L, M, μ1, hio, S1, p1⟩
    | false => rw [if_neg Bool.false_ne_true]; exact ⟨c, L, M, μ1, hio, S1, p1⟩⟩
theorem jss_nil : JSs X W ios [] fun μ => .ok .nx μ := pss_mono pss_nil fun E σ H ⟨c, L, M, μ, hc, S, p⟩ => p L M σ H S (.of .refl)
def seqR (r r' : Mu → Rs Fl) : Mu → Rs Fl := fun μ => (r μ).bind fun fl μ1 => match fl with
  | .nx => r' μ1
  | fl => .ok fl μ1
theorem jss_cons (h : JS X W ios st r) (h' : JSs X W ios sts r') : JSs X W ios (st :: sts) (seqR r r') := by
  refine pss_mono (pss_cons h h') fun E σ H ⟨c, L, M, μ, hc, S, p⟩ => ⟨c, L, M, μ, hc, S, ?_⟩
  unfold seqR at p
  cases hr : r μ with
  | st => rw [hr] at p; exact p
  | ex x μ1 => rw [hr] at p; exact p
  | ok fl μ1 =>
    rw [hr] at p
    cases fl with
    | nx => exact fun L' M' σ' H' S' x => ⟨c, L', M', μ1, hc, S', PostS.up S.ml x p⟩
    | rt d => exact p
    | rf d => exact p
/-- ahead of some statements a slot's own object becomes a value -/
theorem jss_frz (h : JSs X W ios sts r) (hio : i ∉ ios) : JSs X W ios sts fun μ => match frzM i μ with
    | some μ1 => r μ1
    | none => .st := by
  refine pss_mono h fun E σ H ⟨c, L, M, μ, hc, S, p⟩ => ?_
  unfold frzM at p
  cases hq : μ[i]? with
  | none => simp only [hq] at p; exact p.elim
  | some s =>
    cases s with
    | no => simp only [hq] at p; exact p.elim
    | lck d => simp only [hq] at p; exact p.elim
    | val d => simp only [hq] at p; exact ⟨c, L, M, μ, hc, S, p⟩
    | own d =>
      simp only [hq] at p
      obtain ⟨L', M', S', h1, h2⟩ := S.freeze hq (io_ne hc hio)
      exact ⟨c, L', M', _, hc, S', PostS.up S.ml ⟨.refl, fun a h => .inl (h2 a h), fun a h => .inl (h1 a h)⟩ p⟩
end
end Mn
set_option Elab.async false
set_option linter.all false
set_option maxRecDepth 100000
set_option autoImplicit false
namespace Mn
open PySem PySem.Spec L2
theorem IterSt.ext {K : PySem.W.Frag} {L M L' M' : Ads} {J : It} {ds : List D} {H H' : Hp} (h : IterSt K L M J ds H) (ml : ∀ a, M a → L a) (x : Ext L M H L' M' H') : IterSt K L' M' J ds H' := by
  obtain ⟨deps, ys, h1, h2, h3⟩ := h
  have gr : ∀ {d : D} {v : V}, Dv K H L d v → Dv K H' L' d v := fun {d v} w => by
    have w1 : Dv K H (fun a => L a ∨ L' a) d v := w.grow fun a h => h.elim .inl (x.ll a)
    have w2 : Dv K H' (fun a => L a ∨ L' a) d v := w1.keep (x.kp.mono fun a m => .inl (ml a m))
    exact w2.anti fun a h => .inr h
  refine ⟨deps, ys, fun p hp => ⟨x.kp _ _ (h1 p hp).1 (h1 p hp).2, fun z => ?_⟩, h2.map (f := fun {d y} w => ?_), h3⟩
  · rcases x.mm _ z with z | z
    · exact (h1 p hp).2 z
    · rw [(h1 p hp).1] at z; cases z
  · cases w with
    | one w => exact .one (gr w)
    | two w z => exact .two (gr w) (gr z)
section
variable {X : Cx} {W : WXm} {ios : List Nat} {st : Stmt} {sts : List Stmt} {e a b : Expr} {es : List Expr} {pos apos p2 : Pos} {i j : Nat} {re ra rb : Mu → Rs D} {r r' : Mu → Rs Fl} {te : TE}
/-! ### loops -/
theorem js_whl {cnd : Expr} {rc : Mu → Rs Bool} {n : Nat} (hp : PassesOwn (model X.prog X.w) X.A X.env X.xe) (hc : JT X W cnd rc) (hb : JSs X W ios sts r) : JS X W ios (.While cnd sts [] pos) fun μ => whlL rc r n μ := by
  refine ps_mono (ps_while hp hc hb) fun E σ H ⟨c, L, M, μ, hio, S, p⟩ => ⟨fun m σ' H' => ∃ L M μ, Sr X.K c L M μ σ' H' ∧ PostS X.K c L M W H' E (whlL rc r m μ), ⟨n, L, M, μ, S, p⟩, ?_⟩
  rintro m σ' H' ⟨L, M, μ, S, p⟩
  cases m with
  | zero => exact p.elim
  | succ m =>
    unfold whlL at p
    refine ⟨c, L, M, μ, S, PostS.bind S.ml p fun t μ1 v H1 S1 d1 p1 => ?_⟩
    cases d1
    cases t with
    | false => rw [if_neg Bool.false_ne_true]; exact p1 L M _ _ S1 (.of .refl)
    | true =>
      rw [if_pos rfl]
      refine ⟨fun σ' H' => ∃ L M μ, Sr X.K c L M μ σ' H' ∧ PostS X.K c L M W H' E (whlL rc r m μ), fun σ' H' h => ⟨m, Nat.lt_succ_self m, h⟩, c, L, M, μ1, hio, S1, ?_⟩
      cases hr : r μ1 with
      | st => simp only [hr] at p1; exact p1
      | ex x μ2 => simp only [hr] at p1; exact p1
      | ok fl μ2 =>
        simp only [hr] at p1
        cases fl with
        | nx => exact fun L' M' σ' H' S' x => ⟨L', M', μ2, S', PostS.up S.ml x p1⟩
        | rt d => exact p1
        | rf d => exact p1.elim
theorem js_for {t : List Nat} {tup : Bool} {o : Option Nat} {tg iter : Expr} {ri : Mu → Rs (List D)} (hp : PassesOwn (model X.prog X.w) X.A X.env X.xe) (hc : X.calm = true) (hi : JI X W o tg iter ri) (hg : PG X tg (gOf X.K t tup)) (hb : JSs X W ios sts r)
    (hfs : ∀ x, foldedSetIterable iter X.env x = pure x) (ht1 : tup = false → t.length = 1) (hti : ∀ i ∈ t, i ∉ ios) :
    JS X W ios (.For tg iter sts [] pos) fun μ => (ri μ).bind fun xs μ1 => Rs.mu (unlockM o μ1) (forL (fun d m => match setT t tup d m with
      | some m1 => r m1
      | none => .st) xs (lockM o μ1)) := by
  refine ⟨fun pins s σ H E I ⟨c, L, M, μ, hio, S, p⟩ => (ps_for hp hc hi hg hb hfs).run pins s σ H E I ⟨c, L, M, μ, S, ?_⟩⟩
  cases hri : ri μ with
  | st => simp only [hri] at p; exact p
  | ex x μ1 => simp only [hri] at p; exact fun H' S' k => p L M σ H' S' (.of k)
  | ok xs μ1 =>
    simp only [hri] at p
    intro J H1 S1 k1 it hz
    obtain ⟨c', M', ioe, S1', mlk, mm, back⟩ := S1.lock o
    generalize hf : (fun d m => match setT t tup d m with
      | some m1 => r m1
      | none => .st) = f at p
    replace p : PostS X.K c L M W H1 E (Rs.mu (unlockM o μ1) (forL f xs (lockM o μ1))) := PostS.up S1.ml (.of k1) p
    -- the end of the walk
    have fin : ∀ L2 M2 μ2 σ2 H2, Sr X.K c' L2 M2 μ2 σ2 H2 → Ext L M' H1 L2 M2 H2 → ∃ M3, Sr X.K c L2 M3 (unlockM o μ1 μ2) σ2 H2 ∧ Ext L M H1 L2 M3 H2 := fun L2 M2 μ2 σ2 H2 S2 x => by
      obtain ⟨M3, S3, h3, _⟩ := back L2 M2 μ2 σ2 H2 S2
      exact ⟨M3, S3, ⟨x.kp.mono mm, fun b h => (h3 b h).elim (fun h => (x.mm b h).imp_left (mm b)) .inl, x.ll⟩⟩
    refine ⟨fun i m σ' H' => ∃ L2 M2 μi, i + m = xs.length ∧ Sr X.K c' L2 M2 μi σ' H' ∧ IterSt X.K L2 M2 J xs H' ∧ Ext L M' H1 L2 M2 H' ∧ PostS X.K c L M W H1 E (Rs.mu (unlockM o μ1) (forL f (xs.drop i) μi)),
      ⟨xs.length, L, M', lockM o μ1, by omega, S1', it.anti (fun _ h => h) mlk, .of .refl, p⟩, ?_⟩
    rintro i m σ' H' ⟨L2, M2, μi, him, Si, iti, xi, pf⟩
    by_cases hi : i < xs.length
    · obtain ⟨d, ed⟩ : ∃ d, xs[i]? = some d := ⟨xs[i], List.getElem?_eq_getElem hi⟩
      obtain ⟨y, dy, go, yl⟩ := iti.turn ed
      have hdrop : xs.drop i = d :: xs.drop (i + 1) := by
        rw [List.drop_eq_getElem_cons hi]
        congr 1
        rw [List.getElem?_eq_getElem hi] at ed
        exact Option.some.inj ed
      rw [hdrop] at pf
      have pf' : PostS X.K c L M W H1 E (Rs.mu (unlockM o μ1) ((f d μi).bind fun fl μ1 => match fl with
        | .nx => forL f (xs.drop (i + 1)) μ1
        | .rt v => .ok (.rt v) μ1
        | .rf _ => .st)) := pf
      clear pf
      refine .inr ⟨go, fun σ'' H'' => ∃ L2 M2 μi, (i + 1) + (m - 1) = xs.length ∧ Sr X.K c' L2 M2 μi σ'' H'' ∧ IterSt X.K L2 M2 J xs H'' ∧ Ext L M' H1 L2 M2 H'' ∧ PostS X.K c L M W H1 E (Rs.mu (unlockM o μ1) (forL f (xs.drop (i + 1)) μi)),
        fun σ'' H'' h => ⟨m - 1, by omega, h⟩, fun x H'' hyld => ?_⟩
      have hy := yl x H'' hyld
      generalize hrest : forL f (xs.drop (i + 1)) = rest at pf' ⊢
      rw [← hf] at pf'
      simp only at pf'
      cases hset : setT t tup d μi with
      | none => rw [hset] at pf'; exact pf'.elim
      | some m1 =>
        rw [hset] at pf'
        simp only at pf'
        have hti' : ∀ i ∈ t, ∀ p ∈ c'.io, p.1 ≠ i := fun i hi => io_ne (by rw [ioe]; exact hio) (hti i hi)
        refine g_set Si dy hy hset hti' ht1 fun σ2 Sx ag hl kk => ⟨c', L2, M2, m1, by rw [ioe]; exact hio, Sx, ?_⟩
        have x1 : Ext L M' H1 L2 M2 H'' := xi.trans (fun a h => S1.ml a (mm a h)) (.of fun a oo e _ => kk a oo e)
        have it1 : IterSt X.K L2 M2 J xs H'' := iti.laid kk
        cases hr : r m1 with
        | st => rw [hr] at pf'; exact pf'
        | ex z μ2 =>
          rw [hr] at pf'
          intro L3 M3 σ3 H3 S3 x3
          obtain ⟨M4, S4, x4⟩ := fin _ _ _ _ _ S3 (x1.trans (fun a h => S1.ml a (mm a h)) x3)
          exact pf' _ _ _ _ S4 x4
        | ok fl μ2 =>
          rw [hr] at pf'
          cases fl with
          | nx =>
            intro L3 M3 σ3 H3 S3 x3
            refine ⟨L3, M3, μ2, by omega, S3, it1.ext Si.ml x3, x1.trans (fun a h => S1.ml a (mm a h)) x3, pf'⟩
          | rt v =>
            intro w L3 M3 σ3 H3 S3 x3 dv
            obtain ⟨M4, S4, x4⟩ := fin _ _ _ _ _ S3 (x1.trans (fun a h => S1.ml a (mm a h)) x3)
            exact pf' w _ _ _ _ S4 x4 dv
          | rf v => exact pf'.elim
    · have e : i = xs.length := by omega
      subst e
      refine .inl ⟨iti.stop, ?_⟩
      rw [List.drop_length] at pf
      have pf' : ∀ L' M' σ' H', Sr X.K c L' M' (unlockM o μ1 μi) σ' H' → Ext L M H1 L' M' H' → E.nx σ' H' := pf
      obtain ⟨M3, S3, x3⟩ := fin _ _ _ _ _ Si xi
      exact pf' _ _ _ _ S3 x3
end
end Mn
set_option Elab.async false
set_option linter.all false
set_option maxRecDepth 100000
set_option autoImplicit false
namespace Mn
open PySem PySem.Spec L2
/-! ## own objects changed -/
section
variable {K : PySem.W.Frag} {c : Ent} {L M : Ads} {μ : Mu} {σ : St} {H : Hp}
theorem owned_at {i : Nat} {d : D} (h : owned μ i = some d) : μ[i]? = some (.own d) := by
  unfold owned at h
  split at h
  · cases h; assumption
  · cases h
theorem Sr.ownL (S : Sr K c L M μ σ H) {i : Nat} {xs : List D} (h : owned μ i = some (.list xs)) : ∃ a vs, μ[i]? = some (.own (.list xs)) ∧ σ[i]? = some (some (.ref a)) ∧ M a ∧ H a = some (.lst vs) ∧ Dvs K H L xs vs := by
  have h := owned_at h
  obtain ⟨a, e1, e2, e3⟩ := S.own i _ h
  rcases e2 with ⟨_, vs, e, q, w⟩ | ⟨_, _, e, _⟩
  · cases e; exact ⟨a, vs, h, e1, e3, q, w⟩
  · cases e
theorem Kp.wr {a : Addr} {o : HO} (hM : M a) : Kp M H (upd H a o) := fun b u e n => by
  rw [upd_ne (fun z => n (by rw [z]; exact hM))]; exact e
/-- a slot's own list is written -/
theorem Sr.putL (S : Sr K c L M μ σ H) {i : Nat} {xs ys : List D} {ws : List V} {a : Addr} (h : μ[i]? = some (.own (.list xs))) (ha : σ[i]? = some (some (.ref a))) (hM : M a) (w : Dvs K H L ys ws) :
    Sr K c L M (μ.set i (.own (.list ys))) σ (upd H a (.lst ws)) ∧ Kp M H (upd H a (.lst ws)) :=
  ⟨S.put h ha hM (.inl ⟨ys, ws, rfl, upd_same, w.keep ((Kp.wr hM).mono S.ml)⟩), Kp.wr hM⟩
end
section
variable {X : Cx} {W : WXm} {ios : List Nat} {e a b : Expr} {es : List Expr} {pos apos cpos p1 : Pos} {i j : Nat} {x : Str} {re ra rb rk : Mu → Rs D}
theorem back_few {e : Expr} {es : List Expr} {env : Env} (h : (e :: es).all (fun e => !isStar e) = true) (hl : es.length < 20) :
    ((backTo cpos (starEach (e :: es) env)).all (fun x => !x.1) && (backToKw cpos (keywordEach [] env)).all (fun x => x.1.isSome)
      && decide ((e :: es).length + ([] : List Keyword).length + (if ([] : List Keyword).isEmpty then 0 else 1) < 30)) = true := by
  have h1 := backTo_plain (pos := cpos) (es := e :: es) (env := env) h
  have h2 : (backTo cpos (starEach (e :: es) env)).all (fun x => !x.1) = true := by
    rw [List.all_eq_not_any_not, Bool.not_eq_true']
    rw [← h1]
    congr 1
    funext x
    simp
  rw [h2]
  simp [backToKw, keywordEach]
  omega
/-- o.m(e, ..) of a slot's own list -/
theorem pe_meth {name : Str} {id : String} {r : V → List V → Hp → VK → Prop} {t : TA} (slot : Slot "list" name id) (hty : typeOf (.builtin id) = pure (.type "method_descriptor")) (hm : MtR X id r)
    (hN : X.N[i]? = some x) (hv : Vis X.env.scope x) (hd : (x == ("__debug__" : Str)) = false) (hcd : (x == ("__classdict__" : Str)) = false) (ha : PA X (e :: es) t) (hst : (e :: es).all (fun e => !isStar e) = true) (hl : es.length < 20) (hline : (apos.endLine == cpos.line) = true) :
    PE X (.Call (.Attribute (.Name x p1) name apos) (e :: es) [] cpos) (tBM X.K "list" r (tVar i) t) := by
  have h1 : isStar e = false := by simp only [List.all_cons, Bool.and_eq_true, Bool.not_eq_true'] at hst; exact hst.1
  have h2 : es.all (fun e => !isStar e) = true := by simp only [List.all_cons, Bool.and_eq_true] at hst; exact hst.2
  exact pe_bm PySem.F.plainAttrs_list slot hty hm (pe_var (i := i) hN hv hd hcd) ha rfl (back_few hst hl) hline (starEach_cons h1 _ _) (backTo_plain h2)
theorem ownsL_of {μ : Mu} (h : ownsL i μ = true) : ∃ xs, owned μ i = some (.list xs) := by
  unfold ownsL at h
  split at h
  · exact ⟨_, by assumption⟩
  · cases h
theorem one_arg_tr {W : WXm} {K : PySem.W.Frag} {c : Ent} {L M : Ads} {σ : St} {H : Hp} {γ δ : Type} {R2 : Rl γ δ} {Q : List V → Hp → Prop} {Q2 : δ → Hp → Prop} {r : Rs D} {k : D → Mu → Rs γ} (p : Pst K c L M W σ H R2 Q2 (r.bind k))
    (g : ∀ d μ1 v H1, Sr K c L M μ1 σ H1 → Dv K H1 L d v → Pst K c L M W σ H1 R2 Q2 (k d μ1) → Q [v] H1) : Pst K c L M W σ H (rDs K) Q (r.bind fun x μ1 => (Rs.ok [] μ1).bind fun xs μ2 => .ok (x :: xs) μ2) := by
  cases r with
  | st => exact p
  | ex z μ1 => exact p
  | ok d μ1 =>
    intro ws H1 S1 k1 d1
    cases d1 with
    | cons w1 t1 => cases t1; exact g d μ1 _ H1 S1 w1 (Pst.up k1 p)
def appR (i : Nat) (re : Mu → Rs D) : Mu → Rs D := fun μ => if ownsL i μ then (re μ).bind fun v μ1 => match appE i v μ1 with
    | some μ2 => .ok .none μ2
    | none => .st
  else .st
theorem je_app (hN : X.N[i]? = some x) (hv : Vis X.env.scope x) (hd : (x == ("__debug__" : Str)) = false) (hcd : (x == ("__classdict__" : Str)) = false) (he : JE X W e re) (hs : isStar e = false) (hline : (apos.endLine == cpos.line) = true) :
    JE X W (.Call (.Attribute (.Name x p1) "append" apos) [e] [] cpos) (appR i re) := by
  refine pe_mono (pe_meth (i := i) PySem.F.slot_list_append PySem.F.type_list_append mt_append hN hv hd hcd (ja_cons he ja_nil hs) (by simp [hs]) (by simp) hline) fun σ H Q ⟨c, L, M, μ, S, p⟩ => ?_
  unfold appR at p
  split at p
  · rename_i h0
    obtain ⟨xs0, h0⟩ := ownsL_of h0
    obtain ⟨a, vs, _, ea, _, eh, _⟩ := S.ownL h0
    refine ⟨.ref a, ea, .inl ⟨rfl, vs, .inl (.inl eh)⟩, c, L, M, μ, S, one_arg_tr p fun d μ1 v H1 S1 w1 p' => ?_⟩
    unfold appE at p'
    split at p'
    · rename_i μ2 e2
      split at e2
      · rename_i xs h1
        split at e2
        · rename_i hz
          cases e2
          obtain ⟨a', vs', h2, ea', hM, eh', dv⟩ := S1.ownL h1
          have : a' = a := by rw [ea] at ea'; cases ea'; rfl
          subst this
          obtain ⟨S2, k2⟩ := S1.putL h2 ea hM (dv.append (.cons w1 .nil))
          refine ⟨a', vs', _, rfl, rfl, eh', ?_, p' _ _ S2 k2 .non⟩
          have := sizeOkN_of hz
          rw [← dv.length]; omega
        · cases e2
      · cases e2
    · exact p'.elim
  · exact p.elim
theorem Dvs.erase {K : PySem.W.Frag} {H : Hp} {L : Ads} : ∀ {ds : List D} {vs : List V} (k : Nat), Dvs K H L ds vs → Dvs K H L (ds.eraseIdx k) (vs.eraseIdx k)
  | _, _, _, .nil => .nil
  | _, _, 0, .cons _ t => t
  | _, _, k + 1, .cons x t => .cons x (Dvs.erase k t)
theorem je_pop (hN : X.N[i]? = some x) (hv : Vis X.env.scope x) (hd : (x == ("__debug__" : Str)) = false) (hcd : (x == ("__classdict__" : Str)) = false) (he : JE X W e re) (hs : isStar e = false) (hline : (apos.endLine == cpos.line) = true) :
    JE X W (.Call (.Attribute (.Name x p1) "pop" apos) [e] [] cpos) fun μ => if ownsL i μ then (re μ).bind fun y μ1 => popE i y μ1 else .st := by
  refine pe_mono (pe_meth (i := i) PySem.F.slot_list_pop PySem.F.type_list_pop mt_popAt hN hv hd hcd (pa_inv (ja_cons he ja_nil hs)) (by simp [hs]) (by simp) hline) fun σ H Q ⟨c, L, M, μ, S, p⟩ => ?_
  dsimp only at p
  split at p
  · rename_i h0
    obtain ⟨xs0, h0⟩ := ownsL_of h0
    obtain ⟨a, vs, _, ea, _, eh, _⟩ := S.ownL h0
    refine ⟨.ref a, ea, .inl ⟨rfl, vs, .inl (.inl eh)⟩, c, L, M, μ, S, one_arg_tr p fun d μ1 v H1 S1 w1 p' => ?_⟩
    rintro ⟨pins, s, I⟩
    unfold popE at p'
    split at p'
    · rename_i xs j h1
      split at p'
      · rename_i k hk
        obtain ⟨y, ey, q⟩ := p'.opt
        obtain ⟨a', vs', h2, ea', hM, eh', dv⟩ := S1.ownL h1
        have : a' = a := by rw [ea] at ea'; cases ea'; rfl
        subst this
        obtain ⟨yv, eyv, dy⟩ := dv.getD ey
        obtain ⟨S2, k2⟩ := S1.putL h2 ea hM (dv.erase k)
        obtain ⟨hz, _⟩ := I.lstM eh'
        have hz' : vs'.length ≤ 16777216 := hz
        cases w1
        obtain ⟨s1, s2, s3, s4⟩ := ixN_seq hk
        rw [dv.length] at s1 s3 s4
        exact ⟨a', vs', j, k, yv, rfl, rfl, eh', by omega, by omega, s1, eyv, q _ _ S2 k2 (dy.keep (k2.mono S1.ml))⟩
      · exact p'.elim
    · exact p'.elim
  · exact p.elim
/-- a method's call as a statement -/
theorem js_app {st : Stmt} {r : Mu → Rs Fl} (h : JS X W ios st fun μ => (appR i re μ).bind fun _ μ1 => .ok .nx μ1) : JS X W ios st fun μ => if ownsL i μ then (re μ).bind fun v μ1 => Rs.nx (appE i v μ1) else .st := by
  have : (fun μ => (appR i re μ).bind fun _ μ1 => Rs.ok Fl.nx μ1) = fun μ => if ownsL i μ then (re μ).bind fun v μ1 => Rs.nx (appE i v μ1) else .st := by
    funext μ
    unfold appR
    split
    · cases re μ with
      | ok v μ1 =>
        show (match appE i v μ1 with
          | some μ2 => Rs.ok PyData.none μ2
          | none => .st).bind (fun _ μ1 => Rs.ok Fl.nx μ1) = Rs.nx (appE i v μ1)
        cases appE i v μ1 <;> rfl
      | ex x μ1 => rfl
      | st => rfl
    · rfl
  rw [← this]; exact h
/-- xs[k] = e of a slot's own list -/
theorem ownsA_of {μ : Mu} (h : ownsA i μ = true) : ∃ d, owned μ i = some d := by
  unfold ownsA at h
  exact Option.isSome_iff_exists.mp h
theorem js_seti {st : Stmt} (h : PS X st (tAsg (Tr X.K W (rD X.K) re) (gSub (tVar i) (Tr X.K W (rD X.K) rk) rSetL))) : JS X W ios st fun μ => (re μ).bind fun v μ1 => if ownsA i μ1 then (rk μ1).bind fun y μ2 => Rs.nx (setE i y v μ2) else .st := by
  refine ps_mono h fun E σ H ⟨c, L, M, μ, hc, S, p⟩ => ⟨c, L, M, μ, S, PostS.bind S.ml p fun v μ1 vv H1 S1 d1 p1 => ?_⟩
  split at p1
  · rename_i h0
    obtain ⟨d0, h0⟩ := ownsA_of h0
    obtain ⟨a, ea, _⟩ := S1.own i d0 (owned_at h0)
    refine ⟨.ref a, ea, c, L, M, μ1, S1, PostS.bindK S1.ml p1 fun y μ2 yv H2 S2 k2 d2 p2 => ?_⟩
    unfold setE at p2
    split at p2
    · rename_i xs j h1
      split at p2
      · rename_i n hn
        obtain ⟨a', vs', h2, ea', hM, eh', dv⟩ := S2.ownL h1
        rw [ea] at ea'; cases ea'
        cases d2
        obtain ⟨S3, k3⟩ := S2.putL h2 ea hM (dv.set (S2.dk d1 k2) n)
        rw [dv.length] at hn
        exact ⟨a, vs', j, n, rfl, rfl, eh', hn, p2 L M σ _ S3 (.of k3)⟩
      · exact p2.elim
    · exact p2.elim
  · exact p1.elim
/-- x, y = a, b of plain local names -/
theorem js_par {st : Stmt} {rs : Mu → Rs (List D)} (h : PS X st (tPar i j (Tr X.K W (rDs X.K) rs))) (hi : i ∉ ios) (hj : j ∉ ios) : JS X W ios st fun μ => (rs μ).bind fun ds μ1 => Rs.nx (setAll [i, j] ds μ1) := by
  refine ps_mono h fun E σ H ⟨c, L, M, μ, hc, S, p⟩ => ⟨c, L, M, μ, S, PostS.bind S.ml p fun ds μ1 vs H1 S1 d1 p1 => ?_⟩
  have d1 : Dvs X.K H1 L ds vs := d1
  cases d1 with
  | nil => exact p1.elim
  | cons w1 t1 =>
    cases t1 with
    | nil =>
      unfold setAll at p1
      split at p1
      · exact p1.elim
      · exact p1.elim
    | cons w2 t2 =>
      cases t2 with
      | cons w3 t3 =>
        unfold setAll at p1
        split at p1
        · exact p1.elim
        · unfold setAll at p1
          split at p1
          · exact p1.elim
          · exact p1.elim
      | nil =>
        refine ⟨_, _, rfl, ?_⟩
        unfold setAll at p1
        split at p1
        · exact p1.elim
        · rename_i hl1
          unfold setAll at p1
          split at p1
          · exact p1.elim
          · rename_i hl2
            have S2 := S1.set' w1 (io_ne hc hi) (isLck_of hl1)
            exact p1 L M _ _ (S2.set' w2 (io_ne hc hj) (isLck_of hl2)) (.of .refl)
/-- x, y, z = a, b, c of plain local names -/
theorem js_par3 {st : Stmt} {l : Nat} {rs : Mu → Rs (List D)} (h : PS X st (tPar3 i j l (Tr X.K W (rDs X.K) rs))) (hi : i ∉ ios) (hj : j ∉ ios) (hl : l ∉ ios) : JS X W ios st fun μ => (rs μ).bind fun ds μ1 => Rs.nx (setAll [i, j, l] ds μ1) := by
  refine ps_mono h fun E σ H ⟨c, L, M, μ, hc, S, p⟩ => ⟨c, L, M, μ, S, PostS.bind S.ml p fun ds μ1 vs H1 S1 d1 p1 => ?_⟩
  have d1 : Dvs X.K H1 L ds vs := d1
  cases hset : setAll [i, j, l] ds μ1 with
  | none => rw [hset] at p1; exact p1.elim
  | some μ2 =>
    rw [hset] at p1
    have len := setAll_len hset
    match ds, vs, d1, len, hset with
    | [x, y, z], [u, v, w], .cons w1 (.cons w2 (.cons w3 .nil)), _, hset =>
      refine ⟨u, v, w, rfl, ?_⟩
      unfold setAll at hset
      split at hset
      · cases hset
      · rename_i hl1
        unfold setAll at hset
        split at hset
        · cases hset
        · rename_i hl2
          unfold setAll at hset
          split at hset
          · cases hset
          · rename_i hl3
            have e : setN l z (setN j y (setN i x μ1)) = μ2 := Option.some.inj hset
            subst e
            have S2 := S1.set' w1 (io_ne hc hi) (isLck_of hl1)
            have S3 := S2.set' w2 (io_ne hc hj) (isLck_of hl2)
            exact p1 L M _ _ (S3.set' w3 (io_ne hc hl) (isLck_of hl3)) (.of .refl)
/-- x, y, .. = a list -/
theorem js_unpL {st : Stmt} {t : List Nat} (h : PS X st (tAsg (Tr X.K W (rD X.K) re) (gLst X.K t.length (gsOf t)))) (hi : ∀ i ∈ t, i ∉ ios) : JS X W ios st fun μ => (re μ).bind fun d μ1 => Rs.nx (setL t d μ1) := by
  refine ps_mono h fun E σ H ⟨c, L, M, μ, hc, S, p⟩ => ⟨c, L, M, μ, S, PostS.bind S.ml p fun d μ1 v H1 S1 d1 p1 => ?_⟩
  cases hset : setL t d μ1 with
  | none => rw [hset] at p1; exact p1.elim
  | some μ2 =>
    rw [hset] at p1
    unfold setL at hset
    split at hset
    · rename_i xs
      have d1 : Dv X.K H1 L (.list xs) v := d1
      obtain ⟨a, vs, rfl, sq, w⟩ := d1.list
      exact ⟨a, vs, rfl, sq, by rw [← w.length, setAll_len hset], gs_set S1 w hset (fun i hi' => io_ne hc (hi i hi')) fun σ2 S2 _ _ => p1 L M σ2 H1 S2 (.of .refl)⟩
    · cases hset
/-- (x, y, ..) = e -/
theorem js_unp {st : Stmt} {t : List Nat} (h : PS X st (tAsg (Tr X.K W (rD X.K) re) (gTup X.K t.length (gsOf t)))) (hi : ∀ i ∈ t, i ∉ ios) : JS X W ios st fun μ => (re μ).bind fun d μ1 => match setT t true d μ1 with
    | some μ2 => .ok .nx μ2
    | none => .st := by
  refine ps_mono h fun E σ H ⟨c, L, M, μ, hc, S, p⟩ => ⟨c, L, M, μ, S, PostS.bind S.ml p fun d μ1 v H1 S1 d1 p1 => ?_⟩
  cases hset : setT t true d μ1 with
  | none => rw [hset] at p1; exact p1.elim
  | some μ2 =>
    rw [hset] at p1
    exact g_set (tup := true) S1 (.one d1) ⟨rfl, rfl⟩ hset (fun i hi' => io_ne hc (hi i hi')) (fun z => by cases z) fun σ2 S2 _ _ _ => p1 L M σ2 H1 S2 (.of .refl)
end
end Mn
set_option Elab.async false
set_option linter.all false
set_option maxRecDepth 100000
set_option autoImplicit false
namespace Mn
open PySem PySem.Spec L2
/-! ## new lists from lists -/
def HeldAt (K : PySem.W.Frag) (L : Ads) (σ : St) (p : P) (d : D) (a : Addr) (H : Hp) : Prop := match p with
  | .e _ => ¬ L a ∧ rF K d L a H
  | .pk i => σ[i]? = some (some (.ref a)) ∧ OwnAt K H L d a
def Ph (K : PySem.W.Frag) (c : Ent) (L M : Ads) (W : WXm) (σ : St) (H : Hp) (p : P) (Q : VK) : Rs D → Prop
  | .ok d μ' => ∀ a H', Sr K c L M μ' σ H' → Kp M H H' → HeldAt K L σ p d a H' → Q (.ref a) H'
  | .ex x μ' => ∀ H', Sr K c L M μ' σ H' → Kp M H H' → W x σ H'
  | .st => False
def Th (K : PySem.W.Frag) (W : WXm) (p : P) (r : Mu → Rs D) : TE := fun σ H Q => ∃ c L M μ, Sr K c L M μ σ H ∧ Ph K c L M W σ H p Q (r μ)
abbrev JH (X : Cx) (W : WXm) (p : P) (e : Expr) (r : Mu → Rs D) : Prop := PE X e (Th X.K W p r)
section
variable {X : Cx} {W : WXm} {e a b : Expr} {pos p1 : Pos} {i : Nat} {x : Str} {re ra rb : Mu → Rs D} {pa pb : P}
theorem JF.jh {f : E} (h : JF X W e re) : JH X W (.e f) e re := pe_mono h fun σ H Q ⟨c, L, M, μ, S, p⟩ => ⟨c, L, M, μ, S, by
  cases h : re μ with
  | ok d μ' => rw [h] at p; exact fun a H' S1 S2 k n nh f => p a H' S1 k ⟨n, f⟩
  | ex x μ' => rw [h] at p; exact p
  | st => rw [h] at p; exact p⟩
theorem Sr.heldD {K : PySem.W.Frag} {c : Ent} {L M : Ads} {μ : Mu} {σ : St} {H : Hp} (S : Sr K c L M μ σ H) {d : D} (h : Mn.heldD μ i = some d) : ∃ a, σ[i]? = some (some (.ref a)) ∧ OwnAt K H L d a := by
  unfold Mn.heldD at h
  split at h
  · rename_i q; cases h; obtain ⟨a, e1, e2, _⟩ := S.own i _ q; exact ⟨a, e1, e2⟩
  · rename_i q; cases h; obtain ⟨a, e1, e2, _⟩ := S.lck i _ q; exact ⟨a, e1, e2⟩
  · cases h
theorem jh_pk (hN : X.N[i]? = some x) (hv : Vis X.env.scope x) (hd : (x == ("__debug__" : Str)) = false) (hcd : (x == ("__classdict__" : Str)) = false) : JH X W (.pk i) (.Name x pos) fun μ => Rs.opt (heldD μ i) μ := by
  refine pe_mono (pe_var (i := i) hN hv hd hcd) fun σ H Q ⟨c, L, M, μ, S, p⟩ => ?_
  cases h : heldD μ i with
  | none => simp only [h] at p; exact p.elim
  | some d =>
    simp only [h] at p
    obtain ⟨a, e1, e2⟩ := S.heldD h
    exact ⟨.ref a, e1, p a H S .refl ⟨e1, e2⟩⟩
theorem heldL {K : PySem.W.Frag} {L : Ads} {σ : St} {p : P} {xs : List D} {a : Addr} {H : Hp} (h : HeldAt K L σ p (.list xs) a H) : ∃ vs, H a = some (.lst vs) ∧ Dvs K H L xs vs := by
  cases p with
  | e f =>
    rcases h.2 with ⟨_, vs, e, q, w⟩ | ⟨_, _, e, _⟩
    · cases e; exact ⟨vs, q, w.anti fun _ h => .inl h⟩
    · cases e
  | pk i =>
    rcases h.2 with ⟨_, vs, e, q, w⟩ | ⟨_, _, e, _⟩
    · cases e; exact ⟨vs, q, w⟩
    · cases e
/-- later on -/
theorem held_later {K : PySem.W.Frag} {c : Ent} {L M : Ads} {μ2 : Mu} {σ : St} {H1 H2 : Hp} {p : P} {x : D} {xs : List D} {a : Addr} (h : HeldAt K L σ p x a H1) (S2 : Sr K c L M μ2 σ H2) (k : Kp M H1 H2) (e : heldP p x μ2 = some (.list xs)) : ∃ vs, H2 a = some (.lst vs) ∧ Dvs K H2 L xs vs := by
  cases p with
  | e f =>
    cases e
    obtain ⟨vs, q, w⟩ := heldL h
    exact ⟨vs, k _ _ q fun m => h.1 (S2.ml _ m), S2.dks w k⟩
  | pk i =>
    obtain ⟨a', e1, e2⟩ := S2.heldD (show heldD μ2 i = some (.list xs) from e)
    have := h.1
    rw [e1] at this; cases this
    exact heldL (p := .pk i) ⟨e1, e2⟩
theorem Ph.bindF {K : PySem.W.Frag} {c : Ent} {L M : Ads} {σ : St} {H : Hp} {p : P} {Q Q2 : VK} {r : Rs D} {k : D → Mu → Rs D} (pp : Pf K c L M W σ H Q2 (r.bind k))
    (g : ∀ d μ1 a H1, Sr K c L M μ1 σ H1 → Kp M H H1 → HeldAt K L σ p d a H1 → Pf K c L M W σ H1 Q2 (k d μ1) → Q (.ref a) H1) : Ph K c L M W σ H p Q r := by
  cases r with
  | ok d μ =>
    intro a H' S k' h
    refine g d μ a H' S k' h ?_
    have p' : Pf K c L M W σ H Q2 (k d μ) := pp
    cases h2 : k d μ with
    | ok d2 μ2 =>
      rw [h2] at p'
      intro a' H2 S1 S2 k2 n nh f
      exact p' a' H2 S1 S2 (k'.trans k2) n (fun b e => nh b (k' a' b e fun m => n (S.ml _ m))) f
    | ex x μ2 => rw [h2] at p'; exact fun H2 S1 k2 => p' H2 S1 (k'.trans k2)
    | st => rw [h2] at p'; exact p'
  | ex x μ => exact pp
  | st => exact pp
theorem jf_cat (ha : JH X W pa a ra) (hb : JH X W pb b rb) : JF X W (.BinOp a .Add b pos) fun μ => (ra μ).bind fun x μ1 => (rb μ1).bind fun y μ2 => catE pa pb x y μ2 := by
  refine pe_mono (pe_op op_cat ha hb) fun σ H Q ⟨c, L, M, μ, S, p⟩ => ⟨c, L, M, μ, S, Ph.bindF p fun x μ1 a1 H1 S1 k1 h1 p1 => ⟨c, L, M, μ1, S1, Ph.bindF p1 fun y μ2 b1 H2 S2 k2 h2 p2 => ?_⟩⟩
  unfold catE at p2
  split at p2
  · rename_i xs ys e1 e2
    split at p2
    · rename_i hz
      obtain ⟨vs, q1, w1⟩ := held_later h1 S2 k2 e1
      obtain ⟨ws, q2, w2⟩ := held_later h2 S2 .refl e2
      refine ⟨a1, b1, vs, ws, rfl, rfl, q1, q2, by rw [← w1.length, ← w2.length]; exact sizeOkN_of hz, fun p hp => ?_⟩
      obtain ⟨n1, n2, n3, n4, n5, n6⟩ := S2.newF (w1.append w2) hp
      exact p2 _ _ n1 n2 n3 n4 n5 n6
    · exact p2.elim
  · exact p2.elim
theorem jf_rep (ha : JH X W pa a ra) (hb : JE X W b rb) : JF X W (.BinOp a .Mult b pos) fun μ => (ra μ).bind fun x μ1 => (rb μ1).bind fun y μ2 => repE pa x y μ2 := by
  refine pe_mono (pe_op op_rep ha hb) fun σ H Q ⟨c, L, M, μ, S, p⟩ => ⟨c, L, M, μ, S, Ph.bindF p fun x μ1 a1 H1 S1 k1 h1 p1 => ⟨c, L, M, μ1, S1, Pst.bindF p1 fun y μ2 b1 H2 e0 S2 k2 d2 p2 => ?_⟩⟩
  unfold repE at p2
  split at p2
  · rename_i xs j e1
    split at p2
    · rename_i hz
      simp only [Bool.and_eq_true, decide_eq_true_eq] at hz
      obtain ⟨vs, q1, w1⟩ := held_later h1 S2 k2 e1
      cases d2
      refine ⟨a1, j, vs, rfl, rfl, q1, by omega, by omega, by rw [← w1.length]; exact sizeOkN_of hz.2, fun p hp => ?_⟩
      obtain ⟨n1, n2, n3, n4, n5, n6⟩ := S2.newF (w1.flat j.toNat) hp
      exact p2 _ _ n1 n2 n3 n4 n5 n6
    · exact p2.elim
  · exact p2.elim
theorem seqD0_dw {K : PySem.W.Frag} {H : Hp} {L : Ads} {d : D} {v : V} {xs : List D} (w : Dw K H L d v) (e : seqD0 d = some xs) : ∃ a vs, v = .ref a ∧ (SqL K H a vs ∨ SqT K H a vs) ∧ Dvs K H L xs vs := by
  unfold seqD0 at e
  split at e
  · cases e
    obtain ⟨a, vs, rfl, sa, wa⟩ := w.lst
    exact ⟨a, vs, rfl, .inl sa, wa⟩
  · cases e
    obtain ⟨a, vs, rfl, sa, wa⟩ := w.tup
    exact ⟨a, vs, rfl, .inr sa, wa⟩
  · cases e
/-- list(t) -/
theorem jf_listSeq (hg : Gl X "list") (hm : X.mg "list" = none) (ha : JP X W a ra) (hs : isStar a = false) :
    JF X W (.Call (.Name "list" p1) [a] [] pos) fun μ => ((ra μ).bind fun x μ1 => Rs.opt (seqD0 x) μ1).bind fun xs μ1 => .ok (.list xs) μ1 := by
  refine pe_mono (pe_callTy call_list_of hg hm (by decide +kernel) (pa_cons ha pa_nil (starEach_cons hs _ _)) (by decide) (by decide +kernel) (starEach_cons hs _ _) rfl) fun σ H Q ⟨c, L, M, μ, S, p⟩ => ⟨c, L, M, μ, S, ?_⟩
  have p' : Pf X.K c L M W σ H Q ((ra μ).bind fun x μ1 => (Rs.opt (seqD0 x) μ1).bind fun xs μ1 => .ok (.list xs) μ1) := by
    cases h : ra μ with
    | ok d μ1 => simp only [h] at p; exact p
    | ex z μ1 => simp only [h] at p; exact p
    | st => simp only [h] at p; exact p
  refine Pst.bindF p' fun x μ1 v H1 e0 S1 k1 d1 p1 => ?_
  cases hz : seqD0 x with
  | none => rw [hz] at p1; exact p1.elim
  | some xs =>
    rw [hz] at p1
    have d1 : Dw X.K H1 L x v := d1
    obtain ⟨a0, vs, rfl, sq, w⟩ := seqD0_dw d1 hz
    refine ⟨a0, vs, rfl, sq, fun p hp => ?_⟩
    obtain ⟨n1, n2, n3, n4, n5, n6⟩ := S1.newF w hp
    exact p1 _ _ n1 n2 n3 n4 n5 n6
/-- list(range(n)) -/
theorem rgV_dvs {K : PySem.W.Frag} {H : Hp} {L : Ads} (j : Int) : Dvs K H L (rangeD 0 j.toNat) (rgV 0 j) := by
  unfold rangeD rgV
  rw [show (j - 0).toNat = j.toNat by omega]
  generalize List.range j.toNat = l
  induction l with
  | nil => exact .nil
  | cons n l ih => exact .cons (.int _) ih
theorem jf_listRng {p2 p3 : Pos} (hc : X.calm = true) (hg : Gl X "list") (hm : X.mg "list" = none) (hg' : Gl X "range") (hm' : X.mg "range" = none) (ha : JE X W a ra) (hs : isStar a = false) :
    JF X W (.Call (.Name "list" p1) [.Call (.Name "range" p2) [a] [] p3] [] pos) fun μ => ((ra μ).bind fun x μ1 => match x with
      | .int j => if smallI j && sizeOkN j.toNat then .ok (rangeD 0 j.toNat) μ1 else .st
      | _ => .st).bind fun xs μ1 => .ok (.list xs) μ1 := by
  refine pe_mono (pe_listRg hc hg hm (prg_1 hg' hm' ha (starEach_cons hs _ _)) (starEach_cons rfl _ _)) fun σ H Q ⟨c, L, M, μ, S, p⟩ => ⟨c, L, M, μ, S, ?_⟩
  have p' : Pf X.K c L M W σ H Q ((ra μ).bind fun x μ1 => (match x with
      | .int j => if smallI j && sizeOkN j.toNat then Rs.ok (rangeD 0 j.toNat) μ1 else .st
      | _ => .st).bind fun xs μ1 => .ok (.list xs) μ1) := by
    cases h : ra μ with
    | ok d μ1 => simp only [h] at p; exact p
    | ex z μ1 => simp only [h] at p; exact p
    | st => simp only [h] at p; exact p
  refine Pst.bindF p' fun x μ1 v H1 e0 S1 k1 d1 p1 => ?_
  split at p1
  · rename_i j
    split at p1
    · rename_i hz
      simp only [Bool.and_eq_true] at hz
      have d1 : Dv X.K H1 L (.int j) v := d1
      cases d1
      obtain ⟨s1, s2, _⟩ := smallI_of hz.1
      have := sizeOkN_of hz.2
      rw [sizeLine_eq] at this
      refine ⟨j, rfl, ⟨by omega, by omega, s1, s2, by omega⟩, fun p hp => ?_⟩
      obtain ⟨n1, n2, n3, n4, n5, n6⟩ := S1.newF (rgV_dvs j) hp
      exact p1 _ _ n1 n2 n3 n4 n5 n6
    · exact p1.elim
  · exact p1.elim
end
end Mn
set_option Elab.async false
set_option linter.all false
set_option maxRecDepth 100000
set_option autoImplicit false
namespace Mn
open PySem PySem.Spec L2
/-! ## dicts whose keys are tuples of ints -/
theorem eqvI : ∀ (xs ys : List Int), PyData.eqvAll (xs.map .int) (ys.map .int) = decide (xs = ys)
  | [], [] => rfl
  | x :: xs, y :: ys => by
    show (PyData.eqv (.int x) (.int y) && PyData.eqvAll (xs.map .int) (ys.map .int)) = _
    rw [eqvI xs ys, PyData.eqv]
    by_cases h : x = y
    · subst h; simp
    · simp [h]
  | [], _ :: _ => by simp [PyData.eqvAll]
  | _ :: _, [] => by simp [PyData.eqvAll]
def tI (k : List Int) : D := .tuple (k.map .int)
theorem eqv_key (k k' : List Int) : PyData.eqv (tI k) (tI k') = decide (k = k') := by
  unfold tI
  rw [PyData.eqv, eqvI]
theorem intsOf_eq : ∀ {xs : List D} {k : List Int}, intsOf xs = some k → xs = k.map .int
  | [], k, h => by cases h; rfl
  | .int i :: r, k, h => by
    have h' : (intsOf r).map (i :: ·) = some k := h
    cases q : intsOf r with
    | none => rw [q] at h'; cases h'
    | some k' => rw [q] at h'; cases h'; rw [intsOf_eq q]; rfl
  | .none :: _, _, h | .bool _ :: _, _, h | .str _ :: _, _, h | .list _ :: _, _, h | .tuple _ :: _, _, h | .dict _ :: _, _, h => by simp [intsOf] at h
theorem isKey_of {y : D} (h : isKey y = true) : ∃ k : List Int, y = tI k := by
  unfold isKey at h
  split at h
  · rename_i xs
    cases q : intsOf xs with
    | none => rw [q] at h; cases h
    | some k => exact ⟨k, by rw [intsOf_eq q]; rfl⟩
  · cases h
section
variable {K : PySem.W.Frag} {H : Hp} {L : Ads}
theorem Dvk.at {es : List (D × D)} {xs : List Ent3} (w : Dvk K H L es xs) (k : List Int) : (dget es (tI k) = none ∧ atKey xs k = none) ∨ ∃ d b u v, dget es (tI k) = some d ∧ atKey xs k = some (b, u) ∧ RelV v u ∧ Dv K H L d v := by
  induction es generalizing xs with
  | nil => cases w; exact .inl ⟨rfl, rfl⟩
  | cons e es ih =>
    cases w with
    | @cons k0 b u d v _ xs g r x t =>
      have e1 : dget ((.tuple (k0.map .int), d) :: es) (tI k) = if k0 = k then some d else dget es (tI k) := by
        show (if PyData.eqv (tI k0) (tI k) then some d else dget es (tI k)) = _
        rw [eqv_key]; simp
      have e2 : atKey ((k0, b, u) :: xs) k = if k0 = k then some (b, u) else atKey xs k := by
        unfold atKey
        rw [List.find?_cons]
        by_cases h : k0 = k
        · simp [h]
        · simp [h]
      rw [e1, e2]
      by_cases h : k0 = k
      · rw [if_pos h, if_pos h]; exact .inr ⟨d, b, u, v, rfl, rfl, r, x⟩
      · rw [if_neg h, if_neg h]; exact ih t
theorem dput_new {es : List (D × D)} {xs : List Ent3} (w : Dvk K H L es xs) {k : List Int} {d : D} (h : atKey xs k = none) : dput es (tI k) d = es ++ [(tI k, d)] := by
  induction es generalizing xs with
  | nil => rfl
  | cons e es ih =>
    cases w with
    | @cons k0 b u d0 v _ xs g r x t =>
      have hk : ¬ k0 = k ∧ atKey xs k = none := by
        unfold atKey at h ⊢
        rw [List.find?_cons] at h
        by_cases z : k0 = k
        · simp [z] at h
        · exact ⟨z, by simpa [z] using h⟩
      show (if PyData.eqv (tI k0) (tI k) then _ else (tI k0, d0) :: dput es (tI k) d) = _
      rw [eqv_key, if_neg (by simp [hk.1]), ih t hk.2]; rfl
theorem Dvk.snoc {es : List (D × D)} {xs : List Ent3} (w : Dvk K H L es xs) {k : List Int} {b : Addr} {u : Value} {d : D} {v : V} (g : Dv K H L (tI k) (.ref b)) (r : RelV v u) (x : Dv K H L d v) : Dvk K H L (es ++ [(tI k, d)]) (xs ++ [(k, b, u)]) := by
  induction es generalizing xs with
  | nil => cases w; exact .cons g r x .nil
  | cons e es ih =>
    cases w with
    | cons g0 r0 x0 t => exact .cons g0 r0 x0 (ih t)
theorem putAt_none {xs : List Ent3} {k : List Int} {u : Value} (h : k ∉ xs.map (·.1)) : xs.map (putAt k u) = xs := map_putAt_of_not_mem xs k u h
theorem Dvk.repl {es : List (D × D)} {xs : List Ent3} (w : Dvk K H L es xs) (nd : (xs.map (·.1)).Nodup) {k : List Int} {u : Value} {d : D} {v : V} (r : RelV v u) (x : Dv K H L d v) (h : (atKey xs k).isSome = true) : Dvk K H L (dput es (tI k) d) (xs.map (putAt k u)) := by
  induction es generalizing xs with
  | nil => cases w; cases h
  | cons e es ih =>
    cases w with
    | @cons k0 b u0 d0 v0 _ xs g0 r0 x0 t =>
      rw [List.map_cons, List.nodup_cons] at nd
      rw [List.map_cons]
      have e1 : dput ((tI k0, d0) :: es) (tI k) d = if k0 = k then (tI k0, d) :: es else (tI k0, d0) :: dput es (tI k) d := by
        show (if PyData.eqv (tI k0) (tI k) then _ else _) = _
        rw [eqv_key]; simp
      show Dvk K H L (dput ((tI k0, d0) :: es) (tI k) d) _
      rw [e1]
      by_cases z : k0 = k
      · subst z
        rw [if_pos rfl, putAt_none nd.1]
        unfold putAt
        rw [if_pos rfl]
        exact .cons g0 r x t
      · rw [if_neg z]
        unfold putAt
        rw [if_neg z]
        refine .cons g0 r0 x0 (ih t nd.2 ?_)
        unfold atKey at h ⊢
        rw [List.find?_cons] at h
        simpa [z] using h
theorem Dvk.put {es : List (D × D)} {xs : List Ent3} (w : Dvk K H L es xs) (nd : (xs.map (·.1)).Nodup) {k : List Int} {b : Addr} {u : Value} {d : D} {v : V} (g : Dv K H L (tI k) (.ref b)) (r : RelV v u) (x : Dv K H L d v) : Dvk K H L (dput es (tI k) d) (storedH xs k b u) := by
  cases h : atKey xs k with
  | none => rw [dput_new w h, storedH_new h]; exact w.snoc g r x
  | some p => rw [storedH_old h]; exact w.repl nd r x (by rw [h]; rfl)
theorem Dvk.length : ∀ {es : List (D × D)} {xs : List Ent3}, Dvk K H L es xs → es.length = xs.length
  | _, _, .nil => rfl
  | _, _, .cons _ _ _ t => congrArg (· + 1) (Dvk.length t)
end
section
variable {X : Cx} {pins : List (Addr × Obj)} {σ : St} {H : Hp} {s : Shared} {a b : Addr} {xs : List Ent3} {es : List (D × D)} {L : Ads} {k : List Int}
theorem items_ints {P : Program} {w : World} : ∀ {ks : List Int} {us : List Value}, Vals (ks.map V.int) us → ItemsAre (intKind P w) ks us
  | [], _, r => by rw [List.map_nil] at r; cases r; exact .nil
  | k :: ks, _, r => by
    rw [List.map_cons] at r
    cases r with
    | cons h t =>
      obtain ⟨t', rfl⟩ := h
      exact .cons (by simp [intKind, Value.isInt]) (items_ints t)
theorem inv_key (I : Inv X pins σ H s) (g : Dv X.K H L (tI k) (.ref b)) : (tupleKind (intKind X.prog X.w)).is s.heap k b := by
  obtain ⟨a, vs, e, sq, w⟩ := g.tuple
  cases e
  rw [w.ints] at sq
  obtain ⟨its, r, ⟨o, h1, h2, n, h3⟩, _⟩ := I.tuple sq
  exact ⟨o, its.toArray, n, h1, h2, h3, by simpa using items_ints r⟩
theorem Dvk.keys {K : PySem.W.Frag} : ∀ {es : List (D × D)} {xs : List Ent3}, Dvk K H L es xs → ∀ x ∈ xs, Dv K H L (tI x.1) (.ref x.2.1)
  | _, _, .nil, x, h => by cases h
  | _, _, .cons g _ _ t, x, h => by
    rcases List.mem_cons.mp h with h | h
    · subst h; exact g
    · exact Dvk.keys t x h
theorem inv_dct (I : Inv X pins σ H s) (h : IsDct H a xs) (w : Dvk X.K H L es xs) : s.heap.DictOfH (tupleKind (intKind X.prog X.w)) a xs := by
  obtain ⟨o, es', ep, h1, _, h3, h4, h5, h6, _⟩ := h
  have q : ObjOk X.prog X.w H s.heap a (DictO a o) := I.hok a _ h1
  exact ⟨o, es', ep, q.1, h3, h4, h5, fun x hx => inv_key I (w.keys x hx), h6⟩
theorem isDct_nm (h : IsDct H a xs) : (a == sysModules) = false := by obtain ⟨_, _, _, _, h2, _⟩ := h; exact h2
theorem isDct_len (h : IsDct H a xs) : xs.length ≤ sizeLine := by obtain ⟨_, _, _, _, _, _, _, _, _, h⟩ := h; exact h
theorem isDct_nd (h : IsDct H a xs) : (xs.map (·.1)).Nodup := by obtain ⟨_, _, _, _, _, _, _, _, h, _⟩ := h; exact h
theorem isDct_type (I : Inv X pins σ H s) (h : IsDct H a xs) : s.TypeIs (.ref a) "dict" ∧ (∀ b, Value.ref a = .ref b → ∃ ob, s.heap.get? b = some ob ∧ ob.dict = none) := by
  obtain ⟨o, es', ep, h1, _, h3, _⟩ := h
  have q : ObjOk X.prog X.w H s.heap a (DictO a o) := I.hok a _ h1
  refine ⟨⟨o, q.1, h3.1⟩, fun b e => ?_⟩
  cases e
  exact ⟨o, q.1, h3.2.1⟩
theorem objOk_dct {P : Program} {w : World} {H' : Hp} {h' : Heap} {o : Obj} (e : h'.get? a = some o) : ObjOk P w H' h' a (DictO a o) := ⟨e, ⟨o, e⟩, fun h1 h2 q k => k o q⟩
/-- d[y] -/
def rDG (K : PySem.W.Frag) (x y : V) (H : Hp) (Q : VK) : Prop := ∃ a b xs es L k u v, x = .ref a ∧ y = .ref b ∧ IsDct H a xs ∧ Dvk K H L es xs ∧ Dv K H L (tI k) (.ref b) ∧ atKey xs k = some u ∧ RelV v u.2 ∧ Q v H
def tDG (K : PySem.W.Frag) (td ty : TE) : TE := fun σ H Q => td σ H fun x H1 => ty σ H1 fun y H2 => rDG K x y H2 Q
theorem pe_dg {o i : Expr} {pos : Pos} {td ty : TE} (hu : X.A.units + 1 < cLine) (ho : PE X o td) (hi : PE X i ty) (hs : NoSl i) : PE X (.Subscript o i pos) (tDG X.K td ty) := by
  refine ⟨fun pins s σ H Q I h => ?_⟩
  refine subD_of PySem.F.slot_dict_getitem.lookup hs (thn (ho.run pins s σ H _ I h) fun u s1 ⟨x, H1, I1, rx, q1⟩ => thn (hi.run pins s1 σ H1 _ I1 q1) fun iv s2 ⟨y, H2, I2, ry, a, b, xs, es, L, k, p, v, ex, ey, g1, g2, g3, g4, g5, q2⟩ => ?_)
  subst ex ey
  obtain rfl : u = Value.ref a := rx
  obtain rfl : iv = Value.ref b := ry
  exact ⟨(isDct_type I2 g1).1, wpAny_getItem_heap (tupleKind_room_in1 hu) (inv_key I2 g3) (inv_dct I2 g1 g2) g4 ⟨v, H2, I2.tok _, g5, q2⟩⟩
/-- d.get(y, z) -/
def tDG2 (K : PySem.W.Frag) (td ty tx : TE) : TE := fun σ H Q => td σ H fun x H1 => ∃ a xs0, x = .ref a ∧ IsDct H1 a xs0 ∧ ty σ H1 fun y H2 => tx σ H2 fun z H3 => ∃ b xs es L k, y = .ref b ∧ IsDct H3 a xs ∧ Dvk K H3 L es xs ∧ Dv K H3 L (tI k) (.ref b) ∧
  ((atKey xs k = none ∧ Q z H3) ∨ ∃ u v, atKey xs k = some u ∧ RelV v u.2 ∧ Q v H3)
theorem pe_dg2 {o e f : Expr} {apos cpos : Pos} {td ty tx : TE} (hu : X.A.units + 1 < cLine) (ho : PE X o td) (he : PE X e ty) (hf : PE X f tx) (m : M2 X o "get" apos e f cpos) : PE X (.Call (.Attribute o "get" apos) [e, f] [] cpos) (tDG2 X.K td ty tx) := by
  refine ⟨fun pins s σ H Q I h => ?_⟩
  refine wpAny_Call_method m.base m.few m.line PySem.F.plainAttrs_dict PySem.F.slot_dict_get PySem.F.type_dict_get (thn (ho.run pins s σ H _ I h) fun u s1 ⟨x, H1, I1, rx, a, xs0, ex, d, q1⟩ => ?_)
  subst ex
  obtain rfl : u = Value.ref a := rx
  obtain ⟨t1, t2⟩ := isDct_type I1 d
  refine ⟨t1, t2, ?_⟩
  rw [m.trees]
  refine Calls.callWith_builtin rfl (Calls.evalArgs_plain (Calls.spliced_cons (thn (he.run pins s1 σ H1 _ I1 q1) fun iv s2 ⟨y, H2, I2, ry, q2⟩ =>
    Calls.spliced_cons (thn (hf.run pins s2 σ H2 _ I2 q2) fun fv s3 ⟨z, H3, I3, rz, b, xs, es, L, k, ey, g1, g2, g3, q3⟩ => Calls.spliced_nil ?_))))
  subst ey
  obtain rfl : iv = Value.ref b := ry
  refine call_meetsIn PySem.F.slot_dict_get (isDct_type I3 g1).1 PySem.F.entry_dict_get (PySem.F.args_dict_get_3 _ _ _) (meetsH_dict_get_default (tupleKind (intKind X.prog X.w)) a b (isDct_nm g1) fv) ⟨tupleKind_room_in1 hu, k, xs, inv_key I3 g3, inv_dct I3 g1 g2, ?_⟩
  rcases q3 with ⟨e, q3⟩ | ⟨u, v, e, r, q3⟩
  · rw [e]; exact ⟨z, H3, I3.tok _, rz, q3⟩
  · rw [e]; exact ⟨v, H3, I3.tok _, r, q3⟩
/-- d[y] = v -/
def rSetI (K : PySem.W.Frag) : V → V → V → Hp → (Hp → Prop) → Prop := fun o i v H Q => ∃ a b xs es L k, o = .ref a ∧ i = .ref b ∧ IsDct H a xs ∧ Dvk K H L es xs ∧ Dv K H L (tI k) (.ref b) ∧ xs.length < sizeLine ∧
  ∀ o' u, RelV v u → IsDct (upd H a (DictO a o')) a (storedH xs k b u) → Q (upd H a (DictO a o'))
theorem storedH_len (xs : List Ent3) (k : List Int) (b : Addr) (u : Value) : (storedH xs k b u).length ≤ xs.length + 1 := by
  unfold storedH
  split
  · rw [List.length_map]; omega
  · rw [List.length_append]; exact Nat.le_refl _
theorem set_dct (hu : X.A.units + 1 < cLine) : PSet X (rSetI X.K) := by
  intro pins s σ H o i v ov iv u Q I ro ri rv h
  obtain ⟨a, b, xs, es, L, k, rfl, rfl, g1, g2, g3, g4, q⟩ := h
  cases (show ov = Value.ref a from ro)
  cases (show iv = Value.ref b from ri)
  have hz : xs.length ≤ sizeLine := isDct_len g1
  refine wpAny_setItem_heap (hsz := hz) (tupleKind_room_in1 hu) (inv_key I g3) (inv_dct I g1 g2) fun h' dd' hs => ?_
  obtain ⟨o', es', ep, hq, h2, h3, h4, _, h5⟩ := dd'
  obtain ⟨o0, _, _, e0, nm, _⟩ := g1
  refine ⟨upd H a (DictO a o'), d_write I (by rw [e0]; exact True.intro) hs ⟨o', hq⟩ (objOk_dct hq), q o' u rv ⟨o', es', ep, upd_same, nm, h2, h3, h4, h5, ?_⟩⟩
  have := storedH_len xs k b u
  omega
/-- {} -/
def tDNew : TE := fun _ H Q => ∀ p o, H p = none → IsDct (upd H p (DictO p o)) p [] → Q (.ref p) (upd H p (DictO p o))
theorem pe_dnew {pos : Pos} : PE X (.Dict [] [] pos) tDNew := ⟨fun pins s σ H Q I h => by
  have e : (s.heap.push { cls := .type "dict", data := .dict #[] }).get? s.heap.objs.size = some { cls := .type "dict", data := .dict #[] } := Heap.get?_push_size _ rfl
  refine wpAny_Dict_empty ⟨.ref s.heap.objs.size, _, I.laid (a := s.heap.objs.size) (o := DictO s.heap.objs.size { cls := .type "dict", data := .dict #[] }) (t' := s.toks) (fun _ _ q => Heap.get?_push_of_some _ q) (Nat.le_refl _) (objOk_dct e), rfl, h _ _ (I.hok.fresh (Nat.le_refl _)) ?_⟩
  exact ⟨_, #[], 0, upd_same, beq_eq_false_iff_ne.mpr (Ne.symm (Nat.ne_of_lt I.big)), ⟨rfl, rfl, rfl⟩, rfl, rfl, List.nodup_nil, Nat.zero_le _⟩⟩
end
section
variable {X : Cx} {W : WXm} {ios : List Nat} {e a b c0 : Expr} {pos apos cpos p1 : Pos} {i : Nat} {x : Str} {re ra rb rc rk : Mu → Rs D}
theorem noSl_of {b : Expr} (h : isSlice b = false) : NoSl b := fun o i => by
  cases b <;> first | rfl | (exact absurd h (by simp [isSlice]))
theorem Dw.dct {K : PySem.W.Frag} {H : Hp} {L : Ads} {es : List (D × D)} {v : V} (w : Dw K H L (.dict es) v) (hx : isExc es = false) : ∃ a xs, v = .ref a ∧ IsDct H a xs ∧ Dvk K H L es xs := by
  rcases w with w | ⟨a, rfl, w⟩
  · generalize hd : PyData.dict es = dd at w
    cases w with
    | dct n r s => cases hd; exact ⟨_, _, rfl, r, s⟩
    | exc n r w f s => cases hd; cases hx
    | _ => cases hd
  · rcases w with ⟨_, _, e, _⟩ | ⟨_, xs, e, h, r⟩
    · cases e
    · cases e; exact ⟨a, xs, rfl, h, r⟩
theorem Dv.tI_ref {K : PySem.W.Frag} {H : Hp} {L : Ads} {k : List Int} {v : V} (w : Dv K H L (tI k) v) : ∃ b, v = .ref b := by
  obtain ⟨a, _, rfl, _⟩ := w.tuple
  exact ⟨a, rfl⟩
/-- d[k] -/
theorem dix_end {K : PySem.W.Frag} {c : Ent} {L M : Ads} {μ2 : Mu} {σ : St} {H2 : Hp} {es : List (D × D)} {y : D} {v w : V} {Q : VK} (S2 : Sr K c L M μ2 σ H2) (d1 : Dw K H2 L (.dict es) v) (d2 : Dv K H2 L y w) (p2 : Pst K c L M W σ H2 (rD K) Q (if isKey y then Rs.opt (dget es y) μ2 else .st)) : rDG K v w H2 Q := by
  split at p2
  · rename_i hk
    obtain ⟨k, rfl⟩ := isKey_of hk
    obtain ⟨z, e, q⟩ := p2.opt
    have hx : isExc es = false := by
      unfold isExc
      split
      · exfalso
        have e' : dget [(PyData.bool true, _)] (tI k) = some z := e
        simp [dget, PyData.eqv, tI] at e'
      · rfl
    obtain ⟨a, xs, rfl, g1, g2⟩ := d1.dct hx
    obtain ⟨b, rfl⟩ := d2.tI_ref
    rcases g2.at k with ⟨h1, _⟩ | ⟨d, b', u, v', h1, h2, h3, h4⟩
    · rw [h1] at e; cases e
    · rw [h1] at e; cases e
      exact ⟨a, b, xs, es, L, k, (b', u), v', rfl, rfl, g1, g2, d2, h2, h3, q _ _ S2 .refl h4⟩
  · exact p2.elim
theorem je_dix (hu : X.A.units + 1 < cLine) (f : E) (ha : JE X W a ra) (hb : JE X W b rb) (hs : isSlice b = false) : JE X W (.Subscript a b pos) fun μ => (ra μ).bind fun x μ1 => (rb μ1).bind fun y μ2 => dixE (.e f) x y μ2 := by
  refine pe_mono (pe_dg hu ha hb (noSl_of hs)) fun σ H Q ⟨c, L, M, μ, S, p⟩ => ⟨c, L, M, μ, S, p.bind fun x μ1 v H1 S1 k1 d1 p1 => ⟨c, L, M, μ1, S1, p1.bind fun y μ2 w H2 S2 k2 d2 p2 => ?_⟩⟩
  unfold dixE at p2
  split at p2
  · rename_i es h
    have h : some x = some (.dict es) := h
    cases h
    exact dix_end S2 (.inl (S2.dk d1 k2)) d2 p2
  · exact p2.elim
theorem je_dixK (hu : X.A.units + 1 < cLine) (hN : X.N[i]? = some x) (hv : Vis X.env.scope x) (hd : (x == ("__debug__" : Str)) = false) (hcd : (x == ("__classdict__" : Str)) = false) (hb : JE X W b rb) (hs : isSlice b = false) :
    JE X W (.Subscript (.Name x p1) b pos) fun μ => (Rs.opt (peek μ i) μ).bind fun x0 μ1 => (rb μ1).bind fun y μ2 => dixE (.pk i) x0 y μ2 := by
  refine pe_mono (pe_dg hu (pe_var (i := i) hN hv hd hcd) hb (noSl_of hs)) fun σ H Q ⟨c, L, M, μ, S, p⟩ => ?_
  cases hp : peek μ i with
  | none => simp only [hp] at p; exact p.elim
  | some d0 =>
    simp only [hp] at p
    obtain ⟨v, hv, _⟩ := S.peek hp
    refine ⟨v, hv, c, L, M, μ, S, Pst.bind (k := fun y μ2 => dixE (.pk i) d0 y μ2) p fun y μ2 w H2 S2 k2 d2 p2 => ?_⟩
    unfold dixE at p2
    split at p2
    · rename_i es h
      obtain ⟨v', hv', w'⟩ := S2.peek (show peek μ2 i = some (.dict es) from h)
      have : v = v' := by rw [hv] at hv'; exact Option.some.inj (Option.some.inj hv')
      subst this
      exact dix_end S2 w' d2 p2
    · exact p2.elim
/-- d.get(k, z) -/
theorem get_end {K : PySem.W.Frag} {c : Ent} {L M : Ads} {μ3 : Mu} {σ : St} {H3 : Hp} {es : List (D × D)} {y z : D} {a0 : Addr} {w zv : V} {Q : VK} (S3 : Sr K c L M μ3 σ H3) (d1 : Dw K H3 L (.dict es) (.ref a0)) (d2 : Dv K H3 L y w) (d3 : Dv K H3 L z zv) (p2 : Pst K c L M W σ H3 (rD K) Q (if isKey y && !isExc es then .ok ((dget es y).getD z) μ3 else .st)) :
    ∃ b xs es L k, w = .ref b ∧ IsDct H3 a0 xs ∧ Dvk K H3 L es xs ∧ Dv K H3 L (tI k) (.ref b) ∧ ((atKey xs k = none ∧ Q zv H3) ∨ ∃ u v, atKey xs k = some u ∧ RelV v u.2 ∧ Q v H3) := by
  split at p2
  · rename_i hk
    rw [Bool.and_eq_true, Bool.not_eq_true'] at hk
    obtain ⟨hk, hx⟩ := hk
    obtain ⟨k, rfl⟩ := isKey_of hk
    obtain ⟨a, xs, e, g1, g2⟩ := d1.dct hx
    cases e
    obtain ⟨b, rfl⟩ := d2.tI_ref
    refine ⟨b, xs, es, L, k, rfl, g1, g2, d2, ?_⟩
    rcases g2.at k with ⟨h1, h2⟩ | ⟨d, b', u, v', h1, h2, h3, h4⟩
    · rw [h1] at p2; exact .inl ⟨h2, p2 _ _ S3 .refl d3⟩
    · rw [h1] at p2; exact .inr ⟨(b', u), v', h2, h3, p2 _ _ S3 .refl h4⟩
  · exact p2.elim
theorem m2_get {o : Expr} (hb : attributeBase o "get" X.env (eval o X.env) = eval o X.env) (h1 : isStar a = false) (h2 : isStar b = false) (hl : (apos.endLine == cpos.line) = true) : M2 X o "get" apos a b cpos :=
  ⟨hb, back_few (by simp [h1, h2]) (by simp), hl, by rw [starEach_cons h1, starEach_cons h2]; rfl⟩
theorem isDict_of {x : D} (h : isDict x = true) : ∃ es, x = .dict es ∧ isExc es = false := by
  cases x <;> first | exact ⟨_, rfl, Bool.not_eq_true' _ |>.mp h⟩ | cases h
theorem je_getK (hu : X.A.units + 1 < cLine) (hN : X.N[i]? = some x) (hv : Vis X.env.scope x) (hd : (x == ("__debug__" : Str)) = false) (hcd : (x == ("__classdict__" : Str)) = false) (ha : JE X W a ra) (hb : JE X W b rb) (h1 : isStar a = false) (h2 : isStar b = false) (hl : (apos.endLine == cpos.line) = true) :
    JE X W (.Call (.Attribute (.Name x p1) "get" apos) [a, b] [] cpos) fun μ => (Rs.opt (peek μ i) μ).bind fun x0 μ1 => if isDict x0 then (ra μ1).bind fun y μ2 => (rb μ2).bind fun z μ3 => getE (.pk i) x0 y z μ3 else .st := by
  refine pe_mono (pe_dg2 hu (pe_var (i := i) hN hv hd hcd) ha hb (m2_get rfl h1 h2 hl)) fun σ H Q ⟨c, L, M, μ, S, p⟩ => ?_
  cases hp : peek μ i with
  | none => simp only [hp] at p; exact p.elim
  | some d0 =>
    simp only [hp] at p
    obtain ⟨v, hv, w0⟩ := S.peek hp
    have p : Pst X.K c L M W σ H (rD X.K) Q (if isDict d0 then (ra μ).bind fun y μ2 => (rb μ2).bind fun z μ3 => getE (.pk i) d0 y z μ3 else .st) := p
    split at p
    · rename_i hdict
      obtain ⟨es0, rfl, hx0⟩ := isDict_of hdict
      obtain ⟨a0, xs0, rfl, g1, g2⟩ := Dw.dct w0 hx0
      refine ⟨.ref a0, hv, a0, xs0, rfl, g1, c, L, M, μ, S, p.bind fun y μ2 w H2 S2 k2 d2 p2 => ⟨c, L, M, μ2, S2, p2.bind fun z μ3 zv H3 S3 k3 d3 p3 => ?_⟩⟩
      unfold getE at p3
      split at p3
      · rename_i es h
        obtain ⟨v', hv', w'⟩ := S3.peek (show peek μ3 i = some (.dict es) from h)
        have : v' = .ref a0 := by rw [hv] at hv'; exact (Option.some.inj (Option.some.inj hv')).symm
        subst this
        exact get_end S3 w' (S3.dk d2 k3) d3 p3
      · exact p3.elim
    · exact p.elim
theorem je_get {o : Expr} {ro : Mu → Rs D} (f : E) (hu : X.A.units + 1 < cLine) (ho : JE X W o ro) (hbs : attributeBase o "get" X.env (eval o X.env) = eval o X.env) (ha : JE X W a ra) (hb : JE X W b rb) (h1 : isStar a = false) (h2 : isStar b = false) (hl : (apos.endLine == cpos.line) = true) :
    JE X W (.Call (.Attribute o "get" apos) [a, b] [] cpos) fun μ => (ro μ).bind fun x0 μ1 => if isDict x0 then (ra μ1).bind fun y μ2 => (rb μ2).bind fun z μ3 => getE (.e f) x0 y z μ3 else .st := by
  refine pe_mono (pe_dg2 hu ho ha hb (m2_get hbs h1 h2 hl)) fun σ H Q ⟨c, L, M, μ, S, p⟩ => ⟨c, L, M, μ, S, p.bind fun x0 μ1 v H1 S1 k1 d1 p1 => ?_⟩
  split at p1
  · rename_i hdict
    obtain ⟨es0, rfl, hx0⟩ := isDict_of hdict
    have d1 : Dv X.K H1 L (.dict es0) v := d1
    obtain ⟨a0, xs0, rfl, g1, g2⟩ := Dw.dct (.inl d1) hx0
    refine ⟨a0, xs0, rfl, g1, c, L, M, μ1, S1, p1.bind fun y μ2 w H2 S2 k2 d2 p2 => ⟨c, L, M, μ2, S2, p2.bind fun z μ3 zv H3 S3 k3 d3 p3 => ?_⟩⟩
    unfold getE at p3
    split at p3
    · rename_i es h
      have h : some (PyData.dict es0) = some (.dict es) := h
      cases h
      exact get_end S3 (.inl (S3.dk (S2.dk d1 k2) k3)) (S3.dk d2 k3) d3 p3
    · exact p3.elim
  · exact p1.elim
/-- {} as a new object -/
theorem jf_dict0 : JF X W (.Dict [] [] pos) fun μ => .ok (.dict []) μ := pe_mono pe_dnew fun σ H Q ⟨c, L, M, μ, S, p⟩ q o hq hd =>
  p _ _ (S.laid hq) (S.plus hq) (Kp.laid hq) (S.free hq) (fun b e => by rw [hq] at e; cases e) (.inr ⟨[], [], rfl, hd, .nil⟩)
/-- {k: v, l: w} -/
def tDict2 (K : PySem.W.Frag) (k1 v1 k2 v2 : TE) : TE := fun σ H Q => ∀ p o, H p = none → IsDct (upd H p (DictO p o)) p [] → k1 σ (upd H p (DictO p o)) fun x H1 => v1 σ H1 fun y H2 => k2 σ H2 fun z H3 => v2 σ H3 fun w H4 =>
  H4 p = some (DictO p o) ∧ ∃ a b L ka kb, x = .ref a ∧ z = .ref b ∧ Dv K H4 L (tI ka) (.ref a) ∧ Dv K H4 L (tI kb) (.ref b) ∧ ∀ o' u1 u2, RelV y u1 → RelV w u2 → IsDct (upd H4 p (DictO p o')) p (storedH (storedH [] ka a u1) kb b u2) → Q (.ref p) (upd H4 p (DictO p o'))
theorem pe_dict2 {k l f g : Expr} {tk tf tl tg : TE} (hu : X.A.units + 1 < cLine) (hk : PE X k tk) (hf : PE X f tf) (hl : PE X l tl) (hg : PE X g tg) : PE X (.Dict [some k, some l] [f, g] pos) (tDict2 X.K tk tf tl tg) := by
  refine ⟨fun pins s σ H Q I q => ?_⟩
  have hn := I.hok.fresh (Nat.le_refl s.heap.objs.size)
  have e0 : (s.heap.push { cls := .type "dict", data := .dict #[] }).get? s.heap.objs.size = some { cls := .type "dict", data := .dict #[] } := Heap.get?_push_size _ rfl
  have I1 := I.laid (a := s.heap.objs.size) (o := DictO s.heap.objs.size { cls := .type "dict", data := .dict #[] }) (t' := s.toks) (fun _ _ q => Heap.get?_push_of_some _ q) (Nat.le_refl _) (objOk_dct e0)
  have nm : (s.heap.objs.size == sysModules) = false := beq_eq_false_iff_ne.mpr (Ne.symm (Nat.ne_of_lt I.big))
  have d0 : IsDct (upd H s.heap.objs.size (DictO s.heap.objs.size { cls := .type "dict", data := .dict #[] })) s.heap.objs.size [] := ⟨_, #[], 0, upd_same, nm, ⟨rfl, rfl, rfl⟩, rfl, rfl, List.nodup_nil, Nat.zero_le _⟩
  have q := q _ _ hn d0
  rw [arm_eval_Dict, zip_pairTrees [some k, some l] [f, g] X.env pos rfl rfl, dictDisplay_pairs (pairTrees [some k, some l] [f, g] X.env pos) (fun e => nomatch e) (show 2 < 17 by decide)]
  refine wpAny_bind (wpAny_standAt (wpAny_bind (wpAny_subDictH (knd := tupleKind (intKind X.prog X.w)) (by show X.A.units < cLine; omega) (show 2 ≤ 15 by decide) ?_)))
  refine pairTrees_cons_walk (thn (hk.run pins _ σ _ _ I1 q) fun v1 s1 ⟨x, H1, J1, rx, q1⟩ => thn (hf.run pins s1 σ H1 _ J1 q1) fun v2 s2 ⟨y, H2, J2, ry, q2⟩ => ?_)
  refine pairTrees_cons_walk (thn (hl.run pins s2 σ H2 _ J2 q2) fun v3 s3 ⟨z, H3, J3, rz, q3⟩ => thn (hg.run pins s3 σ H3 _ J3 q3) fun v4 s4 ⟨w, H4, J4, r4, e4, a, b, L, ka, kb, ex, ez, g1, g2, q4⟩ => pairTrees_nil_walk ?_)
  subst ex ez
  obtain rfl : v1 = Value.ref a := rx
  obtain rfl : v3 = Value.ref b := rz
  have d4 : IsDct H4 s.heap.objs.size [] := ⟨_, #[], 0, e4, nm, ⟨rfl, rfl, rfl⟩, rfl, rfl, List.nodup_nil, Nat.zero_le _⟩
  refine ⟨[(ka, a, v2), (kb, b, v4)], ⟨rfl, rfl, inv_key J4 g1, rfl, rfl, inv_key J4 g2, True.intro⟩, inv_dct (L := L) J4 d4 .nil, fun h' tk dd hs => ?_⟩
  obtain ⟨o', es', ep, hq, h2, h3, h4, _, h5⟩ := dd
  refine wpAny_pure ⟨.ref s.heap.objs.size, upd H4 s.heap.objs.size (DictO s.heap.objs.size o'), d_write J4 (by rw [e4]; exact True.intro) hs ⟨o', hq⟩ (objOk_dct hq), rfl, q4 o' v2 v4 ry r4 ⟨o', es', ep, upd_same, nm, h2, h3, h4, h5, ?_⟩⟩
  have l1 := storedH_len [] ka a v2
  have l2 := storedH_len (storedH [] ka a v2) kb b v4
  rw [sizeLine_eq]
  rw [List.length_nil] at l1
  omega
theorem Pst.besides {K : PySem.W.Frag} {c : Ent} {L M : Ads} {σ : St} {H Hi : Hp} {q : Addr} {Q1 Q : VK} {r : Rs D} {kk : D → Mu → Rs D} (p : Pf K c L M W σ H Q (r.bind kk)) (kH : Kp M H Hi)
    (hS : ∀ μ' H', Sr K c (plusA L q) M μ' σ H' → Sr K c L M μ' σ H') (g : ∀ d μ1 v H1, Sr K c (plusA L q) M μ1 σ H1 → Kp M Hi H1 → Dv K H1 (plusA L q) d v → Pf K c L M W σ H Q (kk d μ1) → Q1 v H1) : Pst K c (plusA L q) M W σ Hi (rD K) Q1 r := by
  cases r with
  | ok d μ1 => exact fun v H1 S1 k1 h1 => g d μ1 v H1 S1 k1 h1 p
  | ex x μ1 => exact fun H1 S1 k1 => p H1 (hS _ _ S1) (kH.trans k1)
  | st => exact p
theorem Sr.none0 {K : PySem.W.Frag} {c : Ent} {L M : Ads} {μ : Mu} {σ : St} {H : Hp} (S : Sr K c L M μ σ H) {a : Addr} (n : H a = none) : c.H0 a = none ∨ c.M0 a := by
  cases h : c.H0 a with
  | none => exact .inl rfl
  | some o =>
    by_cases m : c.M0 a
    · exact .inr m
    · have := S.keep a o h m
      rw [n] at this; cases this
theorem jf_dict2 {k l f g : Expr} {rk rf rl rg : Mu → Rs D} (hu : X.A.units + 64 < cLine) (hk : JE X W k rk) (hf : JE X W f rf) (hl : JE X W l rl) (hg : JE X W g rg) :
    JF X W (.Dict [some k, some l] [f, g] pos) fun μ => (rk μ).bind fun x μ1 => (rf μ1).bind fun y μ2 => (rl μ2).bind fun z μ3 => (rg μ3).bind fun w μ4 => dict2E x y z w μ4 := by
  refine pe_mono (pe_dict2 (by omega) hk hf hl hg) fun σ H Q ⟨c, L, M, μ, S, p⟩ => fun q o hq hd => ?_
  have nL : ¬ L q := S.free hq
  have nM : ¬ M q := fun z => nL (S.ml q z)
  have hS : ∀ μ' H', Sr X.K c (plusA L q) M μ' σ H' → Sr X.K c L M μ' σ H' := fun μ' H' T => T.minus S.ml S.l0 fun a h => (S.lkl a h).1
  refine ⟨c, plusA L q, M, μ, S.plus hq, Pst.besides p (Kp.laid hq) hS fun x μ1 xv H1 S1 k1 d1 p1 => ?_⟩
  refine ⟨c, plusA L q, M, μ1, S1, Pst.besides p1 ((Kp.laid hq).trans k1) hS fun y μ2 yv H2 S2 k2 d2 p2 => ?_⟩
  refine ⟨c, plusA L q, M, μ2, S2, Pst.besides p2 (((Kp.laid hq).trans k1).trans k2) hS fun z μ3 zv H3 S3 k3 d3 p3 => ?_⟩
  refine ⟨c, plusA L q, M, μ3, S3, Pst.besides p3 ((((Kp.laid hq).trans k1).trans k2).trans k3) hS fun w μ4 wv H4 S4 k4 d4 p4 => ?_⟩
  unfold dict2E at p4
  split at p4
  · rename_i hc
    simp only [Bool.and_eq_true] at hc
    obtain ⟨ka, rfl⟩ := isKey_of hc.1
    obtain ⟨kb, rfl⟩ := isKey_of hc.2
    have k24 := (k2.trans k3).trans k4
    have k34 := k3.trans k4
    have d1 : Dv X.K H4 (plusA L q) (tI ka) xv := S4.dk d1 k24
    have d2 : Dv X.K H4 (plusA L q) y yv := S4.dk d2 k34
    have d3 : Dv X.K H4 (plusA L q) (tI kb) zv := S4.dk d3 k4
    obtain ⟨a, rfl⟩ := d1.tI_ref
    obtain ⟨b, rfl⟩ := d3.tI_ref
    have e4 : H4 q = some (DictO q o) := k24 _ _ (k1 _ _ upd_same nM) nM
    refine ⟨e4, a, b, plusA L q, ka, kb, rfl, rfl, d1, d3, fun o' u1 u2 r1 r2 hd' => ?_⟩
    have S5 : Sr X.K c (plusA L q) M μ4 σ (upd H4 q (DictO q o')) := S4.wr (.inr rfl) nM (fun z => nL (S.lkl q z).1) (S.none0 hq)
    have kk : Kp (plusA L q) H4 (upd H4 q (DictO q o')) := fun b u e n => by
      have z : b ≠ q := fun z => n (.inr z)
      rw [upd_ne z]; exact e
    have w0 : Dvk X.K H4 (plusA L q) (dput [] (tI ka) y) (storedH [] ka a u1) := Dvk.put (es := []) (xs := []) .nil List.nodup_nil d1 r1 d2
    have w1 := (w0.put (List.nodup_cons.mpr ⟨by simp, List.nodup_nil⟩) d3 r2 d4).keep kk
    refine p4 q _ (hS _ _ S5) S5 (fun b u e m => ?_) nL (fun b e => by rw [hq] at e; cases e) (.inr ⟨_, _, rfl, hd', w1⟩)
    have z : b ≠ q := fun z => by rw [z, hq] at e; cases e
    rw [upd_ne z]
    exact ((((Kp.laid hq).trans k1).trans k2).trans k3).trans k4 b u e m
  · exact p4.elim
/-- a slot's own dict -/
theorem Sr.ownD {K : PySem.W.Frag} {c : Ent} {L M : Ads} {μ : Mu} {σ : St} {H : Hp} (S : Sr K c L M μ σ H) {es : List (D × D)} (h : owned μ i = some (.dict es)) : ∃ a xs, μ[i]? = some (.own (.dict es)) ∧ σ[i]? = some (some (.ref a)) ∧ M a ∧ IsDct H a xs ∧ Dvk K H L es xs := by
  have h := owned_at h
  obtain ⟨a, e1, e2, e3⟩ := S.own i _ h
  rcases e2 with ⟨_, vs, e, q, w⟩ | ⟨_, xs, e, q, w⟩
  · cases e
  · cases e; exact ⟨a, xs, h, e1, e3, q, w⟩
theorem js_dset {st : Stmt} (h : PS X st (tAsg (Tr X.K W (rD X.K) re) (gSub (tVar i) (Tr X.K W (rD X.K) rk) (rSetI X.K)))) : JS X W ios st fun μ => (re μ).bind fun v μ1 => if ownsA i μ1 then (rk μ1).bind fun y μ2 => Rs.nx (dsetE i y v μ2) else .st := by
  refine ps_mono h fun E σ H ⟨c, L, M, μ, hc, S, p⟩ => ⟨c, L, M, μ, S, PostS.bind S.ml p fun v μ1 vv H1 S1 d1 p1 => ?_⟩
  split at p1
  · rename_i h0
    obtain ⟨d0, h0⟩ := ownsA_of h0
    obtain ⟨a, ea, _⟩ := S1.own i d0 (owned_at h0)
    refine ⟨.ref a, ea, c, L, M, μ1, S1, PostS.bindK S1.ml p1 fun y μ2 yv H2 S2 k2 d2 p2 => ?_⟩
    unfold dsetE at p2
    split at p2
    · rename_i es h1
      split at p2
      · rename_i hc
        simp only [Bool.and_eq_true] at hc
        obtain ⟨k, rfl⟩ := isKey_of hc.1
        obtain ⟨a', xs, h2, ea', hM, eh', dv⟩ := S2.ownD h1
        rw [ea] at ea'; cases ea'
        have d2 : Dv X.K H2 L (tI k) yv := d2
        obtain ⟨b, rfl⟩ := d2.tI_ref
        have hl := sizeOkN_of hc.2
        rw [dv.length] at hl
        refine ⟨a, b, xs, es, L, k, rfl, rfl, eh', dv, d2, by omega, fun o' u ru hd' => ?_⟩
        have kk : Kp L H2 (upd H2 a (DictO a o')) := (Kp.wr hM).mono S2.ml
        have w' : Dvk X.K (upd H2 a (DictO a o')) L (dput es (tI k) v) (storedH xs k b u) := (dv.put (isDct_nd eh') d2 ru (S2.dk d1 k2)).keep kk
        exact p2 L M σ _ (S2.put h2 ea hM (.inr ⟨_, _, rfl, hd', w'⟩)) (.of (Kp.wr hM))
      · exact p2.elim
    · exact p2.elim
  · exact p1.elim
end
end Mn
set_option Elab.async false
set_option linter.all false
set_option maxRecDepth 100000
set_option autoImplicit false
namespace Mn
open PySem PySem.Spec L2 PyProof.Rows
/-! ## sorted(d, reverse=True) -/
def leK (x y : Ent3) : Bool := !decide (x.1 < y.1)
theorem leK_data : PySem.W.dataLe true (fun x : Ent3 => tI x.1) = leK := by
  rw [PySem.W.dataLe_eq]
  funext x y
  show (!PySem.W.dataLt (.tuple (x.1.map .int)) (.tuple (y.1.map .int))) = _
  rw [PySem.W.dataLt_tuple]
  exact congrArg (!·) (PySem.W.dataLt_ints x.1 y.1)
theorem sort_map (xs : List Ent3) : (xs.mergeSort leK).map (·.1) = sortK (xs.map (·.1)) := by
  unfold sortK
  exact List.map_mergeSort (fun a _ b _ => rfl)
section
variable {X : Cx} {pins : List (Addr × Obj)} {σ : L2.St} {H : Hp} {s : Shared}
theorem readsAll_ints {h : Heap} : ∀ {ks : List Int} {us : List Value}, Vals (ks.map V.int) us → ReadsAll h us (ks.map .int) []
  | [], _, r => by rw [List.map_nil] at r; cases r; exact .nil
  | k :: ks, _, r => by
    rw [List.map_cons] at r
    cases r with
    | cons e t =>
      obtain ⟨t', rfl⟩ := e
      exact ReadsAll.cons (as := []) (bs := []) (.int k t') (readsAll_ints t)
theorem reads_key {L : Ads} {k : List Int} {b : Addr} (I : Inv X pins σ H s) (g : Dv X.K H L (tI k) (.ref b)) : Reads s.heap (.ref b) (tI k) [] := by
  obtain ⟨a, vs, e, sq, w⟩ := g.tuple
  cases e
  rw [w.ints] at sq
  obtain ⟨its, r, ⟨o, e1, e2, n, e3⟩, _⟩ := I.tuple sq
  exact .tuple e1 e2 e3 (by simpa using readsAll_ints r)
theorem each_of {α β γ : Type} {R : β → γ → Prop} (f : α → β) (g : α → γ) : ∀ (l : List α), (∀ a ∈ l, R (f a) (g a)) → PySem.W.EachIs R (l.map f) (l.map g)
  | [], _ => .nil
  | a :: l, h => .cons (h a List.mem_cons_self) (each_of f g l fun b hb => h b (List.mem_cons_of_mem _ hb))
theorem each_refs : ∀ {out : List Value} {xs : List Ent3}, PySem.W.EachIs (fun v (x : Ent3) => v = .ref x.2.1) out xs → out = xs.map fun x => .ref x.2.1
  | _, _, .nil => rfl
  | _, _, .cons e t => by rw [e, each_refs t]; rfl
theorem vals_addr (xs : List Ent3) : Vals (xs.map fun x => V.ref x.2.1) (xs.map fun x => Value.ref x.2.1) := by
  induction xs with
  | nil => exact .nil
  | cons x xs ih => exact .cons rfl ih
def rSortR (K : PySem.W.Frag) : List V → List V → Hp → VK → Prop := fun vs zs H Q => ∃ a xs es L, vs = [.ref a] ∧ zs = [.bl true] ∧ IsDct H a xs ∧ Dvk K H L es xs ∧ (∀ x ∈ xs, x.1 ≠ []) ∧
  ∀ p, H p = none → Q (.ref p) (upd H p (.lst ((xs.mergeSort leK).map fun x => .ref x.2.1)))
theorem cr_sortR (hc : X.calm = true) (hu : X.A.units + 64 < cLine) : CallRK X (.builtin "sorted") [Str.ofString "reverse"] (rSortR X.K) := by
  rintro pins s σ H vs zs us ws Q I r rz ⟨a, xs, es, L, rfl, rfl, g1, g2, ne, q⟩
  obtain rfl := Vals.ref1 r
  obtain ⟨w1, rfl, e1⟩ := vals1 rz
  obtain rfl : w1 = Value.bool true := e1
  obtain ⟨o, es0, ep, ht, nm, hx, hdt, hes, nd, hz⟩ := id g1
  have ho : s.heap.get? a = some o := (show ObjOk X.prog X.w H s.heap a (DictO a o) from I.hok a _ ht).1
  have sz : es0.size = xs.length := by rw [← Array.length_toList, hes, List.length_map]
  refine PyProof.Rows.call_function_entry_kw PyProof.Rows.kind_sorted PyProof.Rows.plain_sorted PyProof.Rows.entry_sorted (PyProof.Rows.args_sorted_rev _ _) ?_
  unfold Builtin.«sorted»
  refine wpAny_bind (m := checkCount "sorted" 1 1 _) (wpAny_pure ?_)
  refine wpAny_bind (PySem.W.kdu_collect (A := X.A.in1) (kdl_raw nm hx hdt) (I.ok.hd hc) ho (by omega) fun h' tk acc hk hacc => ?_)
  have ea : acc.toList = xs.map fun x => Value.ref x.2.1 := by
    have hl : acc.toList.length = xs.length := by rw [Array.length_toList, hacc.1]; exact sz
    apply List.ext_getElem?
    intro j
    rw [List.getElem?_map]
    cases hj : acc.toList[j]? with
    | none =>
      have := List.getElem?_eq_none_iff.mp hj
      rw [List.getElem?_eq_none (by omega)]; rfl
    | some v =>
      obtain ⟨en, hen, rfl⟩ := hacc.2 j v (by rw [← Array.getElem?_toList]; exact hj)
      have e2 : es0.toList[j]? = some en := by rw [Array.getElem?_toList]; exact hen
      rw [hes, List.getElem?_map] at e2
      cases hb : xs[j]? with
      | none => rw [hb] at e2; cases e2
      | some b => rw [hb] at e2; cases e2; rfl
  have I1 : Inv X pins σ H { s with heap := h', toks := tk } := I.kept hk
  have len : acc.toList.length = xs.length := by rw [ea, List.length_map]
  refine wpAny_bind (wpAny_newList ?_ (by rw [len]; exact hz))
  have hoL : (h'.push (seqObj "list" acc.toList.toArray 0)).get? h'.objs.size = some (seqObj "list" acc.toList.toArray 0) := Heap.get?_push_size _ rfl
  have I2 : Inv X pins σ H { s with heap := h'.push (seqObj "list" acc.toList.toArray 0), toks := tk } := I1.kept fun b u e => Heap.get?_push_of_some _ e
  show wpAny _ _ _ _ _ { s with heap := h'.push (seqObj "list" acc.toList.toArray 0), toks := tk }
  have dall : ∀ x ∈ xs, ∀ y ∈ xs, PySem.W.alike (tI x.1) (tI y.1) = true := fun x _ y _ => by
    show PySem.W.alike (.tuple (x.1.map .int)) (.tuple (y.1.map .int)) = true
    simp [PySem.W.alike, PySem.W.alike_ints]
  refine wpAny_bind (wpAny_holding (PySem.W.list_sort_rev_data (s := { s with heap := h'.push (seqObj "list" acc.toList.toArray 0), toks := tk }) (b := true) (bs := xs) (enc := fun x => tI x.1) (R := fun v (x : Ent3) => v = .ref x.2.1) hoL ?_ ?_ ?_ ?_ hz ?_ fun out ol eo => ?_))
  · rw [ea]
    have := each_of (R := fun (v : Value) (x : Ent3) => v = .ref x.2.1) (fun x : Ent3 => Value.ref x.2.1) id xs fun _ _ => rfl
    rwa [List.map_id] at this
  · have := each_of (R := fun (v : Value) (x : Ent3) => ∃ as, Reads (h'.push (seqObj "list" acc.toList.toArray 0)) v (tI x.1) as ∧ h'.objs.size ∉ as) (fun x : Ent3 => Value.ref x.2.1) id xs fun x hx => ⟨[], reads_key I2 (g2.keys x hx), by simp⟩
    rw [List.map_id, ← ea] at this
    exact this
  · intro d hd d' hd'
    obtain ⟨x, hx, rfl⟩ := List.mem_map.mp hd
    obtain ⟨y, hy, rfl⟩ := List.mem_map.mp hd'
    exact dall x hx y hy
  · refine .inl fun d hd => ?_
    obtain ⟨x, hx, rfl⟩ := List.mem_map.mp hd
    cases hk : x.1 with
    | nil => exact absurd hk (ne x hx)
    | cons k r => exact ⟨.int k, r.map .int, rfl⟩
  · intro x hx
    have : (tI x.1).depth = 1 := by
      show PyData.depthAll (x.1.map .int) + 1 = 1
      rw [PySem.W.depth_ints]
    have u1 : X.A.in1.units ≤ X.A.units + 1 := Nat.le_refl _
    rw [this]
    omega
  · rw [leK_data] at eo
    have eo := each_refs eo
    obtain ⟨e', he'⟩ := PyProof.Rows.sortedHeap_at (vs := acc.toList) (out := out.toArray) hoL
    have hlen : ((xs.mergeSort leK).map fun x => V.ref x.2.1).length ≤ sizeLine := by
      rw [List.length_map, List.length_mergeSort]; exact hz
    refine wpAny_pure ⟨_, rfl, .ref h'.objs.size, upd H h'.objs.size (.lst ((xs.mergeSort leK).map fun x => .ref x.2.1)), I1.laid (t' := tk) (fun b u e => ?_) (Nat.le_refl _) (show ObjOk X.prog X.w _ _ _ (.lst ((xs.mergeSort leK).map fun x => .ref x.2.1)) from ⟨hlen, out, e', by rw [eo]; exact vals_addr _, he'⟩), rfl, q _ (I1.hok.fresh (Nat.le_refl _))⟩
    have hb : b < h'.objs.size := Heap.lt_size e
    rw [PyProof.Rows.sortedHeap_old (Nat.ne_of_lt hb) (by rw [size_push']; exact Nat.lt_succ_of_lt hb)]
    exact Heap.get?_push_of_some _ e
end
theorem keysI_of {K : PySem.W.Frag} {H : Hp} {L : Ads} : ∀ {es : List (D × D)} {xs : List Ent3}, Dvk K H L es xs → keysI es = some (xs.map (·.1))
  | _, _, .nil => rfl
  | _, _, @Dvk.cons _ _ _ k b u d v es xs g r x t => by
    have e : intsOf (k.map .int) = some k := by
      clear g
      induction k with
      | nil => rfl
      | cons i k ih => show (intsOf (k.map .int)).map (i :: ·) = _; rw [ih]; rfl
    show (match intsOf (k.map .int), keysI es with | some k, some ks => some (k :: ks) | _, _ => none) = _
    rw [e, keysI_of t]; rfl
theorem dvs_keys {K : PySem.W.Frag} {H : Hp} {L : Ads} : ∀ (ys : List Ent3), (∀ x ∈ ys, Dv K H L (tI x.1) (.ref x.2.1)) → Dvs K H L (ys.map fun x => tI x.1) (ys.map fun x => V.ref x.2.1)
  | [], _ => .nil
  | y :: ys, h => .cons (h y List.mem_cons_self) (dvs_keys ys fun x hx => h x (List.mem_cons_of_mem _ hx))
section
variable {X : Cx} {W : WXm} {a : Expr} {pos p1 cp kp : Pos} {k : Nat} {ra : Mu → Rs D}
theorem jf_sortR (hc : X.calm = true) (hu : X.A.units + 64 < cLine) (hg : Gl X "sorted") (hm : X.mg "sorted" = none) (ha : JP X W a ra) (hs : isStar a = false) :
    JF X W (.Call (.Name "sorted" p1) [a] [⟨some "reverse", .Constant (.bool true) k cp, kp⟩] pos) fun μ => (ra μ).bind fun x μ1 => Rs.opt (sortD x) μ1 := by
  refine pe_mono (pe_callBK (cr_sortR hc hu) hg hm (by decide +kernel) (pa_cons ha pa_nil (starEach_cons hs _ _)) (pk_cons pe_bl pk_nil) (by decide) (by decide +kernel) (by rw [starEach_cons hs]; rfl) (backTo_plain (by simp [hs])) rfl rfl rfl) fun σ H Q ⟨c, L, M, μ, S, p⟩ => ⟨c, L, M, μ, S, Pst.bindF p fun x μ1 v H1 e0 S1 k1 d1 p1 => ?_⟩
  cases hz : sortD x with
  | none => rw [hz] at p1; exact p1.elim
  | some z =>
    rw [hz] at p1
    unfold sortD at hz
    split at hz
    · rename_i es
      have d1 : Dw X.K H1 L (.dict es) v := d1
      have hx : isExc es = false := by
        unfold isExc
        split
        · simp [keysI] at hz
        · rfl
      obtain ⟨a0, xs, rfl, g1, g2⟩ := d1.dct hx
      rw [keysI_of g2] at hz
      simp only at hz
      split at hz
      · rename_i hne
        cases hz
        refine ⟨a0, xs, es, L, rfl, rfl, g1, g2, fun y hy he => ?_, fun q hq => ?_⟩
        · rw [List.all_eq_true] at hne
          have := hne y.1 (List.mem_map.mpr ⟨y, hy, rfl⟩)
          rw [he] at this; cases this
        · have w := dvs_keys (K := X.K) (H := H1) (L := L) (xs.mergeSort leK) fun y hy => g2.keys y (List.mem_mergeSort.mp hy)
          obtain ⟨n1, n2, n3, n4, n5, n6⟩ := S1.newF w hq
          have e : ((sortK (xs.map (·.1))).map fun k => PyData.tuple (k.map .int)) = (xs.mergeSort leK).map fun x => tI x.1 := by
            rw [← sort_map, List.map_map]; rfl
          rw [e] at p1
          exact p1 _ _ n1 n2 n3 n4 n5 n6
      · cases hz
    · cases hz
end
/-! ## dict(t), t a tuple of pairs -/
theorem nodup_stored {xs : List Ent3} (nd : (xs.map (·.1)).Nodup) (k : List Int) (b : Addr) (u : Value) : ((storedH xs k b u).map (·.1)).Nodup := by
  cases h : atKey xs k with
  | some p => rw [storedH_old h, keys_map_putAt]; exact nd
  | none =>
    rw [storedH_new h, List.map_append]
    refine List.nodup_append.mpr ⟨nd, by simp, ?_⟩
    intro a ha c hc e
    simp at hc
    subst e hc
    obtain ⟨x, hx, ex⟩ := List.mem_map.mp ha
    unfold atKey at h
    rw [Option.map_eq_none_iff, List.find?_eq_none] at h
    exact h x hx (by simp [ex])
section
variable {X : Cx} {pins : List (Addr × Obj)} {σ : L2.St} {H : Hp} {s : Shared}
/-- a pair of a poly -/
structure Pr (K : PySem.W.Frag) (H : Hp) (L : Ads) (h : Heap) (e : D × D) (T : Addr) (x : Ent3) : Prop where
  ky : e.1 = tI x.1
  kd : Dv K H L (tI x.1) (.ref x.2.1)
  vd : ∃ v, RelV v x.2.2 ∧ Dv K H L e.2 v
  at_ : h.IsTuple T #[.ref x.2.1, x.2.2]
inductive Prs (K : PySem.W.Frag) (H : Hp) (L : Ads) (h : Heap) : List (D × D) → List Addr → List Ent3 → Prop
  | nil : Prs K H L h [] [] []
  | cons {e : D × D} {T : Addr} {x : Ent3} {es : List (D × D)} {Ts : List Addr} {xs : List Ent3} : Pr K H L h e T x → Prs K H L h es Ts xs → Prs K H L h (e :: es) (T :: Ts) (x :: xs)
theorem pairsD_cons {d : D} {ds : List D} {es : List (D × D)} (h : pairsD (d :: ds) = some es) : ∃ k v es', d = .tuple [tI k, v] ∧ pairsD ds = some es' ∧ es = (tI k, v) :: es' := by
  unfold pairsD at h
  split at h
  · rename_i q; cases q
  · rename_i r k0 v0 q
    obtain ⟨e1, e2⟩ := List.cons.inj q
    subst e1 e2
    split at h
    · rename_i hk
      obtain ⟨k, hk'⟩ := isKey_of hk
      subst hk'
      cases hp : pairsD ds with
      | none => rw [hp] at h; cases h
      | some es' => rw [hp] at h; cases h; exact ⟨k, _, es', rfl, rfl, rfl⟩
    · cases h
  · cases h
theorem vals_refs_inv : ∀ {Ts : List Addr} {its : List Value}, Vals (Ts.map V.ref) its → its = Ts.map Value.ref
  | [], _, r => by rw [List.map_nil] at r; cases r; rfl
  | T :: Ts, _, r => by
    rw [List.map_cons] at r
    cases r with
    | cons e t => cases e; rw [vals_refs_inv t]; rfl
theorem prs_of {L : Ads} (I : L2.Inv X pins σ H s) : ∀ {ds : List D} {vs : List V} {es : List (D × D)}, Dvs X.K H L ds vs → pairsD ds = some es → ∃ Ts xs, vs = Ts.map V.ref ∧ Prs X.K H L s.heap es Ts xs
  | _, _, es, .nil, e => by cases e; exact ⟨[], [], rfl, .nil⟩
  | _, _, es, @Dvs.cons _ _ _ d v ds vs w t, e => by
    obtain ⟨k, v0, es', rfl, hp, rfl⟩ := pairsD_cons e
    obtain ⟨Ts, xs, rfl, ps⟩ := prs_of I t hp
    obtain ⟨T, us, rfl, sq, wu⟩ := w.tuple
    cases wu with
    | cons wk wr =>
      cases wr with
      | cons wv wn =>
        cases wn
        obtain ⟨b, rfl⟩ := Dv.tI_ref wk
        obtain ⟨its, rv, ⟨o, e1, e2, n, e3⟩, _⟩ := I.tuple sq
        cases rv with
        | cons rk rt =>
          cases rt with
          | cons ru rn =>
            cases rn
            cases rk
            exact ⟨T :: Ts, (k, b, _) :: xs, rfl, .cons ⟨rfl, wk, ⟨_, ru, wv⟩, o, e1, e2, n, e3⟩ ps⟩
theorem Prs.len {K : PySem.W.Frag} {L : Ads} {h : Heap} : ∀ {es : List (D × D)} {Ts : List Addr} {xs : List Ent3}, Prs K H L h es Ts xs → es.length = xs.length ∧ Ts.length = xs.length
  | _, _, _, .nil => ⟨rfl, rfl⟩
  | _, _, _, .cons _ t => by
    obtain ⟨a, b⟩ := Prs.len t
    exact ⟨congrArg (· + 1) a, congrArg (· + 1) b⟩
theorem Prs.at {K : PySem.W.Frag} {L : Ads} {h : Heap} : ∀ {es : List (D × D)} {Ts : List Addr} {xs : List Ent3} {j : Nat} {x : Ent3}, Prs K H L h es Ts xs → xs[j]? = some x → ∃ T, Ts[j]? = some T ∧ h.IsTuple T #[.ref x.2.1, x.2.2] ∧ Dv K H L (tI x.1) (.ref x.2.1)
  | _, _, _, _, _, .nil, e => by simp at e
  | _, _, _, 0, _, .cons p _, e => by simp at e; subst e; exact ⟨_, rfl, p.at_, p.kd⟩
  | _, _, _, j + 1, x, .cons _ t, e => by
    obtain ⟨T, a, b⟩ := Prs.at (j := j) (x := x) t (by simpa using e)
    exact ⟨T, by simpa using a, b⟩
theorem Prs.fold {K : PySem.W.Frag} {L : Ads} {h : Heap} : ∀ {es acc : List (D × D)} {Ts : List Addr} {xs ac : List Ent3}, Prs K H L h es Ts xs → Dvk K H L acc ac → (ac.map (·.1)).Nodup → Dvk K H L (es.foldl (fun c p => dput c p.1 p.2) acc) (PySem.storedAllH ac xs) ∧ ((PySem.storedAllH ac xs).map (·.1)).Nodup
  | _, _, _, _, _, .nil, w, nd => ⟨w, nd⟩
  | (e1, e2) :: es, acc, _, _, ac, @Prs.cons _ _ _ _ _ T x _ Ts xs p t, w, nd => by
    obtain ⟨k, b, u⟩ := x
    obtain ⟨v, r, d⟩ := p.vd
    have ky : e1 = tI k := p.ky
    subst ky
    have := Prs.fold (acc := dput acc (tI k) e2) (ac := storedH ac k b u) t (w.put nd p.kd r d) (nodup_stored nd _ _ _)
    exact this
theorem storedAll_len : ∀ (ps ac : List Ent3), (PySem.storedAllH ac ps).length ≤ ac.length + ps.length
  | [], ac => Nat.le_refl _
  | p :: ps, ac => by
    have h1 := storedAll_len ps (storedH ac p.1 p.2.1 p.2.2)
    have h2 := storedH_len ac p.1 p.2.1 p.2.2
    show (PySem.storedAllH (storedH ac p.1 p.2.1 p.2.2) ps).length ≤ _
    rw [List.length_cons]; omega
def rDictT (K : PySem.W.Frag) : List V → Hp → VK → Prop := fun vs H Q => ∃ a ds es L, vs = [.ref a] ∧ Dv K H L (.tuple ds) (.ref a) ∧ ds.length ≤ sizeLine ∧ pairsD ds = some es ∧ ∀ p o ys, H p = none → IsDct (upd H p (DictO p o)) p ys → Dvk K H L (dictD es) ys → Q (.ref p) (upd H p (DictO p o))
theorem call_dictT (hc : X.calm = true) (hu : X.A.units + 64 < cLine) : CallR X (.type "dict") (rDictT X.K) := by
  rintro pins s σ H vs us Q I r ⟨a, ds, es, L, rfl, w, hz, hp, q⟩
  obtain ⟨u, rfl, rx⟩ := vals1 r
  cases rx
  have seq : ∃ its ws, PySem.PlainSeq "tuple" s.heap a (List.toArray its) ∧ Vals ws its ∧ Dvs X.K H L ds ws := by
    cases w with
    | tup n t sd =>
      obtain ⟨i0, m0, h1⟩ := t
      obtain ⟨e1, _, its, rv, o', e2, c, m, dd⟩ := (show ObjOk X.prog X.w H s.heap a (.frz _ (.tup _)) from I.hok a _ h1)
      rw [e1] at e2
      cases e2
      exact ⟨its, _, ⟨_, m, e1, rfl, rfl, dd⟩, rv, sd⟩
    | tupK t sd =>
      obtain ⟨its, m, h1, h5, h6⟩ := t
      exact ⟨its.toList, _, ⟨_, m, I.kIn a _ h1, rfl, rfl, by rw [Array.toArray_toList]⟩, h6, sd⟩
  obtain ⟨its, ws, pl, rv, sd⟩ := seq
  obtain ⟨Ts, xs, rfl, ps⟩ := prs_of I sd hp
  have lt : Ts.length = xs.length := ps.len.2
  cases vals_refs_inv rv
  have items : PySem.PairItems s.heap (List.toArray (Ts.map Value.ref)) (fun j => Ts.getD j 0) (xs.map fun x => (Value.ref x.2.1, x.2.2)) := by
    refine ⟨by simp [lt], fun j kk vv hj => ?_⟩
    rw [List.getElem?_map] at hj
    cases hx : xs[j]? with
    | none => rw [hx] at hj; cases hj
    | some x =>
      rw [hx] at hj; cases hj
      obtain ⟨T, h1, h2, _⟩ := ps.at hx
      refine ⟨?_, .inl ?_⟩
      · rw [List.getElem?_toArray, List.getElem?_map, h1]; simp [List.getD, h1]
      · simpa [List.getD, h1] using h2
  have P := PySem.PairArg.tuple (prog := X.prog) (w := X.w) a (List.toArray (Ts.map Value.ref)) (fun j => Ts.getD j 0) (xs.map fun x => (Value.ref x.2.1, x.2.2))
  have n0 : (xs.map fun x : Ent3 => (Value.ref x.2.1, x.2.2)).length = xs.length := List.length_map _
  have hz' : xs.length ≤ sizeLine := by rw [← lt]; have := sd.length; rw [List.length_map] at this; omega
  refine PySem.call_dict_pairsH (knd := tupleKind (intKind X.prog X.w)) (ps := xs) P (I.ok.hd hc) (by show X.A.units + 1 + 1 < cLine; omega) ⟨pl, items⟩ ⟨n0.symm, fun i key v h => ?_⟩ (fun h' kk x hx => ?_) (by rw [n0]; exact hz') fun h' tk dd kk => ?_
  · rw [PySem.PairRel, List.getElem?_map] at h
    cases hx : xs[i]? with
    | none => rw [hx] at h; cases h
    | some x => rw [hx] at h; cases h; exact ⟨x.1, x.2.1, rfl, rfl⟩
  · obtain ⟨j, hj⟩ := List.mem_iff_getElem?.mp hx
    obtain ⟨T, _, _, kd⟩ := ps.at hj
    obtain ⟨o, items, n, e1, e2⟩ := inv_key I kd
    exact ⟨o, items, n, kk _ _ (Nat.ne_of_lt (Heap.lt_size e1)) (by simp) e1, e2⟩
  · obtain ⟨o, es', ep, hq, h2, h3, h4, _, h5⟩ := dd
    obtain ⟨wk, _⟩ := ps.fold (acc := []) (ac := []) .nil List.nodup_nil
    refine ⟨.ref s.heap.objs.size, upd H s.heap.objs.size (DictO s.heap.objs.size o), I.laid (t' := tk) (fun b ob e => kk b ob (by simp) e) (Nat.le_refl _) (objOk_dct hq), rfl, q _ o _ (I.hok.fresh (Nat.le_refl _)) ⟨o, es', ep, upd_same, beq_eq_false_iff_ne.mpr (Ne.symm (Nat.ne_of_lt I.big)), h2, h3, h4, h5, ?_⟩ wk⟩
    have := storedAll_len xs []
    simp at this
    omega
end
section
variable {X : Cx} {W : WXm} {a : Expr} {pos p1 : Pos} {ra : Mu → Rs D}
theorem jf_dictOf (hc : X.calm = true) (hu : X.A.units + 64 < cLine) (hg : Gl X "dict") (hm : X.mg "dict" = none) (ha : JE X W a ra) (hs : isStar a = false) :
    JF X W (.Call (.Name "dict" p1) [a] [] pos) fun μ => (ra μ).bind fun x μ1 => Rs.opt (dictOfD x) μ1 := by
  refine pe_mono (pe_callTy (call_dictT hc hu) hg hm (by decide +kernel) (pa_cons ha pa_nil (starEach_cons hs _ _)) (by decide) (by decide +kernel) (starEach_cons hs _ _) rfl) fun σ H Q ⟨c, L, M, μ, S, p⟩ => ⟨c, L, M, μ, S, Pst.bindF p fun x μ1 v H1 e0 S1 k1 d1 p1 => ?_⟩
  cases hz : dictOfD x with
  | none => rw [hz] at p1; exact p1.elim
  | some z =>
    rw [hz] at p1
    unfold dictOfD at hz
    split at hz
    · rename_i ds
      split at hz
      · rename_i hl
        cases hp : pairsD ds with
        | none => rw [hp] at hz; cases hz
        | some es =>
          rw [hp] at hz; cases hz
          have d1 : Dv X.K H1 L (.tuple ds) v := d1
          obtain ⟨a0, _, rfl, _⟩ := d1.tuple
          refine ⟨a0, ds, es, L, rfl, d1, sizeOkN_of hl, hp, fun q o ys hq hd wk => ?_⟩
          exact p1 _ _ (S1.laid hq) (S1.plus hq) (Kp.laid hq) (S1.free hq) (fun b e => by rw [hq] at e; cases e) (.inr ⟨_, ys, rfl, hd, (wk.plus hq).keep (Kp.laid hq)⟩)
      · cases hz
    · cases hz
end
end Mn
set_option Elab.async false
set_option linter.all false
set_option maxRecDepth 100000
set_option autoImplicit false
namespace Mn
open PySem PySem.Spec L2 PyProof.Rows
/-! ## xs.extend(e), t[::s] -/
section
variable {X : Cx} {pins : List (Addr × Obj)} {σ : L2.St} {H : Hp} {s : Shared}
theorem inv_tupE {L : Ads} {ds : List D} {a : Addr} (I : L2.Inv X pins σ H s) (w : Dv X.K H L (.tuple ds) (.ref a)) : ∃ (its : List Value) (ws : List V) (n : Nat), s.heap.get? a = some { cls := .type "tuple", data := .seq its.toArray n } ∧ Vals ws its ∧ Dvs X.K H L ds ws ∧ ws.length ≤ sizeLine := by
  cases w with
  | tup n t sd =>
    obtain ⟨i0, m0, h1⟩ := t
    obtain ⟨e1, z, its, rv, o', e2, c, m, dd⟩ := (show ObjOk X.prog X.w H s.heap a (.frz _ (.tup _)) from I.hok a _ h1)
    rw [e1] at e2
    cases e2
    cases dd
    exact ⟨its, _, _, e1, rv, sd, z⟩
  | tupK t sd =>
    obtain ⟨its, m, h1, h5, h6⟩ := t
    refine ⟨its.toList, _, m, by rw [Array.toArray_toList]; exact I.kIn a _ h1, h6, sd, ?_⟩
    rw [h6.length, Array.length_toList]; exact h5
def rExtE (K : PySem.W.Frag) : V → List V → Hp → VK → Prop := fun x vs H Q => ∃ l b L ds d xs, x = .ref l ∧ vs = [.ref b] ∧ H l = some (.lst xs) ∧ Dv K H L d (.ref b) ∧ seqD0 d = some ds ∧ xs.length + ds.length ≤ sizeLine ∧ ∀ zs, Dvs K H L ds zs → Q .non (upd H l (.lst (xs ++ zs)))
theorem mt_extE : MtR X "list.extend" (rExtE X.K) := by
  rintro pins s σ H x vs v us Q I rx rv ⟨l, b, L, ds, d, xs, rfl, rfl, hH, w, hs, hz, q⟩
  cases rx
  obtain ⟨u, rfl, ru⟩ := rv.one
  cases ru
  obtain ⟨z, its, n, r, hl, e⟩ := I.lstM hH
  unfold seqD0 at hs
  split at hs
  · cases hs
    obtain ⟨b', zs, e0, sq, sd⟩ := w.listE
    cases e0
    obtain ⟨_, i2, n2, r2, l2, e2⟩ := inv_sqE I sq
    have sl := sd.length
    have room : its.toArray.size + i2.toArray.size ≤ sizeLine := by rw [List.size_toArray, List.size_toArray]; omega
    refine call_meets F.slot_list_extend ⟨_, e, rfl⟩ F.entry_list_extend (F.args_list_extend_2 _ _) (AutoSeq1.list_extend_list_list_0 l its.toArray n b i2.toArray n2 (by rw [notLongL room, Bool.and_false]; exact Bool.false_ne_true) (by rw [List.size_toArray]; omega) (by omega)) ⟨e, e2, ?_⟩
    exact ⟨.non, _, I.lset (its' := its ++ i2) hH e (by simp) (r.append r2) (by rw [List.length_append]; omega), rfl, q zs sd⟩
  · cases hs
    obtain ⟨i2, zs, n2, e2, r2, sd, _⟩ := inv_tupE I w
    have sl := sd.length
    have rl := r2.length
    have room : its.toArray.size + i2.toArray.size ≤ sizeLine := by rw [List.size_toArray, List.size_toArray]; omega
    refine call_meets F.slot_list_extend ⟨_, e, rfl⟩ F.entry_list_extend (F.args_list_extend_2 _ _) (AutoSeq1.list_extend_list_tuple_0 l its.toArray n b i2.toArray n2 (by rw [notLongL room, Bool.and_false]; exact Bool.false_ne_true) (by rw [List.size_toArray]; omega) (by omega)) ⟨e, e2, ?_⟩
    exact ⟨.non, _, I.lset (its' := its ++ i2) hH e (by simp) (r.append r2) (by rw [List.length_append]; omega), rfl, q zs sd⟩
  · cases hs
end
theorem seqD0_ref {K : PySem.W.Frag} {H : Hp} {L : Ads} {d : D} {ds : List D} {v : V} (w : Dv K H L d v) (h : seqD0 d = some ds) : ∃ b, v = .ref b := by
  unfold seqD0 at h
  split at h
  · obtain ⟨b, _, rfl, _⟩ := w.list; exact ⟨b, rfl⟩
  · obtain ⟨b, _, rfl, _⟩ := w.tuple; exact ⟨b, rfl⟩
  · cases h
def extR (i : Nat) (re : Mu → Rs D) : Mu → Rs D := fun μ => if ownsL i μ then (re μ).bind fun v μ1 => match extE i v μ1 with
    | some μ2 => .ok .none μ2
    | none => .st
  else .st
section
variable {X : Cx} {W : WXm} {ios : List Nat} {e a : Expr} {pos apos cpos p1 : Pos} {i : Nat} {x : Str} {re ra : Mu → Rs D}
theorem je_ext (hN : X.N[i]? = some x) (hv : Vis X.env.scope x) (hd : (x == ("__debug__" : Str)) = false) (hcd : (x == ("__classdict__" : Str)) = false) (he : JE X W e re) (hs : isStar e = false) (hline : (apos.endLine == cpos.line) = true) :
    JE X W (.Call (.Attribute (.Name x p1) "extend" apos) [e] [] cpos) (extR i re) := by
  refine pe_mono (pe_meth (i := i) PySem.F.slot_list_extend PySem.F.type_list_extend mt_extE hN hv hd hcd (ja_cons he ja_nil hs) (by simp [hs]) (by simp) hline) fun σ H Q ⟨c, L, M, μ, S, p⟩ => ?_
  unfold extR at p
  split at p
  · rename_i h0
    obtain ⟨xs0, h0⟩ := ownsL_of h0
    obtain ⟨a, vs, _, ea, _, eh, _⟩ := S.ownL h0
    refine ⟨.ref a, ea, .inl ⟨rfl, vs, .inl (.inl eh)⟩, c, L, M, μ, S, one_arg_tr p fun d μ1 v H1 S1 w1 p' => ?_⟩
    unfold extE at p'
    split at p'
    · rename_i μ2 e2
      split at e2
      · rename_i xs ys h1 hy
        split at e2
        · rename_i hz
          cases e2
          obtain ⟨a', vs', h2, ea', hM, eh', dv⟩ := S1.ownL h1
          have : a' = a := by rw [ea] at ea'; cases ea'; rfl
          subst this
          obtain ⟨b, rfl⟩ := seqD0_ref w1 hy
          refine ⟨a', b, L, ys, d, vs', rfl, rfl, eh', w1, hy, by have := sizeOkN_of hz; rw [← dv.length]; omega, fun zs sd => ?_⟩
          obtain ⟨S2, k2⟩ := S1.putL h2 ea hM (dv.append sd)
          exact p' _ _ S2 k2 .non
        · cases e2
      · cases e2
    · exact p'.elim
  · exact p.elim
theorem js_ext {st : Stmt} {r : Mu → Rs Fl} (h : JS X W ios st fun μ => (extR i re μ).bind fun _ μ1 => .ok .nx μ1) : JS X W ios st fun μ => if ownsL i μ then (re μ).bind fun v μ1 => Rs.nx (extE i v μ1) else .st := by
  rw [show (fun μ => if ownsL i μ then (re μ).bind fun v μ1 => Rs.nx (extE i v μ1) else .st) = fun μ => (extR i re μ).bind fun _ μ1 => .ok .nx μ1 from funext fun μ => by
    unfold extR
    split
    · cases re μ with
      | st => rfl
      | ex _ _ => rfl
      | ok v μ1 =>
        show Rs.nx (extE i v μ1) = (match extE i v μ1 with | some μ2 => Rs.ok PyData.none μ2 | none => .st).bind fun _ μ1 => .ok .nx μ1
        cases extE i v μ1 <;> rfl
    · rfl]
  exact h
end
/-! steps -/
theorem evens_len {α : Type} : ∀ l : List α, (evens l).length = (l.length + 1) / 2
  | [] => by simp [evens]
  | [_] => by simp [evens]
  | _ :: _ :: r => by
    show (evens r).length + 1 = _
    rw [evens_len r]; simp only [List.length_cons]; omega
theorem evens_pick : ∀ (l : List Value), ((List.range ((l.length + 1) / 2)).filterMap fun m => l[m * 2]?) = evens l
  | [] => by simp [evens]
  | [x] => by simp [evens, List.range_succ]
  | x :: y :: r => by
    have e : ((x :: y :: r).length + 1) / 2 = (r.length + 1) / 2 + 1 := by simp only [List.length_cons]; omega
    rw [e, List.range_succ_eq_map, List.filterMap_cons, List.filterMap_map]
    show x :: _ = x :: evens r
    congr 1
    rw [← evens_pick r]
    congr 1
    funext m
    show (x :: y :: r)[(m + 1) * 2]? = _
    rw [show (m + 1) * 2 = m * 2 + 1 + 1 by omega]
    simp
theorem filterMap_some {α β : Type} {f : α → Option β} {g : α → β} : ∀ (l : List α), (∀ a ∈ l, f a = some (g a)) → l.filterMap f = l.map g
  | [], _ => rfl
  | a :: l, h => by rw [List.filterMap_cons, h a List.mem_cons_self, filterMap_some l fun b hb => h b (List.mem_cons_of_mem _ hb)]; rfl
theorem rev_pick (l : List Value) : ((List.range l.length).filterMap fun (m : Nat) => l[((l.length : Int) - 1 + (m : Int) * -1).toNat]?) = l.reverse := by
  have all : ((List.range l.length).filterMap fun (m : Nat) => l[((l.length : Int) - 1 + (m : Int) * -1).toNat]?) = (List.range l.length).map fun m => l.getD (l.length - 1 - m) .none := by
    refine filterMap_some _ fun m hm => ?_
    have hm := List.mem_range.mp hm
    have : ((l.length : Int) - 1 + (m : Int) * -1).toNat = l.length - 1 - m := by omega
    rw [this]
    have h : l.length - 1 - m < l.length := by omega
    simp [List.getD, h]
  rw [all]
  apply List.ext_getElem?
  intro j
  rw [List.getElem?_map]
  by_cases hj : j < l.length
  · rw [List.getElem?_range hj, List.getElem?_reverse hj]
    have h : l.length - 1 - j < l.length := by omega
    simp [List.getD, h]
  · rw [List.getElem?_eq_none (by simpa using hj), List.getElem?_eq_none (by simpa using hj)]
    rfl
theorem Dvs.evens {K : PySem.W.Frag} {H : Hp} {L : Ads} : ∀ {ds : List D} {vs : List V}, Dvs K H L ds vs → Dvs K H L (Mn.evens ds) (Mn.evens vs)
  | _, _, .nil => .nil
  | _, _, .cons x .nil => .cons x .nil
  | _, _, .cons x (.cons _ t) => .cons x (Dvs.evens t)
theorem vals_evens : ∀ {xs : List V} {us : List Value}, Vals xs us → Vals (evens xs) (evens us)
  | _, _, .nil => .nil
  | _, _, .cons x .nil => .cons x .nil
  | _, _, .cons x (.cons _ t) => .cons x (vals_evens t)
/-- what t[::c] picks -/
def pickS (c : Int) (l : List Value) : List Value := if c = 2 then evens l else l.reverse
section
variable {prog : Program} {w : World} {A : Around} {E : Value → Shared → Prop} {s : Shared}
theorem applied_step {sl : Addr} {c : Int} {t : Tok} {n : Nat} {Q : Int × Int × Nat → Shared → Prop} (hs : s.heap.IsSliceOf sl .none .none (.int c t)) (hc : c = 2 ∨ c = -1)
    (h : Q (if c = 2 then 0 else (n : Int) - 1, c, if c = 2 then (n + 1) / 2 else n) s) : wpAny (model prog w) A (Builtin.Slice.sliceApplied (.ref sl) (pure (n : Int))) Q E s := by
  obtain ⟨os, hos, hcs, hds⟩ := id hs
  unfold Builtin.Slice.sliceApplied Builtin.Slice.sliceFields
  refine wpAny_bind (wpAny_bind (wpAny_field hos hds (x := .none) rfl (wpAny_bind (wpAny_field hos hds (x := .none) rfl (wpAny_bind (wpAny_field hos hds (x := .int c t) rfl (wpAny_pure ?_)))))))
  refine wpAny_bind (slicePart_int ?_)
  have c0 : ¬ (((some c).getD 1 == 0) = true) := by rcases hc with rfl | rfl <;> decide
  show wpAny _ _ (if ((some c).getD 1 == 0) = true then _ else _) _ _ s
  rw [if_neg c0]
  refine wpAny_bind (slicePart_none (wpAny_bind (slicePart_none (wpAny_bind (wpAny_pure ?_)))))
  show wpAny _ _ (match Builtin.Slice.sliceAdjust none none c (n : Int) with | (lo, hi) => pure (lo, c, Builtin.Slice.slicePlaces lo hi c)) _ _ s
  rcases hc with rfl | rfl
  · have e : Builtin.Slice.slicePlaces 0 (n : Int) 2 = (n + 1) / 2 := by
      unfold Builtin.Slice.slicePlaces
      rw [if_pos (by decide)]
      split <;> omega
    show wpAny _ _ (pure ((0 : Int), (2 : Int), Builtin.Slice.slicePlaces 0 (n : Int) 2)) _ _ s
    rw [e]
    exact wpAny_pure h
  · have e : Builtin.Slice.slicePlaces ((n : Int) - 1) (-1) (-1) = n := by
      unfold Builtin.Slice.slicePlaces
      rw [if_neg (by decide), show -(-1 : Int) = 1 from rfl, Int.ediv_one]
      split <;> omega
    show wpAny _ _ (pure ((n : Int) - 1, (-1 : Int), Builtin.Slice.slicePlaces ((n : Int) - 1) (-1) (-1))) _ _ s
    rw [e]
    exact wpAny_pure h
theorem pickS_at (c : Int) (hc : c = 2 ∨ c = -1) (l : List Value) : ((List.range (if c = 2 then (l.length + 1) / 2 else l.length)).filterMap fun (m : Nat) => l.toArray[((if c = 2 then 0 else (l.length : Int) - 1) + (m : Int) * c).toNat]?) = pickS c l := by
  rcases hc with rfl | rfl
  · rw [if_pos rfl, if_pos rfl, pickS, if_pos rfl, ← evens_pick l]
    congr 1
    funext m
    rw [List.getElem?_toArray, show ((0 : Int) + (m : Int) * 2).toNat = m * 2 by omega]
  · rw [if_neg (by decide), if_neg (by decide), pickS, if_neg (by decide), ← rev_pick l]
    congr 1
    funext m
    rw [List.getElem?_toArray]
theorem getItem_step {t sl : Addr} {its : List Value} {c : Int} {tk : Tok} {Q : Value → Shared → Prop} (ht : IsTup s.heap t its.toArray) (hs : s.heap.IsSliceOf sl .none .none (.int c tk)) (hc : c = 2 ∨ c = -1)
    (h : Q (.ref s.heap.objs.size) { s with heap := s.heap.push { cls := .type "tuple", data := .seq (pickS c its).toArray } }) (hsz : its.length ≤ sizeLine) : wpAny (model prog w) A (getItem (.ref t) (.ref sl)) Q E s := by
  have fit : sizeOk (.seq (pickS c its).toArray) := by
    show (pickS c its).toArray.size ≤ sizeLine
    rw [List.size_toArray]
    unfold pickS
    split
    · rw [evens_len]; omega
    · rw [List.length_reverse]; exact hsz
  obtain ⟨os, hos, hcs, hds⟩ := id hs
  have hTs : s.TypeIs (.ref sl) "slice" := ⟨os, hos, hcs⟩
  unfold getItem
  try with_reducible refine wpAny_holding ?_
  refine wpAny_bind (wpAny_sequenceKey ht.typeIs (by decide) ?_)
  refine wpAny_bind (wpAny_callSpecial?_slot (name := Str.ofString "__getitem__") ht.typeIs PyProof.Rows.slot_tuple_getitem (wpAny_call_entry PyProof.Rows.slot_tuple_getitem ht.typeIs entry_tuple_getitem ?_ (args_tuple_getitem _ _)))
  show wpAny _ _ (Builtin.Tuple.tupleItemsOf (.ref t) >>= _) _ _ s
  refine wpAny_bind (tupleItemsOf_ ht (wpAny_bind (wpAny_typeOf hTs ?_)))
  rw [if_pos (by decide)]
  have len : its.toArray.size = its.length := by rw [List.size_toArray]
  rw [len]
  refine wpAny_bind (applied_step hs hc ?_)
  have no : ¬ (((if c = 2 then (0 : Int) else (its.length : Int) - 1) == 0 && c == 1 && (if c = 2 then (its.length + 1) / 2 else its.length) == its.length) = true) := by
    rcases hc with rfl | rfl <;> simp
  show wpAny _ _ (if ((if c = 2 then (0 : Int) else (its.length : Int) - 1) == 0 && c == 1 && (if c = 2 then (its.length + 1) / 2 else its.length) == its.length) = true then _ else _) _ _ s
  rw [if_neg no, pickS_at c hc its]
  first
    | exact wpAny_bind (m := Builtin.Tuple.tupleExact _) (wpAny_newObj_type (wpAny_pure ⟨_, rfl, wpAny_pure h⟩) fit)
    | exact wpAny_bind (m := Builtin.Tuple.tupleExact _) (wpAny_newObj_type (wpAny_bind (wpAny_pure (wpAny_pure ⟨_, rfl, wpAny_pure h⟩))) fit)
    | exact wpAny_bind (wpAny_bind (m := Builtin.Tuple.tupleExact _) (wpAny_newObj_type (wpAny_pure (wpAny_pure ⟨_, rfl, wpAny_pure h⟩)) fit))
    | exact wpAny_bind (wpAny_bind (m := Builtin.Tuple.tupleExact _) (wpAny_newObj_type (wpAny_pure ⟨_, rfl, wpAny_pure h⟩) fit))
end
def pickV (c : Int) (l : List V) : List V := if c = 2 then evens l else l.reverse
section
variable {X : Cx} {W : WXm} {a st : Expr} {pos p3 : Pos} {c : Int} {te : TE} {ra : Mu → Rs D}
def tStep (K : PySem.W.Frag) (c : Int) (te : TE) : TE := fun σ H Q => te σ H fun x H1 => ∃ b xs, x = .ref b ∧ SqT K H1 b xs ∧ NewT H1 (pickV c xs) Q
theorem pe_step (he : PE X a te) (hs : PE X st (tC (.int c))) (hc : c = 2 ∨ c = -1) : PE X (.Subscript a (.Slice none none (some st) p3) pos) (tStep X.K c te) := by
  refine ⟨fun pins s σ H Q I h => Subscript_ (thn (he.run pins s σ H _ I h) fun v s1 ⟨x, H1, I1, r1, b, xs, ex, sq, q⟩ => ?_)⟩
  subst ex
  cases r1
  refine wpAny_Slice ?_
  rw [evalPart_none]
  refine wpAny_pure (wpAny_pure ?_)
  rw [evalPart_some]
  refine thn (hs.run pins s1 σ H1 (fun y H2 => y = .int c ∧ H2 = H1) I1 ⟨rfl, rfl⟩) fun vs s2 ⟨y, H2, I2, ry, ey, eh⟩ => ?_
  subst ey eh
  obtain ⟨tk, rfl⟩ := ry
  have I3 : L2.Inv X pins σ H2 { s2 with heap := s2.heap.push { cls := .type "slice", data := .fields #[.none, .none, .int c tk] } } := I2.kept (t' := s2.toks) fun _ _ k => Heap.get?_push_of_some _ k
  obtain ⟨its, r, ht, hz⟩ := I3.tuple sq
  refine tail_any (ops := [.ref b, .ref s2.heap.objs.size]) ht.typeIs PyProof.Rows.slot_tuple_getitem.lookup ?_ (by with_unfolding_all rfl)
  refine getItem_step ht (Heap.IsSliceOf.new _ _ _ _) hc (ep_tup I3 (its := pickS c its) (ys := pickV c xs) ?_ ?_ q) (by rw [← r.length]; exact hz)
  · unfold pickV pickS
    split
    · exact vals_evens r
    · exact r.reverse
  · unfold pickV
    split
    · rw [evens_len]; omega
    · rw [List.length_reverse]; exact hz
theorem je_step (ha : JE X W a ra) (hs : PE X st (tC (.int c))) (hc : c = 2 ∨ c = -1) : JE X W (.Subscript a (.Slice none none (some st) p3) pos) fun μ => (ra μ).bind fun x μ1 => Rs.opt (slStD c x) μ1 := by
  refine pe_mono (pe_step ha hs hc) fun σ H Q ⟨cc, L, M, μ, S, p⟩ => ⟨cc, L, M, μ, S, p.bind fun x μ1 v H1 S1 k1 d1 p1 => ?_⟩
  obtain ⟨z, e, q⟩ := p1.opt
  unfold slStD at e
  split at e
  · rename_i xs
    have d1 : Dv X.K H1 L (.tuple xs) v := d1
    obtain ⟨b, vs, rfl, sq, wa⟩ := d1.tuple
    refine ⟨b, vs, rfl, sq, fun p ti tn hp => ?_⟩
    rcases hc with rfl | rfl
    · rw [if_pos rfl] at e
      cases e
      obtain ⟨h1, h2, h3⟩ := S1.newTup ti tn wa.evens hp
      exact q _ _ h1 h2 h3
    · rw [if_neg (by decide), if_pos rfl] at e
      cases e
      obtain ⟨h1, h2, h3⟩ := S1.newTup ti tn wa.rev hp
      exact q _ _ h1 h2 h3
  · cases e
theorem pe_neg1 {k : Nat} {p1 p2 : Pos} : PE X (.UnaryOp .USub (.Constant (.int 1) k p1) p2) (tC (.int (-1))) := pe_mono (pe_un un_neg pe_int) fun σ H Q h => ⟨1, rfl, h⟩
end
end Mn
set_option Elab.async false
set_option linter.all false
set_option maxRecDepth 100000
set_option autoImplicit false
namespace Mn
open PySem PySem.Spec L2
/-! ## methods of texts -/
def noCall0 : Expr → Bool
  | .Call (.Name _ _) [] [] _ => false
  | _ => true
theorem base_ok {o : Expr} {a : Str} {env : Env} {w : Sem Value} (h : noCall0 o = true) : attributeBase o a env w = w := by
  unfold attributeBase
  split
  · simp [noCall0] at h
  · rfl
section
variable {X : Cx} {W : WXm} {o a : Expr} {apos pos : Pos} {ro ra : Mu → Rs D}
theorem strsOf_some : ∀ {ds : List D} {ys : List Str}, strsOf ds = some ys → ds = ys.map PyData.str
  | [], ys, h => by cases h; rfl
  | .str b :: r, ys, h => by
    unfold strsOf at h
    cases q : strsOf r with
    | none => rw [q] at h; cases h
    | some cs => rw [q] at h; cases h; rw [strsOf_some q]; rfl
  | .none :: _, _, h | .bool _ :: _, _, h | .int _ :: _, _, h | .list _ :: _, _, h | .tuple _ :: _, _, h | .dict _ :: _, _, h => by cases h
theorem Dvs.strs {K : PySem.W.Frag} {H : Hp} {L : Ads} {vs : List V} : ∀ {ns : List Str}, Dvs K H L (ns.map PyData.str) vs → vs = ns.map V.str
  | [], .nil => rfl
  | n :: ns, .cons x t => by cases x; rw [Dvs.strs t]; rfl
theorem Dvs.ofStrs {K : PySem.W.Frag} {H : Hp} {L : Ads} : ∀ (ns : List Str), Dvs K H L (ns.map PyData.str) (ns.map V.str)
  | [] => .nil
  | n :: ns => .cons (.str n) (Dvs.ofStrs ns)
theorem isStrD_of {d : D} (h : isStrD d = true) : ∃ x, d = .str x := by
  unfold isStrD at h
  split at h
  · exact ⟨_, rfl⟩
  · cases h
theorem star1 {e : Expr} {env : Env} (h : isStar e = false) : starEach [e] env = [(false, eval e env)] := starEach_cons h _ _
/-- s.join(p) -/
theorem je_jn (ho : JE X W o ro) (ha : JP X W a ra) (hs : isStar a = false) (hn : noCall0 o = true) (hl : (apos.endLine == pos.line) = true) :
    JE X W (.Call (.Attribute o "join" apos) [a] [] pos) fun μ => (ro μ).bind fun x μ1 => if isStrD x then (ra μ1).bind fun y μ2 => Rs.opt (joinD x y) μ2 else .st := by
  refine pe_mono (pe_join ho ha (star1 hs) (base_ok hn) hl) fun σ H Q ⟨c, L, M, μ, S, p⟩ => ⟨c, L, M, μ, S, p.bind fun x μ1 v H1 S1 k1 d1 p1 => ?_⟩
  split at p1
  · rename_i h1
    obtain ⟨x, rfl⟩ := isStrD_of h1
    cases d1
    refine ⟨⟨x, rfl⟩, c, L, M, μ1, S1, p1.bind fun y μ2 w H2 S2 k2 d2 p2 => ?_⟩
    obtain ⟨z, e, q⟩ := p2.opt
    unfold joinD at e
    split at e
    · rename_i a' xs e' 
      cases e'
      split at e
      · rename_i ys hy
        split at e
        · rename_i hok
          cases e
          have d2 : Dw X.K H2 L (.list xs) w := d2
          obtain ⟨p, vs, rfl, sq, wv⟩ := d2.lst
          rw [strsOf_some hy] at wv
          rw [wv.strs] at sq
          exact ⟨_, p, ys, rfl, rfl, .inl sq, of_decide_eq_true hok, q _ _ S2 .refl (.str _)⟩
        · cases e
      · cases e
    · cases e
  · exact p1.elim
/-- s.find(t) -/
theorem je_find (ho : JE X W o ro) (ha : JE X W a ra) (hs : isStar a = false) (hn : noCall0 o = true) (hl : (apos.endLine == pos.line) = true) :
    JE X W (.Call (.Attribute o "find" apos) [a] [] pos) fun μ => (ro μ).bind fun x μ1 => if isStrD x then (ra μ1).bind fun y μ2 => Rs.opt (findD x y) μ2 else .st := by
  refine pe_mono (pe_m1 F.slot_str_find F.type_str_find mt_find ho ha (star1 hs) (base_ok hn) hl) fun σ H Q ⟨c, L, M, μ, S, p⟩ => ⟨c, L, M, μ, S, p.bind fun x μ1 v H1 S1 k1 d1 p1 => ?_⟩
  split at p1
  · rename_i h1
    obtain ⟨x, rfl⟩ := isStrD_of h1
    cases d1
    refine ⟨⟨x, rfl⟩, c, L, M, μ1, S1, p1.bind fun y μ2 w H2 S2 k2 d2 p2 => ?_⟩
    obtain ⟨z, e, q⟩ := p2.opt
    unfold findD at e
    split at e
    · rename_i a' b' e'
      cases e'
      cases e
      cases d2
      exact ⟨_, _, rfl, rfl, q _ _ S2 .refl (.int _)⟩
    · cases e
  · exact p1.elim
/-- s.upper() -/
theorem je_upper (ho : JE X W o ro) (hn : noCall0 o = true) (hl : (apos.endLine == pos.line) = true) :
    JE X W (.Call (.Attribute o "upper" apos) [] [] pos) fun μ => (ro μ).bind fun x μ1 => Rs.opt (upperD x) μ1 := by
  refine pe_mono (pe_upper ho (base_ok hn) hl) fun σ H Q ⟨c, L, M, μ, S, p⟩ => ⟨c, L, M, μ, S, p.bind fun x μ1 v H1 S1 k1 d1 p1 => ?_⟩
  obtain ⟨z, e, q⟩ := p1.opt
  unfold upperD at e
  split at e
  · split at e
    · rename_i hz
      cases e
      cases d1
      exact ⟨⟨_, rfl⟩, _, rfl, rfl, of_decide_eq_true hz, q _ _ S1 .refl (.str _)⟩
    · cases e
  · cases e
/-- s.split(t) -/
theorem jf_split (ho : JE X W o ro) (ha : JE X W a ra) (hs : isStar a = false) (hn : noCall0 o = true) (hl : (apos.endLine == pos.line) = true) :
    JF X W (.Call (.Attribute o "split" apos) [a] [] pos) fun μ => (ro μ).bind fun x μ1 => if isStrD x then (ra μ1).bind fun y μ2 => Rs.opt (splitD x y) μ2 else .st := by
  refine pe_mono (pe_split ho ha (star1 hs) (base_ok hn) hl) fun σ H Q ⟨c, L, M, μ, S, p⟩ => ⟨c, L, M, μ, S, Pst.bindF p fun x μ1 v H1 e0 S1 k1 d1 p1 => ?_⟩
  split at p1
  · rename_i h1
    obtain ⟨x, rfl⟩ := isStrD_of h1
    have d1 : Dv X.K H1 L (.str x) v := d1
    cases d1
    refine ⟨⟨x, rfl⟩, c, L, M, μ1, S1, Pst.bindF p1 fun y μ2 w H2 e1 S2 k2 d2 p2 => ?_⟩
    cases hz : splitD (.str x) y with
    | none => rw [hz] at p2; exact p2.elim
    | some z =>
      rw [hz] at p2
      unfold splitD at hz
      split at hz
      · rename_i a' b' e'
        cases e'
        split at hz
        · rename_i hok
          simp only [Bool.and_eq_true, Bool.not_eq_true'] at hok
          cases hz
          have d2 : Dv X.K H2 L (.str b') w := d2
          cases d2
          refine ⟨_, _, rfl, rfl, hok.1, sizeOkN_of hok.2, fun p hp => ?_⟩
          obtain ⟨n1, n2, n3, n4, n5, n6⟩ := S2.newF (Dvs.ofStrs (Txt.split x b')) hp
          exact p2 _ _ n1 n2 n3 n4 n5 n6
        · cases hz
      · cases hz
  · exact p1.elim
end
end Mn
set_option Elab.async false
set_option linter.all false
set_option maxRecDepth 100000
set_option autoImplicit false
set_option maxHeartbeats 1000000
namespace Mn
open PySem PySem.Spec L2
/-! ## exceptions of the program's own classes, without fields -/
/-- a class by its name -/
structure NmV (mg : Str → Option Value) (y : Str) (cv : Value) : Prop where
  at_ : mg y = some cv ∨ (mg y = none ∧ bootBuiltins y = some cv ∧ y ≠ "__name__")
  sh : (∃ a, cv = .ref a) ∨ ∃ n, cv = .type n
def vOf : Value → V
  | .ref a => .ref a
  | .type n => .ty n
  | _ => .non
theorem NmV.rel {mg : Str → Option Value} {y : Str} {cv : Value} (h : NmV mg y cv) : RelV (vOf cv) cv ∧ ∀ u, RelV (vOf cv) u → u = cv := by
  rcases h.sh with ⟨a, rfl⟩ | ⟨n, rfl⟩
  · exact ⟨rfl, fun u h => h⟩
  · exact ⟨rfl, fun u h => h⟩
theorem pe_nmv {X : Cx} {y : Str} {cv : Value} {pos : Pos} (h : NmV X.mg y cv) (hg : Gl X y) (hd : (y == ("__debug__" : Str)) = false) : PE X (.Name y pos) (tC (vOf cv)) := by
  rcases h.at_ with e | ⟨e1, e2, e3⟩
  · exact pe_glob hg e h.rel.1 hd
  · exact pe_bltn hg e1 e2 h.rel.1 e3 hd
/-- an exception's own dict stands -/
def DOk (d : Option Addr) (H : Hp) : Prop := match d with
  | none => True
  | some dd => ∃ fs, H dd = some (.xd fs)
theorem DOk.more {d : Option Addr} {H H' : Hp} (h : DOk d H) (k : ∀ c o, H c = some o → H' c = some o) : DOk d H' := by
  cases d with
  | none => trivial
  | some dd => obtain ⟨fs, e⟩ := h; exact ⟨fs, k _ _ e⟩
theorem inst_at {X : Cx} {a D : Addr} {oe : Obj} {d : Option Addr} {pn pins : List (Addr × Obj)} {σ : L2.St} {H : Hp} {s : Shared} (I : Inv (X.suite a ((a, oe) :: pn)) pins σ H s) (hz : Zc (.ref D) d oe) (hf : ∃ vs, oe.data = .fields vs) (hd : DOk d H) : ∃ od, PySem.W.InstAt s.heap a oe D od := by
  obtain ⟨hget, _⟩ := I.pin (a, oe) (List.mem_append.mpr (.inl List.mem_cons_self))
  obtain ⟨fv, hv⟩ := hf
  cases d with
  | none => exact ⟨none, hget, hz.1, by unfold PySem.W.notCls; rw [hv] <;> rfl, by rw [hz.2]; trivial⟩
  | some dd =>
    obtain ⟨fs, ea⟩ := hd
    have hx : ObjOk X.prog X.w H s.heap dd (.xd fs) := I.hok dd _ ea
    obtain ⟨mA, hns, hr⟩ := hx
    obtain ⟨od, ho, hl⟩ := lookIn_ns hns
    exact ⟨some od, hget, hz.1, by unfold PySem.W.notCls; rw [hv] <;> rfl, by rw [hz.2]; exact ho⟩
theorem kit_x {K : PySem.W.Frag} {D x : Addr} {ox : Obj} {od : Option Obj} (C : ExcC K D) : PySem.W.KitX K (.ref x) (.ref D) (fun h => PySem.W.InstAt h x ox D od) :=
  PySem.W.kitx_exc (by obtain ⟨cd, hc, _⟩ := PySem.W.any_some C.hd; rw [hc]; rfl) C.hg C.hk C.hs C.ha C.hn C.ht C.hm
/-- isinstance(e, c) -/
def rIsEd (K : PySem.W.Frag) (D a : Addr) (d : Option Addr) : List V → Hp → VK → Prop := fun xs H Q => DOk d H ∧ ∃ (c : V) (cv : Value) (b : Bool), xs = [.ref a, c] ∧ (∀ u, RelV c u → u = cv) ∧ PySem.W.kitOne K (.ref D) cv = some b ∧ Q (.bl b) H
theorem call_isEd {X : Cx} {a D : Addr} {oe : Obj} {d : Option Addr} {pn : List (Addr × Obj)} (C : ExcC X.K D) (hz : Zc (.ref D) d oe) (hf : ∃ vs, oe.data = .fields vs) : CallR (X.suite a ((a, oe) :: pn)) (.builtin "isinstance") (rIsEd X.K D a d) := by
  rintro pins s σ H xs us Q I r ⟨hd, c, cv, b, rfl, hcv, e, q⟩
  cases r with
  | cons rx rr =>
    cases rr with
    | cons rt rr =>
      cases rr
      cases rx
      have ec := hcv _ rt
      subst ec
      obtain ⟨od, J⟩ := inst_at I hz hf hd
      exact PySem.W.kia_one (kit_x C) I.kIn J e (fun z => nomatch z) fun tk => ⟨.bl b, H, I.kept (t' := tk) fun _ _ z => z, rfl, q⟩
/-- isinstance(e, (c, ..)), the tuple made here -/
def rIsEt (K : PySem.W.Frag) (D a : Addr) (d : Option Addr) : List V → Hp → VK → Prop := fun xs H Q => DOk d H ∧ ∃ (tp : Addr) (vs : List V) (cs : List Value) (b : Bool), xs = [.ref a, .ref tp] ∧ SqT K H tp vs ∧ (∀ us, Vals vs us → us = cs) ∧ PySem.W.kitAny K (.ref D) cs = some b ∧ Q (.bl b) H
theorem call_isEt {X : Cx} {a D : Addr} {oe : Obj} {d : Option Addr} {pn : List (Addr × Obj)} (C : ExcC X.K D) (hz : Zc (.ref D) d oe) (hf : ∃ vs, oe.data = .fields vs) : CallR (X.suite a ((a, oe) :: pn)) (.builtin "isinstance") (rIsEt X.K D a d) := by
  rintro pins s σ H xs us Q I r ⟨hd, tp, vs, cs, b, rfl, sq, hcs, e, q⟩
  cases r with
  | cons rx rr =>
    cases rr with
    | cons rt rr =>
      cases rr
      cases rx
      cases rt
      obtain ⟨od, J⟩ := inst_at I hz hf hd
      obtain ⟨its, rv, ⟨⟨cls, dd, data, sl⟩, ho, hc, n, hd⟩, _⟩ := I.tuple sq
      cases (show cls = .type "tuple" from hc)
      cases (show data = .seq its.toArray n from hd)
      have ei := hcs its rv
      subst ei
      exact PySem.W.kia_tup (kit_x C) I.kIn J ho e (fun z => nomatch z) fun tk => ⟨.bl b, H, I.kept (t' := tk) fun _ _ z => z, rfl, q⟩
/-- a test of the caught exception; new objects may come -/
def tIsB (i : Nat) (a : Addr) (d : Option Addr) (b : Bool) : TT := fun σ H Q => σ[i]? = some (some (.ref a)) ∧ DOk d H ∧ ∀ H', (∀ c o, H c = some o → H' c = some o) → Q b H'
/-- what is known of a class, as seen from another one: whether it is under it -/
def SupOk (K : PySem.W.Frag) (mg : Str → Option Value) (D : Addr) (sups : List Str) (y : Str) : Prop := ∃ cv, NmV mg y cv ∧ PySem.W.kitOne K (.ref D) cv = some (decide (y ∈ sups))
def htB (sups : List Str) : Ht → Bool
  | .is1 y => decide (y ∈ sups)
  | .isn ys => !(ys.any fun y => decide (y ∈ sups))
def htNames : Ht → List Str
  | .is1 y => [y]
  | .isn ys => ys
/-! the texts of the tests -/
def isNm : List Str → List Expr → Bool
  | [], [] => true
  | y :: ys, .Name z _ :: es => decide (z = y) && isNm ys es
  | _, _ => false
def chkHt (n : Str) : Ht → Expr → Bool
  | .is1 y, .Call (.Name f _) [.Name e _, .Name z _] [] _ => decide (f = "isinstance") && decide (e = n) && decide (z = y)
  | .isn ys, .UnaryOp .Not (.Call (.Name f _) [.Name e _, .Tuple es _ _] [] _) _ => decide (f = "isinstance") && decide (e = n) && isNm ys es && decide (1 ≤ ys.length) && decide (ys.length ≤ 100)
  | _, _ => false
def chkHts (n : Str) : List Ht → List Expr → Bool
  | [], [] => true
  | t :: ts, e :: es => chkHt n t e && chkHts n ts es
  | _, _ => false
section
variable {X : Cx} {a D : Addr} {oe : Obj} {dx : Option Addr} {pn : List (Addr × Obj)} {n : Str} {i : Nat} {sups : List Str}
/-- what is needed for the tests -/
structure HtOk (X : Cx) (D : Addr) (sups : List Str) (n : Str) (i : Nat) (ys : List Str) : Prop where
  exc : ExcC X.K D
  nN : X.N[i]? = some n
  vis : Vis X.env.scope n
  d1 : (n == ("__debug__" : Str)) = false
  d2 : (n == ("__classdict__" : Str)) = false
  gi : Gl X "isinstance"
  mi : X.mg "isinstance" = none
  sup : ∀ y ∈ ys, SupOk X.K X.mg D sups y
  gl : ∀ y ∈ ys, Gl X y ∧ (y == ("__debug__" : Str)) = false
theorem pt_is1 {y : Str} {f e z : Str} {p1 p2 p3 pos : Pos} (h : HtOk X D sups n i [y]) (hz : Zc (.ref D) dx oe) (hf : ∃ vs, oe.data = .fields vs) (hf1 : f = "isinstance") (he : e = n) (hzy : z = y) :
    PT (X.suite a ((a, oe) :: pn)) (.Call (.Name f p1) [.Name e p2, .Name z p3] [] pos) (tIsB i a dx (decide (y ∈ sups))) := by
  subst hf1 he hzy
  obtain ⟨cv, nm, k⟩ := h.sup z (by simp)
  obtain ⟨g1, g2⟩ := h.gl z (by simp)
  have nm' : NmV (X.suite a ((a, oe) :: pn)).mg z cv := nm
  have pv : PE (X.suite a ((a, oe) :: pn)) (.Name e p2) (tVar i) := pe_var (X := X.suite a ((a, oe) :: pn)) h.nN h.vis h.d1 h.d2
  have pc : PE (X.suite a ((a, oe) :: pn)) (.Name z p3) (tC (vOf cv)) := pe_nmv (X := X.suite a ((a, oe) :: pn)) nm' g1 g2
  have pe := pe_callB (X := X.suite a ((a, oe) :: pn)) (p := p1) (pos := pos) (call_isEd (pn := pn) h.exc hz hf) (show Gl (X.suite a ((a, oe) :: pn)) "isinstance" from h.gi) h.mi (by decide +kernel) (pa_cons pv (pa_cons pc pa_nil (starEach_cons rfl _ _)) (starEach_cons rfl _ _)) (by decide) (by decide) (starEach_cons rfl _ _) (backTo_plain rfl)
  refine pt_mono (pt_val pe fun _ => rfl) fun σ H Q ⟨e1, dk, q⟩ => ?_
  exact ⟨.ref a, e1, dk, vOf cv, cv, decide (z ∈ sups), rfl, nm.rel.2, k, decide (z ∈ sups), rfl, q H fun _ _ h => h⟩
theorem pa_names (hz : Zc (.ref D) dx oe) : ∀ (ys : List Str) (es : List Expr), isNm ys es = true → (∀ y ∈ ys, SupOk X.K X.mg D sups y) → (∀ y ∈ ys, Gl X y ∧ (y == ("__debug__" : Str)) = false) →
    ∃ cs : List Value, PA (X.suite a ((a, oe) :: pn)) es (fun σ H Q => Q (cs.map vOf) H) ∧ PySem.W.kitAny X.K (.ref D) cs = some (ys.any fun y => decide (y ∈ sups)) ∧ (∀ us, Vals (cs.map vOf) us → us = cs) ∧ cs.length = ys.length
  | [], [], _, _, _ => ⟨[], pa_nil, rfl, fun us r => by cases r; rfl, rfl⟩
  | y :: ys, e :: es, h, hs, hg => by
    cases e with
    | Name z p =>
      have hh : (decide (z = y) && isNm ys es) = true := h
      rw [Bool.and_eq_true, decide_eq_true_eq] at hh
      obtain ⟨hzy, h5⟩ := hh
      subst hzy
      obtain ⟨cs, p1, p2, p3, p4⟩ := pa_names hz ys es h5 (fun y hy => hs y (List.mem_cons_of_mem _ hy)) fun y hy => hg y (List.mem_cons_of_mem _ hy)
      obtain ⟨cv, nm, k⟩ := hs z List.mem_cons_self
      obtain ⟨g1, g2⟩ := hg z List.mem_cons_self
      have pc : PE (X.suite a ((a, oe) :: pn)) (.Name z p) (tC (vOf cv)) := pe_nmv (X := X.suite a ((a, oe) :: pn)) (show NmV (X.suite a ((a, oe) :: pn)).mg z cv from nm) g1 g2
      refine ⟨cv :: cs, ⟨(pa_cons pc p1 (starEach_cons rfl _ _)).run⟩, ?_, fun us r => ?_, by simp [p4]⟩
      · show (match PySem.W.kitOne X.K (.ref D) cv with | some true => some true | some false => PySem.W.kitAny X.K (.ref D) cs | none => none) = _
        rw [k, List.any_cons]
        cases decide (z ∈ sups) with
        | true => rfl
        | false => exact p2
      · cases r with
        | cons r1 r2 => rw [nm.rel.2 _ r1, p3 _ r2]
    | _ => simp [isNm] at h
  | [], _ :: _, h, _, _ => by simp [isNm] at h
  | _ :: _, [], h, _, _ => by simp [isNm] at h
theorem pt_isn {ys : List Str} {es : List Expr} {f e : Str} {p1 p2 p3 pos pos2 : Pos} {kk : Nat} (h : HtOk X D sups n i ys) (hz : Zc (.ref D) dx oe) (hf : ∃ vs, oe.data = .fields vs) (hf1 : f = "isinstance") (he : e = n) (hes : isNm ys es = true) (hl : ys.length ≤ 100) :
    PT (X.suite a ((a, oe) :: pn)) (.UnaryOp .Not (.Call (.Name f p1) [.Name e p2, .Tuple es kk p3] [] pos) pos2) (tIsB i a dx (!(ys.any fun y => decide (y ∈ sups)))) := by
  subst hf1 he
  obtain ⟨cs, q1, q2, q3, q4⟩ := pa_names (a := a) (pn := pn) hz ys es hes h.sup h.gl
  have pv : PE (X.suite a ((a, oe) :: pn)) (.Name e p2) (tVar i) := pe_var (X := X.suite a ((a, oe) :: pn)) h.nN h.vis h.d1 h.d2
  have ptu := pe_tupE (X := X.suite a ((a, oe) :: pn)) (pos := p3) (k := kk) q1
  have pe := pe_callB (X := X.suite a ((a, oe) :: pn)) (p := p1) (pos := pos) (call_isEt (pn := pn) h.exc hz hf) (show Gl (X.suite a ((a, oe) :: pn)) "isinstance" from h.gi) h.mi (by decide +kernel) (pa_cons pv (pa_cons ptu pa_nil (starEach_cons rfl _ _)) (starEach_cons rfl _ _)) (by decide) (by decide) (starEach_cons rfl _ _) (backTo_plain rfl)
  refine pt_mono (pt_not (pt_val pe fun _ => rfl)) fun σ H Q ⟨e1, dk, q⟩ => ?_
  refine ⟨.ref a, e1, by rw [List.length_map, q4]; exact small_line (by omega), fun p ti tn hp => ?_⟩
  exact ⟨dk.more (fun c o hc => by rw [upd_ne (ne_of_none hc hp)]; exact hc), p, cs.map vOf, cs, _, rfl, .inl (Tp.rd ⟨ti, tn, upd_same⟩), q3, q2, _, rfl, q _ fun c o hc => by rw [upd_ne (ne_of_none hc hp)]; exact hc⟩
/-- all the tests -/
theorem pw_hts (hz : Zc (.ref D) dx oe) (hf : ∃ vs, oe.data = .fields vs) {pos : Pos} : ∀ (ts : List Ht) (es : List Expr), ts ≠ [] → chkHts n ts es = true → (∀ t ∈ ts, HtOk X D sups n i (htNames t)) → PW (X.suite a ((a, oe) :: pn)) (.BoolOp .And es pos) (tIsB i a dx (ts.all (htB sups)))
  | [], _, h, _, _ => absurd rfl h
  | t :: ts, [], _, h, _ => by simp [chkHts] at h
  | t :: ts, e :: es, _, h, ok => by
    have h : (chkHt n t e && chkHts n ts es) = true := h
    rw [Bool.and_eq_true] at h
    have okt := ok t List.mem_cons_self
    have one : PT (X.suite a ((a, oe) :: pn)) e (tIsB i a dx (htB sups t)) := by
      have h1 := h.1
      unfold chkHt at h1
      split at h1
      · simp only [Bool.and_eq_true, decide_eq_true_eq] at h1
        exact pt_is1 okt hz hf h1.1.1 h1.1.2 h1.2
      · simp only [Bool.and_eq_true, decide_eq_true_eq] at h1
        exact pt_isn okt hz hf h1.1.1.1.1 h1.1.1.1.2 h1.1.1.2 h1.2
      · cases h1
    cases ts with
    | nil =>
      cases es with
      | cons _ _ => have := h.2; simp [chkHts] at this
      | nil =>
        rw [List.all_cons, List.all_nil, Bool.and_true]
        exact pw_and1 one
    | cons t2 ts =>
      cases es with
      | nil => have := h.2; simp [chkHts] at this
      | cons e2 es =>
        have rest := pw_hts hz hf (pos := pos) (t2 :: ts) (e2 :: es) (by simp) h.2 fun t ht => ok t (List.mem_cons_of_mem _ ht)
        refine pw_mono (pw_and one rest) fun σ H Q ⟨e1, dk, q⟩ => ⟨e1, dk, fun H' k => ?_⟩
        rw [List.all_cons] at q
        cases hb : htB sups t with
        | true =>
          rw [if_pos rfl]
          rw [hb, Bool.true_and] at q
          exact ⟨e1, dk.more k, fun H2 k2 => q H2 fun c o hc => k2 c o (k c o hc)⟩
        | false =>
          rw [if_neg Bool.false_ne_true]
          rw [hb, Bool.false_and] at q
          exact q H' k
/-! the clause's statements -/
def vK : Mn.D → V
  | .str x => .str x
  | .bool b => .bl b
  | _ => .non
def chkK : Mn.D → Expr → Bool
  | .str x, .Constant (.str y) _ _ => decide (x = y)
  | .bool x, .Constant (.bool y) _ _ => decide (x = y)
  | .none, .Constant .none _ _ => true
  | _, _ => false
theorem pe_const {Y : Cx} {d : Mn.D} {e : Expr} (h : chkK d e = true) : PE Y e (tC (vK d)) ∧ (∀ {K H L}, Dv K H L d (vK d)) ∧ (∀ x p l env, swapsWith e (some (.Name x p)) l env = pure false) := by
  unfold chkK at h
  split at h
  · rw [decide_eq_true_eq] at h; subst h
    exact ⟨pe_str, .str _, fun _ _ _ _ => rfl⟩
  · rw [decide_eq_true_eq] at h; subst h
    exact ⟨pe_bl, .bl _, fun _ _ _ _ => rfl⟩
  · exact ⟨pe_non, .non, fun _ _ _ _ => rfl⟩
  · cases h
/-- e.f -/
theorem pe_fldX {f : Str} {p pos : Pos} (C : ExcC X.K D) (no : PySem.W.findIn X.K (.ref D) f = some none) (hz : Zc (.ref D) dx oe) (hf : ∃ vs, oe.data = .fields vs) (nN : X.N[i]? = some n) (vis : Vis X.env.scope n) (d1 : (n == ("__debug__" : Str)) = false) (d2 : (n == ("__classdict__" : Str)) = false)
    (hb : attributeBase (.Name n p) f X.env (eval (.Name n p) X.env) = eval (.Name n p) X.env := by rfl) :
    PE (X.suite a ((a, oe) :: pn)) (.Attribute (.Name n p) f pos) (fun σ H Q => σ[i]? = some (some (.ref a)) ∧ ∃ dd fs w, dx = some dd ∧ H dd = some (.xd fs) ∧ fs.lookup f = some w ∧ Q w H) := by
  refine ⟨fun pins s σ H Q I ⟨e1, dd, fs, w, ed, ea, l, q⟩ => ?_⟩
  have pv : PE (X.suite a ((a, oe) :: pn)) (.Name n p) (tVar i) := pe_var (X := X.suite a ((a, oe) :: pn)) nN vis d1 d2
  refine attr_of hb (thn (pv.run pins s σ H (fun x H1 => x = .ref a ∧ H1 = H) I ⟨.ref a, e1, rfl, rfl⟩) fun u s1 ⟨x, H1, I1, rx, ex, eh⟩ => ?_)
  subst ex eh ed
  obtain rfl : u = Value.ref a := rx
  obtain ⟨ha, _⟩ := I1.pin (a, oe) (List.mem_append_left _ List.mem_cons_self)
  obtain ⟨vs, hd⟩ := hf
  have hx : ObjOk X.prog X.w H1 s1.heap dd (.xd fs) := I1.hok dd _ ea
  obtain ⟨mA, hns, hr⟩ := hx
  obtain ⟨od, ho, hl⟩ := lookIn_ns hns
  obtain ⟨u, hu, ru⟩ := RelO.some_of (v := w) (o := mA f) (by rw [← l]; exact hr f)
  have J : PySem.W.InstAt s1.heap a oe D (some od) := ⟨ha, hz.1, by unfold PySem.W.notCls; rw [hd] <;> rfl, by rw [hz.2]; exact ho⟩
  exact PySem.HandSPX.exc_get I1.kIn J C.hg C.hk C.hs (PySem.W.findObj_own C.hd no rfl (by rw [hl, hu])) (handed_of ru) ⟨w, H1, I1.tok _, ru, q⟩
/-- what is set at last: a constant, or a field of e -/
def chkV (n : Str) (h : Hd) (e : Expr) : Bool := match h.fld with
  | none => chkK h.v e
  | some f => match e with
    | .Attribute (.Name y _) g _ => decide (y = n) && decide (g = f)
    | _ => false
def FldOk (h : Hd) (d : Option Addr) (w : V) (H : Hp) : Prop := match h.fld with
  | none => w = vK h.v
  | some f => ∃ dd fs, d = some dd ∧ H dd = some (.xd fs) ∧ fs.lookup f = some w
theorem FldOk.more {h : Hd} {d : Option Addr} {w : V} {H H' : Hp} (o : FldOk h d w H) (k : ∀ c o, H c = some o → H' c = some o) : FldOk h d w H' := by
  unfold FldOk at *
  split
  · rename_i q; rw [q] at o; exact o
  · rename_i f q; rw [q] at o
    obtain ⟨dd, fs, e1, e2, e3⟩ := o
    exact ⟨dd, fs, e1, k _ _ e2, e3⟩
def chkIfS (n jn : Str) (h : Hd) : Stmt → Bool
  | .If (.BoolOp .And es _) [.Assign [.Name y _] e _] [] _ => decide (y = jn) && chkV n h e && chkHts n h.ts es && decide (1 ≤ h.ts.length)
  | _ => false
def chkSu (n jn : Str) (h : Hd) : List Stmt → Bool
  | [.Assign [.Name y _] e _, s] => (match h.pre with
    | some d => decide (y = jn) && chkK d e && chkIfS n jn h s
    | none => false)
  | [s] => (match h.pre with
    | some _ => false
    | none => chkIfS n jn h s)
  | _ => false
/-- what the clause does to the slots -/
def suS (h : Hd) (b : Bool) (w : V) (σ : L2.St) : L2.St :=
  let σ1 := match h.pre with
    | some d => σ.set h.j (some (vK d))
    | none => σ
  if b then σ1.set h.j (some w) else σ1
def tSu (h : Hd) (a : Addr) (d : Option Addr) (b : Bool) (w : V) : TS := fun D σ H => σ[h.i]? = some (some (.ref a)) ∧ DOk d H ∧ (b = true → FldOk h d w H) ∧ ∀ H', (∀ c o, H c = some o → H' c = some o) → D.nx (suS h b w σ) H'
/-- the last assignment -/
theorem pe_last {hd : Hd} {e : Expr} {w : V} (h : chkV n hd e = true) (C : ExcC X.K D) (no : ∀ f, hd.fld = some f → PySem.W.findIn X.K (.ref D) f = some none) (hz : Zc (.ref D) dx oe) (hf : ∃ vs, oe.data = .fields vs) (nN : X.N[hd.i]? = some n) (vis : Vis X.env.scope n) (d1 : (n == ("__debug__" : Str)) = false) (d2 : (n == ("__classdict__" : Str)) = false) :
    PE (X.suite a ((a, oe) :: pn)) e (fun σ H Q => σ[hd.i]? = some (some (.ref a)) ∧ FldOk hd dx w H ∧ Q w H) ∧ (∀ x p l env, swapsWith e (some (.Name x p)) l env = pure false) := by
  unfold chkV at h
  split at h
  · rename_i q
    obtain ⟨pc, _, sw⟩ := pe_const (Y := X.suite a ((a, oe) :: pn)) h
    refine ⟨⟨fun pins s σ H Q I ⟨e1, fo, q2⟩ => pc.run pins s σ H Q I ?_⟩, sw⟩
    unfold FldOk at fo
    rw [q] at fo
    have fo : w = vK hd.v := fo
    rw [← fo]; exact q2
  · rename_i f q
    split at h
    · rename_i y p g pos
      simp only [Bool.and_eq_true, decide_eq_true_eq] at h
      obtain ⟨rfl, rfl⟩ := h
      refine ⟨⟨fun pins s σ H Q I ⟨e1, fo, q2⟩ => (pe_fldX (i := hd.i) C (no _ q) hz hf nN vis d1 d2).run pins s σ H Q I ⟨e1, ?_⟩⟩, fun _ _ _ _ => rfl⟩
      unfold FldOk at fo
      rw [q] at fo
      obtain ⟨dd, fs, e2, e3, e4⟩ := fo
      exact ⟨dd, fs, w, e2, e3, e4, q2⟩
    · cases h
theorem ps_ifS {hd : Hd} {jn : Str} {st : Stmt} {w : V} (hz : Zc (.ref D) dx oe) (hf : ∃ vs, oe.data = .fields vs) (h : chkIfS n jn hd st = true) (ok : ∀ t ∈ hd.ts, HtOk X D sups n hd.i (htNames t)) (no : ∀ f, hd.fld = some f → PySem.W.findIn X.K (.ref D) f = some none) (nd : X.N.Nodup) (hj : X.N[hd.j]? = some jn) (lj : Loc X.env.scope jn) (fj : X.fn jn = true ∨ X.env.scope.names.lookup jn = some .local) :
    PS (X.suite a ((a, oe) :: pn)) st (fun D σ H => σ[hd.i]? = some (some (.ref a)) ∧ DOk dx H ∧ (hd.ts.all (htB sups) = true → FldOk hd dx w H) ∧ ∀ H', (∀ c o, H c = some o → H' c = some o) → D.nx (if hd.ts.all (htB sups) then σ.set hd.j (some w) else σ) H') := by
  unfold chkIfS at h
  split at h
  · rename_i es p0 y p1 e p2 p3
    simp only [Bool.and_eq_true, decide_eq_true_eq] at h
    obtain ⟨⟨⟨rfl, h2⟩, h3⟩, h4⟩ := h
    obtain ⟨t0, ht0⟩ : ∃ t, t ∈ hd.ts := by
      cases hts : hd.ts with
      | nil => rw [hts] at h4; simp at h4
      | cons t r => exact ⟨t, List.mem_cons_self⟩
    have o0 := ok t0 ht0
    obtain ⟨pc, sw⟩ := pe_last (a := a) (pn := pn) (w := w) h2 o0.exc no hz hf o0.nN o0.vis o0.d1 o0.d2
    have tst := pw_hts (a := a) (pn := pn) hz hf (pos := p0) hd.ts es (fun z => by rw [z] at h4; simp at h4) h3 ok
    have asg := ps_set (X := X.suite a ((a, oe) :: pn)) (pos := p2) (pos' := p1) nd hj lj pc (sw _ _ _ _) fj
    refine ps_mono (ps_if tst.pt (pss_cons asg pss_nil) pss_nil) fun E σ H ⟨e1, dk, fo, q⟩ => ⟨e1, dk, fun H' k => ?_⟩
    have q := q H' k
    cases hb : hd.ts.all (htB sups) with
    | true => rw [hb, if_pos rfl] at q; show (if true = true then _ else _); rw [if_pos rfl]; exact ⟨e1, (fo hb).more k, q⟩
    | false => rw [hb, if_neg Bool.false_ne_true] at q; show (if false = true then _ else _); rw [if_neg Bool.false_ne_true]; exact q
  · cases h
theorem pss_su {hd : Hd} {jn : Str} {su : List Stmt} {w : V} (hz : Zc (.ref D) dx oe) (hf : ∃ vs, oe.data = .fields vs) (h : chkSu n jn hd su = true) (ok : ∀ t ∈ hd.ts, HtOk X D sups n hd.i (htNames t)) (no : ∀ f, hd.fld = some f → PySem.W.findIn X.K (.ref D) f = some none) (nd : X.N.Nodup) (hj : X.N[hd.j]? = some jn) (lj : Loc X.env.scope jn) (fj : X.fn jn = true ∨ X.env.scope.names.lookup jn = some .local) (ij : hd.i ≠ hd.j) :
    PSs (X.suite a ((a, oe) :: pn)) su (tSu hd a dx (hd.ts.all (htB sups)) w) := by
  unfold chkSu at h
  split at h
  · rename_i y p1 e p2 s
    split at h
    · rename_i d hp
      simp only [Bool.and_eq_true, decide_eq_true_eq] at h
      obtain ⟨⟨rfl, h2⟩, h3⟩ := h
      obtain ⟨pc, _, sw⟩ := pe_const (Y := X.suite a ((a, oe) :: pn)) h2
      have asg := ps_set (X := X.suite a ((a, oe) :: pn)) (pos := p2) (pos' := p1) nd hj lj pc (sw _ _ _ _) fj
      refine pss_mono (pss_cons asg (pss_cons (ps_ifS (a := a) (pn := pn) (w := w) hz hf h3 ok no nd hj lj fj) pss_nil)) fun E σ H ⟨e1, dk, fo, q⟩ => ?_
      refine ⟨by rw [List.getElem?_set_ne (Ne.symm ij)]; exact e1, dk, fo, fun H' k => ?_⟩
      have q := q H' k
      unfold suS at q
      rw [hp] at q
      exact q
    · cases h
  · split at h
    · cases h
    · rename_i hp
      refine pss_mono (pss_cons (ps_ifS (a := a) (pn := pn) (w := w) hz hf h ok no nd hj lj fj) pss_nil) fun E σ H ⟨e1, dk, fo, q⟩ => ⟨e1, dk, fo, fun H' k => ?_⟩
      have q := q H' k
      unfold suS at q
      rw [hp] at q
      exact q
  · cases h
/-- the tests are false: nothing of the last assignment is wanted -/
theorem ps_ifN {hd : Hd} {jn : Str} {st : Stmt} (hz : Zc (.ref D) dx oe) (hf : ∃ vs, oe.data = .fields vs) (h : chkIfS n jn hd st = true) (ok : ∀ t ∈ hd.ts, HtOk X D sups n hd.i (htNames t)) (hall : hd.ts.all (htB sups) = false) :
    PS (X.suite a ((a, oe) :: pn)) st (fun D σ H => σ[hd.i]? = some (some (.ref a)) ∧ DOk dx H ∧ ∀ H', (∀ c o, H c = some o → H' c = some o) → D.nx σ H') := by
  unfold chkIfS at h
  split at h
  · rename_i es p0 y p1 e p2 p3
    simp only [Bool.and_eq_true, decide_eq_true_eq] at h
    obtain ⟨⟨⟨rfl, h2⟩, h3⟩, h4⟩ := h
    have tst := pw_hts (a := a) (pn := pn) hz hf (pos := p0) hd.ts es (fun z => by rw [z] at h4; simp at h4) h3 ok
    rw [hall] at tst
    have any : PSs (X.suite a ((a, oe) :: pn)) [.Assign [.Name y p1] e p2] (fun _ _ _ => False) := ⟨fun _ _ _ _ _ _ z => z.elim⟩
    refine ps_mono (ps_if tst.pt any pss_nil) fun E σ H ⟨e1, dk, q⟩ => ⟨e1, dk, fun H' k => ?_⟩
    show (if false = true then _ else _)
    rw [if_neg Bool.false_ne_true]; exact q H' k
  · cases h
theorem pss_suN {hd : Hd} {jn : Str} {su : List Stmt} {w : V} (hz : Zc (.ref D) dx oe) (hf : ∃ vs, oe.data = .fields vs) (h : chkSu n jn hd su = true) (ok : ∀ t ∈ hd.ts, HtOk X D sups n hd.i (htNames t)) (hall : hd.ts.all (htB sups) = false) (nd : X.N.Nodup) (hj : X.N[hd.j]? = some jn) (lj : Loc X.env.scope jn) (fj : X.fn jn = true ∨ X.env.scope.names.lookup jn = some .local) (ij : hd.i ≠ hd.j) :
    PSs (X.suite a ((a, oe) :: pn)) su (tSu hd a dx (hd.ts.all (htB sups)) w) := by
  rw [hall]
  unfold chkSu at h
  split at h
  · rename_i y p1 e p2 s
    split at h
    · rename_i d hp
      simp only [Bool.and_eq_true, decide_eq_true_eq] at h
      obtain ⟨⟨rfl, h2⟩, h3⟩ := h
      obtain ⟨pc, _, sw⟩ := pe_const (Y := X.suite a ((a, oe) :: pn)) h2
      have asg := ps_set (X := X.suite a ((a, oe) :: pn)) (pos := p2) (pos' := p1) nd hj lj pc (sw _ _ _ _) fj
      refine pss_mono (pss_cons asg (pss_cons (ps_ifN (a := a) (pn := pn) hz hf h3 ok hall) pss_nil)) fun E σ H ⟨e1, dk, fo, q⟩ => ?_
      refine ⟨by rw [List.getElem?_set_ne (Ne.symm ij)]; exact e1, dk, fun H' k => ?_⟩
      have q := q H' k
      unfold suS at q
      rw [hp] at q
      exact q
    · cases h
  · split at h
    · cases h
    · rename_i hp
      refine pss_mono (pss_cons (ps_ifN (a := a) (pn := pn) hz hf h ok hall) pss_nil) fun E σ H ⟨e1, dk, fo, q⟩ => ⟨e1, dk, fun H' k => ?_⟩
      have q := q H' k
      unfold suS at q
      rw [hp] at q
      exact q
  · cases h
/-- except C: j = a constant -/
theorem pss_one {j : Nat} {jn : Str} {v : Mn.D} {e : Expr} {p1 p2 : Pos} (h : chkK v e = true) (nd : X.N.Nodup) (hj : X.N[j]? = some jn) (lj : Loc X.env.scope jn) (fj : X.fn jn = true ∨ X.env.scope.names.lookup jn = some .local) :
    PSs (X.suite a ((a, oe) :: pn)) [.Assign [.Name jn p1] e p2] (fun D σ H => D.nx (σ.set j (some (vK v))) H) := by
  obtain ⟨pc, _, sw⟩ := pe_const (Y := X.suite a ((a, oe) :: pn)) h
  have asg := ps_set (X := X.suite a ((a, oe) :: pn)) (pos := p2) (pos' := p1) nd hj lj pc (sw _ _ _ _) fj
  exact pss_mono (pss_cons asg pss_nil) fun E σ H q => q
end
/-- except C: j = [] -/
theorem pss_oneL {X : Cx} {a : Addr} {oe : Obj} {pn : List (Addr × Obj)} {j : Nat} {jn : Str} {p1 p2 p3 : Pos} (nd : X.N.Nodup) (hj : X.N[j]? = some jn) (lj : Loc X.env.scope jn) (fj : X.fn jn = true ∨ X.env.scope.names.lookup jn = some .local) :
    PSs (X.suite a ((a, oe) :: pn)) [.Assign [.Name jn p1] (.List [] p3) p2] (fun D σ H => ∀ p, H p = none → D.nx (σ.set j (some (.ref p))) (upd H p (.lst []))) := by
  have pc : PE (X.suite a ((a, oe) :: pn)) (.List [] p3) (fun σ H Q => ∀ p, H p = none → Q (.ref p) (upd H p (.lst []))) := pe_mono (pe_lst (pa_nil (X := X.suite a ((a, oe) :: pn)))) fun σ H Q q => ⟨Nat.zero_le _, q⟩
  have asg := ps_set (X := X.suite a ((a, oe) :: pn)) (pos := p2) (pos' := p1) nd hj lj pc rfl fj
  exact pss_mono (pss_cons asg pss_nil) fun E σ H q => q
/-! ## an exception's own __init__ -/
section
variable {X : Cx} {z : Str} {Z : Addr} {e : Expr} {es : List Expr} {ta : TA} {p1 p2 pos : Pos}
/-- what is known of the class whose __init__ is asked by name -/
structure BasOk (K : PySem.W.Frag) (Z : Addr) : Prop where
  ga : PySem.W.specialIn K (.ref Z) "__getattribute__" = some (some (.builtin "type.__getattribute__"))
  ty : PySem.W.typeIn K (.ref Z) = some (.type "type")
  rd : PySem.W.readsIn K Z (.type "type") = true
  fc : PySem.W.findCls K (.ref Z) (.type "type") "__init__" = some (.val (.builtin "ValueError.__init__"))
theorem zi_form {env : Env} {z s : Str} {m : Str} {j : Nat} {p1 p2 p3 p4 pos : Pos} (hline : (p2.endLine == pos.line) = true) :
    eval (.Call (.Attribute (.Name z p1) "__init__" p2) [.Name s p3, .Constant (.str m) j p4] [] pos) env = (do
      let ov ← eval (.Name z p1) env
      standAt p2.atName
      let (f, first) ← holding [ov] (getMethod ov "__init__" (do return (← importBound (.Name z p1) env).getD true))
      callWith pos f first (backTo pos (starEach [.Name s p3, .Constant (.str m) j p4] env)) (backToKw pos (keywordEach [] env))) := by
  have hp : methodCallPos (methodCallForm (([.Name s p3, .Constant (.str m) j p4] : List Expr).length + ([] : List Keyword).length) (backTo pos (starEach [.Name s p3, .Constant (.str m) j p4] env)) (backToKw pos (keywordEach [] env))) (.Name z p1) env p2 pos = pure pos := if_pos (by rw [hline]; simp)
  rw [arm_eval_Call]
  unfold methodCall
  simp only [hp]
  rfl
/-- Z.__init__(self, ..) -/
theorem pe_zinit {pl : Sem Bool} (B : BasOk X.K Z) (hg : Gl X z) (hm : X.mg z = some (.ref Z)) (hdb : (z == ("__debug__" : Str)) = false) (ha : PA X (e :: es) ta)
    (hc : eval (.Call (.Attribute (.Name z p1) "__init__" p2) (e :: es) [] pos) X.env = (do
      let ov ← eval (.Name z p1) X.env
      standAt p2.atName
      let (f, first) ← holding [ov] (getMethod ov "__init__" pl)
      callWith pos f first (backTo pos (starEach (e :: es) X.env)) (backToKw pos (keywordEach [] X.env))) := by rfl)
    (he : starEach (e :: es) X.env = (false, eval e X.env) :: starEach es X.env := by rfl) (hpl : (backTo pos (starEach es X.env)).any (·.1) = false := by rfl) :
    PE X (.Call (.Attribute (.Name z p1) "__init__" p2) (e :: es) [] pos) (tVeI X.K ta) := by
  refine ⟨fun pins s σ H Q I h => ?_⟩
  refine PySem.W.methodCall_KW (ld_glob I hg hm ?_ hdb) hc
  obtain ⟨m, fr⟩ := I.fr
  refine PySem.W.method_of_cls fr I.ok.mod.kin B.ga ?_
  refine PySem.W.cls_val fr I.ok.mod.kin B.ty B.rd B.fc (by decide +kernel) ?_
  show wpAny _ _ (callWith pos (Value.builtin "ValueError.__init__") [] (backTo pos (starEach (e :: es) X.env)) []) _ _ _
  refine PyProof.Rows.callWith_method1 (thn (ha.run pos pins _ σ H _ (I.tok _) h) fun us s1 ⟨vs, H1, I1, r1, a, C, ws, ev, hl, T, ea, q⟩ => ?_) he hpl
  subst ev
  cases r1 with
  | @cons _ u0 _ ur ra rw' =>
    obtain rfl : u0 = Value.ref a := ra
    have hlen : ur.length ≤ sizeLine := by
      rw [← Paired.length rw', PySem.sizeLine_eq]
      omega
    exact oinit_ok T I1 ea hlen fun s' J => ⟨.non, H1, J, rfl, q⟩
end
/-! the text of __init__ -/
def fnK : ScopeKind → Bool
  | .function => true
  | _ => false
def locK : Option NameKind → Bool
  | some .local => true
  | _ => false
def gloK : Option NameKind → Bool
  | some .globalImplicit => true
  | _ => false
def notFre : NameKind → Bool
  | .free => false
  | _ => true
def scI (sc : Scope) (z w : Str) : Bool := fnK sc.kind && !sc.isCoroutine && !sc.isGenerator && locK (sc.names.lookup ("self" : Str)) && locK (sc.names.lookup w) && gloK (sc.names.lookup z) && sc.names.all (fun y => notFre y.2) && !(w == ("self" : Str)) && !(w == ("__debug__" : Str)) && !(w == ("__classdict__" : Str)) && !(z == ("__debug__" : Str))
def chkInit (z f w : Str) (st : Stmt) : Bool := match defBody st with
  | [.Expr (.Call (.Attribute (.Name y _) g pa) [.Name s1 _, .Constant (.str _) _ _] [] pc) _, .Assign [.Attribute (.Name s2 _) h _] (.Name v _) _] => decide (y = z) && decide (g = "__init__") && decide (s1 = "self") && decide (s2 = "self") && decide (h = f) && decide (v = w) && scI (defScope st) z w && (pa.endLine == pc.line)
  | _ => false
/-- what __init__ does -/
def spI (C : Addr) (f : Str) : Sp := fun vs H Q _ => ∃ a v, vs = [.ref a, v] ∧ H a = some (exo a C none) ∧ ∀ dx, H dx = none → dx ≠ a → Q .non (upd (upd H dx (exd dx [(f, v)])) a (exo a C (some dx)))
section
variable {P : Program} {w : World} {K : PySem.W.Frag} {mg : Str → Option Value} {base : Heap}
theorem init_fn {z f wn qual : Str} {Z C fI : Addr} {st : Stmt} {fd : FuncData} (F : L2.Fun K "__init__" qual st fI fd) (hc : chkInit z f wn st = true) (hm : mg z = some (.ref Z)) (B : BasOk K Z) (T : OexC K C) (no : PySem.W.findIn K (.ref C) f = some none) :
    FnOk P w K mg base CX0 1 fI fd ["self", wn] (spI C f) := by
  unfold chkInit at hc
  split at hc
  · rename_i y p1 g p2 s1 p3 m j p4 p5 p6 s2 p7 h p8 v p9 p10 hbody
    simp only [Bool.and_eq_true, decide_eq_true_eq] at hc
    obtain ⟨⟨⟨⟨⟨⟨⟨rfl, rfl⟩, rfl⟩, rfl⟩, rfl⟩, rfl⟩, hs⟩, hline⟩ := hc
    unfold scI at hs
    simp only [Bool.and_eq_true, Bool.not_eq_true', List.all_eq_true] at hs
    obtain ⟨⟨⟨⟨⟨⟨⟨⟨⟨⟨k1, k2⟩, k3⟩, k4⟩, k5⟩, k6⟩, k7⟩, k8⟩, k9⟩, k10⟩, k11⟩ := hs
    have e1 : (defScope st).kind = .function := by
      unfold fnK at k1
      split at k1
      · assumption
      · cases k1
    have loc : ∀ {o : Option NameKind}, locK o = true → o = some .local := fun {o} h => by
      unfold locK at h
      split at h
      · rfl
      · cases h
    have glo : ∀ {o : Option NameKind}, gloK o = true → o = some .globalImplicit := fun {o} h => by
      unfold gloK at h
      split at h
      · rfl
      · cases h
    have l1 := loc k4
    have l2 := loc k5
    have l3 := glo k6
    have vs : v ≠ ("self" : Str) := fun z => by rw [z] at k8; simp at k8
    have S : FnScope ["self", v] ["self", v] (defScope st) := ⟨e1, k2, k3, by simp; exact fun z => vs z.symm, rfl, fun x hx => by
      simp at hx
      rcases hx with rfl | rfl
      · exact .inl l1
      · exact .inl l2, fun y hy z => by have := k7 y hy; rw [z] at this; cases this⟩
    refine F.ok S (fun vs H Q E ⟨a, v, e, _⟩ => by rw [e]; rfl) fun cdv A outer s H vs Q E hr ⟨a, u, ev, ea, q⟩ => ?_
    subst ev
    rw [hbody]
    generalize hX : (cxOf CX0 P w K mg base ["self", v] qual (defScope st) fI cdv A outer s H E).nox = X
    have pv0 : ∀ {p}, PE X (.Name "self" p) (tVar 0) := fun {p} => by rw [← hX]; exact pe_var rfl (.inl l1) (by decide) (by decide)
    have pv1 : ∀ {p}, PE X (.Name v p) (tVar 1) := fun {p} => by rw [← hX]; exact pe_var rfl (.inl l2) k9 k10
    have hK : X.K = K := by rw [← hX]; rfl
    have pz := pe_zinit (X := X) (e := .Name "self" p3) (es := [.Constant (.str m) j p4]) (p1 := p1) (p2 := p2) (pos := p5) (by rw [hK]; exact B) (by rw [← hX]; exact l3) (by rw [← hX]; exact hm) k11 (pa_cons (pv0 (p := p3)) (pa_cons (pe_str (X := X) (x := m)) pa_nil (starEach_cons rfl _ _)) (starEach_cons rfl _ _)) (zi_form hline)
    have po := ps_ost (X := X) (f := h) (pos := p10) (p' := p8) (pv0 (p := p7)) (pv1 (p := p9))
    refine ⟨_, pss_cons (ps_expr pz) (pss_cons po pss_nil), ?_⟩
    rw [hK] at *
    refine ⟨.ref a, rfl, a, C, [.str m], rfl, by simp, T, ea, u, rfl, .ref a, rfl, a, C, rfl, T, no, .inl ⟨ea, fun dx n ne => q dx n ne⟩⟩
  · cases hc
end
/-! two fields -/
def scI2 (sc : Scope) (z w x : Str) : Bool := scI sc z w && scI sc z x && !(w == x)
def chkInit2 (z f g w x : Str) (st : Stmt) : Bool := match defBody st with
  | [.Expr (.Call (.Attribute (.Name y _) g0 pa) [.Name s1 _, .Constant (.str _) _ _] [] pc) _, .Assign [.Attribute (.Name s2 _) h _] (.Name v _) _, .Assign [.Attribute (.Name s3 _) h2 _] (.Name v2 _) _] => decide (y = z) && decide (g0 = "__init__") && decide (s1 = "self") && decide (s2 = "self") && decide (s3 = "self") && decide (h = f) && decide (h2 = g) && decide (v = w) && decide (v2 = x) && scI2 (defScope st) z w x && (pa.endLine == pc.line)
  | _ => false
def spI2 (C : Addr) (f g : Str) : Sp := fun vs H Q _ => ∃ a v w, vs = [.ref a, v, w] ∧ H a = some (exo a C none) ∧ ∀ dx, H dx = none → dx ≠ a → Q .non (upd (upd (upd H dx (exd dx [(f, v)])) a (exo a C (some dx))) dx (exd dx [(g, w), (f, v)]))
section
variable {P : Program} {w : World} {K : PySem.W.Frag} {mg : Str → Option Value} {base : Heap}
theorem init_fn2 {z f f2 wn xn qual : Str} {Z C fI : Addr} {st : Stmt} {fd : FuncData} (F : L2.Fun K "__init__" qual st fI fd) (hc : chkInit2 z f f2 wn xn st = true) (hm : mg z = some (.ref Z)) (B : BasOk K Z) (T : OexC K C) (no : PySem.W.findIn K (.ref C) f = some none) (no2 : PySem.W.findIn K (.ref C) f2 = some none) :
    FnOk P w K mg base CX0 1 fI fd ["self", wn, xn] (spI2 C f f2) := by
  unfold chkInit2 at hc
  split at hc
  · rename_i y p1 g p2 s1 p3 m j p4 p5 p6 s2 p7 h p8 v p9 p10 s3 p11 h2 p12 v2 p13 p14 hbody
    simp only [Bool.and_eq_true, decide_eq_true_eq] at hc
    obtain ⟨⟨⟨⟨⟨⟨⟨⟨⟨⟨rfl, rfl⟩, rfl⟩, rfl⟩, rfl⟩, rfl⟩, rfl⟩, rfl⟩, rfl⟩, hs⟩, hline⟩ := hc
    unfold scI2 scI at hs
    simp only [Bool.and_eq_true, Bool.not_eq_true', List.all_eq_true] at hs
    obtain ⟨⟨⟨⟨⟨⟨⟨⟨⟨⟨⟨⟨k1, k2⟩, k3⟩, k4⟩, k5⟩, k6⟩, k7⟩, k8⟩, k9⟩, k10⟩, k11⟩, ⟨⟨⟨⟨⟨⟨⟨⟨⟨⟨_, _⟩, _⟩, _⟩, m5⟩, _⟩, _⟩, m8⟩, m9⟩, m10⟩, _⟩⟩, k12⟩ := hs
    have e1 : (defScope st).kind = .function := by
      unfold fnK at k1
      split at k1
      · assumption
      · cases k1
    have loc : ∀ {o : Option NameKind}, locK o = true → o = some .local := fun {o} h => by
      unfold locK at h
      split at h
      · rfl
      · cases h
    have glo : ∀ {o : Option NameKind}, gloK o = true → o = some .globalImplicit := fun {o} h => by
      unfold gloK at h
      split at h
      · rfl
      · cases h
    have l1 := loc k4
    have l2 := loc k5
    have l2b := loc m5
    have l3 := glo k6
    have vs : v ≠ ("self" : Str) := fun z => by rw [z] at k8; simp at k8
    have vs2 : v2 ≠ ("self" : Str) := fun z => by rw [z] at m8; simp at m8
    have vv : v ≠ v2 := fun z => by rw [z] at k12; simp at k12
    have S : FnScope ["self", v, v2] ["self", v, v2] (defScope st) := ⟨e1, k2, k3, by simp; exact ⟨⟨fun z => vs z.symm, fun z => vs2 z.symm⟩, vv⟩, rfl, fun x hx => by
      simp at hx
      rcases hx with rfl | rfl | rfl
      · exact .inl l1
      · exact .inl l2
      · exact .inl l2b, fun y hy z => by have := k7 y hy; rw [z] at this; cases this⟩
    refine F.ok S (fun vs H Q E ⟨a, v, w, e, _⟩ => by rw [e]; rfl) fun cdv A outer s H vs Q E hr ⟨a, u, u2, ev, ea, q⟩ => ?_
    subst ev
    rw [hbody]
    generalize hX : (cxOf CX0 P w K mg base ["self", v, v2] qual (defScope st) fI cdv A outer s H E).nox = X
    have pv0 : ∀ {p}, PE X (.Name "self" p) (tVar 0) := fun {p} => by rw [← hX]; exact pe_var rfl (.inl l1) (by decide) (by decide)
    have pv1 : ∀ {p}, PE X (.Name v p) (tVar 1) := fun {p} => by rw [← hX]; exact pe_var rfl (.inl l2) k9 k10
    have pv2 : ∀ {p}, PE X (.Name v2 p) (tVar 2) := fun {p} => by rw [← hX]; exact pe_var rfl (.inl l2b) m9 m10
    have hK : X.K = K := by rw [← hX]; rfl
    have pz := pe_zinit (X := X) (e := .Name "self" p3) (es := [.Constant (.str m) j p4]) (p1 := p1) (p2 := p2) (pos := p5) (by rw [hK]; exact B) (by rw [← hX]; exact l3) (by rw [← hX]; exact hm) k11 (pa_cons (pv0 (p := p3)) (pa_cons (pe_str (X := X) (x := m)) pa_nil (starEach_cons rfl _ _)) (starEach_cons rfl _ _)) (zi_form hline)
    have po := ps_ost (X := X) (f := h) (pos := p10) (p' := p8) (pv0 (p := p7)) (pv1 (p := p9))
    have po2 := ps_ost (X := X) (f := h2) (pos := p14) (p' := p12) (pv0 (p := p11)) (pv2 (p := p13))
    refine ⟨_, pss_cons (ps_expr pz) (pss_cons po (pss_cons po2 pss_nil)), ?_⟩
    rw [hK] at *
    refine ⟨.ref a, rfl, a, C, [.str m], rfl, by simp, T, ea, u, rfl, .ref a, rfl, a, C, rfl, T, no, .inl ⟨ea, fun dx n ne => ⟨u2, rfl, .ref a, rfl, a, C, rfl, T, no2, .inr ⟨dx, [(h, u)], upd_same, ?_, by simp, q dx n ne⟩⟩⟩⟩
    rw [upd_ne ne, upd_same]
  · cases hc
end
structure InitOk2 (K : PySem.W.Frag) (mg : Str → Option Value) (C : Addr) (f g : Str) : Prop where
  oex : OexC K C
  no : PySem.W.findIn K (.ref C) f = some none
  no2 : PySem.W.findIn K (.ref C) g = some none
  ini : ∃ (fI Z : Addr) (fd : FuncData) (st : Stmt) (qual z w x : Str), PySem.W.findIn K (.ref C) "__init__" = some (some (.ref fI)) ∧ PySem.W.typeIn K (.ref fI) = some (.type "function") ∧ L2.Fun K "__init__" qual st fI fd ∧ Binds K fd ["self", w, x] [] ∧ chkInit2 z f g w x st = true ∧ mg z = some (.ref Z) ∧ BasOk K Z
/-- a class with one field, made with a text -/
structure InitOk (K : PySem.W.Frag) (mg : Str → Option Value) (C : Addr) (f : Str) : Prop where
  oex : OexC K C
  no : PySem.W.findIn K (.ref C) f = some none
  ini : ∃ (fI Z : Addr) (fd : FuncData) (st : Stmt) (qual z w : Str), PySem.W.findIn K (.ref C) "__init__" = some (some (.ref fI)) ∧ PySem.W.typeIn K (.ref fI) = some (.type "function") ∧ L2.Fun K "__init__" qual st fI fd ∧ Binds K fd ["self", w] [] ∧ chkInit z f w st = true ∧ mg z = some (.ref Z) ∧ BasOk K Z
theorem pmk_init {X : Cx} {C : Addr} {x f w : Str} {j : Nat} {p p2 pos : Pos} (T : InitOk X.K X.mg C f) (hr : Room 2 X.A) (hg : Gl X x) (hm : X.mg x = some (.ref C)) (hdb : (x == ("__debug__" : Str)) = false) :
    PMk X (.Call (.Name x p) [.Constant (.str w) j p2] [] pos) (fun _ H Q => ∀ d, H d = none → Q (.ref C) (some d) (upd H d (.xd [(f, .str w)]))) := by
  intro pins s σ H Q I h
  obtain ⟨fI, Z, fd, st, qual, z, wn, i1, i2, i3, i4, i5, i6, i7⟩ := T.ini
  refine pmk_oex T.oex i1 i2 (init_fn i3 i5 i6 i7 T.oex T.no) hr i4 .nil pass0 hg hm (pa_cons (pe_str (X := X) (x := w)) pa_nil (starEach_cons rfl _ _)) hdb (starEach_cons rfl _ _) (backTo_plain rfl) pins s σ H Q I ?_
  refine ⟨by simp, fun a ha => ⟨a, .str w, rfl, upd_same, fun dx hd ne => ⟨rfl, dx, [(f, .str w)], upd_same, ?_, ?_, ?_⟩⟩⟩
  · rw [upd_ne ne, upd_same]
  · rw [upd_ne ne] at hd; exact hd
  · have hd' : H dx = none := by rw [upd_ne ne] at hd; exact hd
    have e : upd (del (upd (upd (upd H a (exo a C none)) dx (exd dx [(f, .str w)])) a (exo a C (some dx))) a) dx (.xd [(f, .str w)]) = upd H dx (.xd [(f, .str w)]) := by
      funext b
      by_cases hb : b = dx
      · rw [hb, upd_same, upd_same]
      · rw [upd_ne hb, upd_ne hb]
        by_cases hba : b = a
        · rw [hba, del_same, ha]
        · rw [del_ne hba, upd_ne hba, upd_ne hb, upd_ne hba]
    rw [e]
    exact h dx hd'
/-! ## the table of classes, among the module's names -/
/-- a class: its number, its fields, the names of the classes that it is under -/
def clsOf : D → Option (Nat × List Str)
  | .dict [(.none, .tuple (.int k :: .list _ :: ss))] => (strsOf ss).map fun s => (k.toNat, s)
  | _ => none
def fldsOf : D → List Str
  | .dict [(.none, .tuple (.int _ :: .list fs :: _))] => (strsOf fs).getD []
  | _ => []
def DFs (fl : List Str) (vs : List D) (d : Option Addr) (H : Hp) : Prop := (fl = [] ∧ vs = [] ∧ d = none) ∨ ∃ f w da, fl = [f] ∧ vs = [.str w] ∧ d = some da ∧ H da = some (.xd [(f, .str w)])
theorem DFs.dok {fl : List Str} {vs : List D} {d : Option Addr} {H : Hp} (h : DFs fl vs d H) : DOk d H := by
  rcases h with ⟨_, _, rfl⟩ | ⟨f, w, da, _, _, rfl, e⟩
  · trivial
  · exact ⟨_, e⟩
def xrG (mg : Str → Option Value) (gls : List (Str × D)) : XRl := fun x cls d H => ∃ nm dd sups C, gls.lookup nm = some dd ∧ clsOf dd = some (x.cls, sups) ∧ mg nm = some (.ref C) ∧ cls = .ref C ∧ DFs (fldsOf dd) x.fs d H
structure ClsOk (K : PySem.W.Frag) (mg : Str → Option Value) (C : Addr) (fl : List Str) (nm : Str) : Prop where
  ex : fl = [] → PySem.W.excIn K C [.type "ValueError", .type "Exception", .type "BaseException", .type "object"] "ValueError.__new__" = true
  ini : ∀ f, fl = [f] → InitOk K mg C f
  kp : PySem.W.keepIn K (.ref C) = true
  su : PySem.W.subIn K (.ref C) (.type "BaseException") = some true
  ty : PySem.W.typeIn K (.ref C) = some (.type "type")
  xc : ExcC K C
  nk : PySem.W.nsIn K mainGlobals nm = some (some (.ref C))
  ini2 : ∀ f g, fl = [f, g] → InitOk2 K mg C f g
def SupOk2 (K : PySem.W.Frag) (mg : Str → Option Value) (D : Addr) (sups : List Str) (y : Str) : Prop := ∃ cv, NmV mg y cv ∧ PySem.W.kitOne K (.ref D) cv = some (decide (y ∈ sups)) ∧ PySem.W.exmOne K (.ref D) cv = some (decide (y ∈ sups))
def qNames (gls : List (Str × D)) : List Str := "ValueError" :: gls.filterMap fun p => (clsOf p.2).map fun _ => p.1
def tabOk (gls : List (Str × D)) (h : Hd) : Bool := gls.all fun p => match clsOf p.2 with
  | some (k, sups) => decide (h.tab[k]? = some (if h.cn ∈ sups then some (h.ts.all (htB sups)) else none))
  | none => true
theorem lookup_mem {gls : List (Str × D)} {x : Str} {d : D} (h : gls.lookup x = some d) : (x, d) ∈ gls := by
  induction gls with
  | nil => cases h
  | cons p r ih =>
    obtain ⟨y, e⟩ := p
    rw [List.lookup_cons] at h
    split at h
    · rename_i q
      rw [beq_iff_eq] at q
      cases h; subst q; exact List.mem_cons_self
    · exact List.mem_cons_of_mem _ (ih h)
theorem tab_at {gls : List (Str × D)} {hd : Hd} {x : Str} {d : D} {k : Nat} {sups : List Str} (h : tabOk gls hd = true) (hl : gls.lookup x = some d) (hc : clsOf d = some (k, sups)) : hd.tab[k]? = some (if hd.cn ∈ sups then some (hd.ts.all (htB sups)) else none) := by
  have := List.all_eq_true.mp h (x, d) (lookup_mem hl)
  simp only [hc] at this
  exact of_decide_eq_true this
theorem suS_set {h : Hd} {b : Bool} {w : V} {σ : L2.St} {v : Option V} (ij : h.i ≠ h.j) : suS h b w (σ.set h.i v) = (suS h b w σ).set h.i v := by
  unfold suS
  cases h.pre with
  | none =>
    cases b with
    | true => exact List.set_comm _ _ ij
    | false => rfl
  | some d =>
    cases b with
    | true =>
      show ((σ.set h.i v).set h.j _).set h.j _ = ((σ.set h.j _).set h.j _).set h.i v
      rw [List.set_comm _ _ ij, List.set_comm _ _ ij]
    | false => exact List.set_comm _ _ ij
/-- except C without more: by classes whether it is caught -/
def tabC (gls : List (Str × D)) (cn : Str) (tab : List Bool) : Bool := gls.all fun p => match clsOf p.2 with
  | some (k, sups) => decide (tab[k]? = some (decide (cn ∈ sups)))
  | none => true
theorem tabC_at {gls : List (Str × D)} {cn : Str} {tab : List Bool} {x : Str} {d : D} {k : Nat} {sups : List Str} (h : tabC gls cn tab = true) (hl : gls.lookup x = some d) (hc : clsOf d = some (k, sups)) : tab[k]? = some (decide (cn ∈ sups)) := by
  have := List.all_eq_true.mp h (x, d) (lookup_mem hl)
  simp only [hc] at this
  exact of_decide_eq_true this
/-- the field that is read stands in the classes for which the tests are true -/
def fldT (gls : List (Str × D)) (h : Hd) : Bool := match h.fld with
  | none => true
  | some f => gls.all fun p => match clsOf p.2 with
    | some (k, sups) => !(decide (h.cn ∈ sups) && h.ts.all (htB sups)) || decide (fldsOf p.2 = [f])
    | none => true
theorem fldT_at {gls : List (Str × D)} {h : Hd} {f x : Str} {d : D} {k : Nat} {sups : List Str} (ht : fldT gls h = true) (hf : h.fld = some f) (hl : gls.lookup x = some d) (hc : clsOf d = some (k, sups)) (h1 : h.cn ∈ sups) (h2 : h.ts.all (htB sups) = true) : fldsOf d = [f] := by
  unfold fldT at ht
  rw [hf] at ht
  have := List.all_eq_true.mp ht (x, d) (lookup_mem hl)
  simp only [hc, h2, decide_eq_true h1] at this
  simpa using this
end Mn
set_option Elab.async false
set_option linter.all false
set_option maxRecDepth 100000
set_option autoImplicit false
set_option maxHeartbeats 1000000
namespace Mn
open PySem PySem.Spec L2
/-! ## exceptions as values -/
section
variable {P : Program} {w : World} {H : Hp} {h : Heap} {a C : Addr} {d : Option Addr}
theorem EXO_ok {oe : Obj} {vs : Array Value} (he : h.get? a = some oe) (h1 : oe.cls = .ref C) (h2 : oe.dict = d) (h3 : oe.data = .fields vs) : ObjOk P w H h a (EXO a C d) :=
  ⟨⟨oe, vs, he, h1, h2, h3⟩, ⟨_, he⟩, fun h1 h2 z k => by
    obtain ⟨o, v, q, r⟩ := z
    exact ⟨o, v, k _ q, r⟩⟩
theorem EXO_at (hok : HOk P w H h) (he : H a = some (EXO a C d)) : ∃ (oe : Obj) (vs : Array Value), h.get? a = some oe ∧ oe.cls = .ref C ∧ oe.dict = d ∧ oe.data = .fields vs := by
  have x : ObjOk P w H h a (.ext fun h => ∃ (oe : Obj) (vs : Array Value), h.get? a = some oe ∧ oe.cls = .ref C ∧ oe.dict = d ∧ oe.data = .fields vs) := hok a _ he
  exact x.1
end
/-- an exception that was made is tracked -/
theorem inv_exo {X : Cx} {pins : List (Addr × Obj)} {σ : St} {H' : Hp} {sI s' : Shared} {a C : Addr} {oe : Obj} {vs : Array Value} {d : Option Addr} (J : Inv X pins σ H' sI) (k : ∀ b o, sI.heap.get? b = some o → s'.heap.get? b = some o) (hne : sI.heap.get? a = none) (ha : s'.heap.get? a = some oe) (hz : Zc (.ref C) d oe) (hd : oe.data = .fields vs) (na : H' a = none) (os : s'.os = sI.os) (ag : PyProof.Rows.AllBare s'.gens) :
    Inv X pins σ (upd H' a (EXO a C d)) s' := by
  have nd : ∀ {b : Addr} {o : Obj}, sI.heap.get? b = some o → b ≠ a := fun {b o} q z => by rw [z, hne] at q; cases q
  have U : Un (frs X.stack) [] H' (upd H' a (EXO a C d)) sI.heap s'.heap := {
    keep := fun b o z _ _ _ => k b o z
    slot := fun b o z _ _ _ => ⟨o.slots, k b o z⟩
    free := fun b o z n _ => by rw [upd_ne (nd z)]; exact n
    there := fun b o z _ => ⟨o, k b o z⟩
    tups := fun b xs q => by rw [upd_ne (ne_of_none q na)]; exact q
    frzs := fun b o v q => by rw [upd_ne (ne_of_none q na)]; exact q
    tbls := fun b ps q => ⟨#[], by rw [upd_ne (ne_of_none q na), q]; simp⟩ }
  refine J.call' (ch := []) os U (fun b o q => ?_) ag (fun b z => absurd z (by simp))
  by_cases hb : b = a
  · subst hb
    rw [upd_same] at q
    cases q
    exact EXO_ok ha hz.1 hz.2 hd
  · rw [upd_ne hb] at q
    exact (J.hok b o q).stay (fun c v hc z => k c v z) (fun c hc => by rw [upd_ne (ne_of_none hc na)]; exact hc) (fun c xs hc => by rw [upd_ne (ne_of_none hc na)]; exact hc)
/-- C(..) as a value -/
theorem pe_mk {X : Cx} {e : Expr} {t : St → Hp → XK → Prop} (h : PMk X e t) : PE X e (fun σ H Q => t σ H fun cls d H' => ∃ C, cls = .ref C ∧ ∀ a, H' a = none → Q (.ref a) (upd H' a (EXO a C d))) :=
  ⟨fun pins s σ H Q I q => wpAny_mono (h pins s σ H _ I q) (fun u s1 hu => by
    obtain ⟨a, oe, vs, sI, H', cls, d, rfl, J, k, hne, ha, hz, hd, h1, na, os, ag, r, C, rfl, q⟩ := hu
    exact ⟨.ref a, _, inv_exo J k hne ha hz hd na os ag, rfl, q a na⟩) fun _ _ x => x⟩
section
variable {X : Cx} {W : WXm} {e : Expr} {es : List Expr} {p pos : Pos} {x : Str} {C : Addr} {rs : Mu → Rs (List D)}
/-- of a class without fields -/
theorem je_mk0 {ds : List D} (hm : PMk X e (fun _ H Q => Q (.ref C) none H)) (hn : ExcN X.K C x []) : JE X W e fun μ => Rs.opt (mkXD x [] ds) μ :=
  pe_mono (pe_mk hm) fun σ H Q ⟨c, L, M, μ, S, p⟩ => ⟨C, rfl, fun a na => p (.ref a) _ (S.laid na) (Kp.laid na) (.exc (S.free na) upd_same hn (.inl ⟨rfl, rfl, rfl⟩) .nil)⟩
theorem xd_eq {H : Hp} {a dx : Addr} {o1 o2 o3 o4 o : HO} (ha : H a = none) (ne : dx ≠ a) : upd (del (upd (upd (upd (upd H a o1) dx o2) a o3) dx o4) a) dx o = upd H dx o := by
  funext b
  by_cases hb : b = dx
  · rw [hb, upd_same, upd_same]
  · rw [upd_ne hb, upd_ne hb]
    by_cases hba : b = a
    · rw [hba, del_same, ha]
    · rw [del_ne hba, upd_ne hb, upd_ne hba, upd_ne hb, upd_ne hba]
theorem xd_eq1 {H : Hp} {a dx : Addr} {o1 o2 o3 o : HO} (ha : H a = none) (ne : dx ≠ a) : upd (del (upd (upd (upd H a o1) dx o2) a o3) a) dx o = upd H dx o := by
  funext b
  by_cases hb : b = dx
  · rw [hb, upd_same, upd_same]
  · rw [upd_ne hb, upd_ne hb]
    by_cases hba : b = a
    · rw [hba, del_same, ha]
    · rw [del_ne hba, upd_ne hba, upd_ne hb, upd_ne hba]
theorem mk_fin {K : PySem.W.Frag} {c : Ent} {L M : Ads} {μ1 : Mu} {σ : St} {H1 : Hp} {fl : List Str} {ds : List D} {vs : List V} {Q : VK} (S1 : Sr K c L M μ1 σ H1) (d1 : Dvs K H1 L ds vs) (hn : ExcN K C x fl) (hfl : fl ≠ []) (p1 : Pst K c L M W σ H1 (rD K) Q (Rs.opt (mkXD x fl ds) μ1)) :
    ds.length = fl.length ∧ ∀ dx, H1 dx = none → ∀ a, upd H1 dx (.xd (fl.reverse.zip vs.reverse)) a = none → Q (.ref a) (upd (upd H1 dx (.xd (fl.reverse.zip vs.reverse))) a (EXO a C (some dx))) := by
  obtain ⟨z, e, q⟩ := p1.opt
  unfold mkXD at e
  cases fl with
  | nil => exact absurd rfl hfl
  | cons f fl =>
    simp only at e
    split at e
    · rename_i hl
      cases e
      refine ⟨of_decide_eq_true hl, fun dx hd a ha => ?_⟩
      have S2 := S1.laid (o := .xd ((f :: fl).reverse.zip vs.reverse)) hd
      have nda : dx ≠ a := fun z => by rw [← z, upd_same] at ha; cases ha
      refine q _ _ (S2.laid ha) ((Kp.laid hd).trans (Kp.laid ha)) (.exc (S2.free ha) upd_same ⟨hn.ns, hn.ex, fun f hf => hn.no f (List.mem_reverse.mp hf)⟩ (.inr ⟨dx, rfl, S1.free hd, ?_⟩) ((d1.rev.keep (Kp.laid hd)).keep (Kp.laid ha)))
      rw [upd_ne nda, upd_same]
    · cases e
theorem Dvs.one {K : PySem.W.Frag} {H : Hp} {L : Ads} {ds : List D} {vs : List V} (h : Dvs K H L ds vs) (hl : ds.length = 1) : ∃ v, vs = [v] := by
  have := h.length
  match vs, this with
  | [v], _ => exact ⟨v, rfl⟩
  | [], t => rw [hl] at t; cases t
  | _ :: _ :: _, t => rw [hl] at t; cases t
theorem Dvs.two {K : PySem.W.Frag} {H : Hp} {L : Ads} {ds : List D} {vs : List V} (h : Dvs K H L ds vs) (hl : ds.length = 2) : ∃ v w, vs = [v, w] := by
  have := h.length
  match vs, this with
  | [v, w], _ => exact ⟨v, w, rfl⟩
  | [], t => rw [hl] at t; cases t
  | [_], t => rw [hl] at t; cases t
  | _ :: _ :: _ :: _, t => rw [hl] at t; cases t
/-- of a class with one field -/
theorem je_mk1 {f : Str} (T : InitOk X.K X.mg C f) (hr : Room 2 X.A) (hg : Gl X x) (hm : X.mg x = some (.ref C)) (hn : ExcN X.K C x [f]) (hdb : (x == ("__debug__" : Str)) = false) (ha : JA X W (e :: es) rs) (hs : isStar e = false) (hpl : (backTo pos (starEach es X.env)).any (·.1) = false) :
    JE X W (.Call (.Name x p) (e :: es) [] pos) fun μ => (rs μ).bind fun ds μ1 => Rs.opt (mkXD x [f] ds) μ1 := by
  obtain ⟨fI, Z, fd, st, qual, z, wn, i1, i2, i3, i4, i5, i6, i7⟩ := T.ini
  refine pe_mono (pe_mk (pmk_oex T.oex i1 i2 (init_fn i3 i5 i6 i7 T.oex T.no) hr i4 .nil pass0 hg hm ha hdb (starEach_cons hs _ _) hpl)) fun σ H Q ⟨c, L, M, μ, S, p⟩ => ⟨c, L, M, μ, S, p.bind fun ds μ1 vs H1 S1 k1 d1 p1 => ?_⟩
  obtain ⟨hl, q⟩ := mk_fin S1 d1 hn (by simp) p1
  obtain ⟨v, rfl⟩ := d1.one hl
  refine ⟨by simp, fun a ha => ⟨a, v, rfl, upd_same, fun dx hd ne => ⟨rfl, dx, [(f, v)], upd_same, ?_, ?_, C, rfl, fun b hb => ?_⟩⟩⟩
  · rw [upd_ne ne, upd_same]
  · rw [upd_ne ne] at hd; exact hd
  · rw [upd_ne ne] at hd
    rw [xd_eq1 ha ne] at hb ⊢
    exact q dx hd b hb
/-- of a class with two fields -/
theorem je_mk2 {f g : Str} (T : InitOk2 X.K X.mg C f g) (hr : Room 2 X.A) (hg : Gl X x) (hm : X.mg x = some (.ref C)) (hn : ExcN X.K C x [f, g]) (hdb : (x == ("__debug__" : Str)) = false) (ha : JA X W (e :: es) rs) (hs : isStar e = false) (hpl : (backTo pos (starEach es X.env)).any (·.1) = false) :
    JE X W (.Call (.Name x p) (e :: es) [] pos) fun μ => (rs μ).bind fun ds μ1 => Rs.opt (mkXD x [f, g] ds) μ1 := by
  obtain ⟨fI, Z, fd, st, qual, z, wn, xn, i1, i2, i3, i4, i5, i6, i7⟩ := T.ini
  refine pe_mono (pe_mk (pmk_oex T.oex i1 i2 (init_fn2 i3 i5 i6 i7 T.oex T.no T.no2) hr i4 .nil pass0 hg hm ha hdb (starEach_cons hs _ _) hpl)) fun σ H Q ⟨c, L, M, μ, S, p⟩ => ⟨c, L, M, μ, S, p.bind fun ds μ1 vs H1 S1 k1 d1 p1 => ?_⟩
  obtain ⟨hl, q⟩ := mk_fin S1 d1 hn (by simp) p1
  obtain ⟨v, w, rfl⟩ := d1.two hl
  refine ⟨by simp, fun a ha => ⟨a, v, w, rfl, upd_same, fun dx hd ne => ⟨rfl, dx, [(g, w), (f, v)], ?_, upd_same, ?_, C, rfl, fun b hb => ?_⟩⟩⟩
  · rw [upd_ne (Ne.symm ne), upd_same]
  · rw [upd_ne ne] at hd; exact hd
  · rw [upd_ne ne] at hd
    rw [xd_eq ha ne] at hb ⊢
    exact q dx hd b hb
end
/-! what it is -/
theorem strsOf_map (fl : List Str) : strsOf (fl.map .str) = some fl := by
  induction fl with
  | nil => rfl
  | cons f fl ih => simp [strsOf, ih]
@[simp] theorem excOf_exc (nm : Str) (fl : List Str) (fs : List D) : excOf (excD nm fl fs) = some (nm, fl, fs) := by
  unfold excD excOf
  simp only [strsOf_map, Option.map_some]
theorem Dv.exc_inv {K : PySem.W.Frag} {H : Hp} {L : Ads} {x : D} {v : V} {nm : Str} {fl : List Str} {ds : List D} (h : Dv K H L x v) (e : excOf x = some (nm, fl, ds)) : ∃ a C d vs, v = .ref a ∧ H a = some (EXO a C d) ∧ ExcN K C nm fl ∧ FldH H L d fl vs ∧ Dvs K H L ds vs := by
  cases h with
  | exc n r w f s => rw [excOf_exc] at e; cases e; exact ⟨_, _, _, _, rfl, r, w, f, s⟩
  | dct n r s =>
    cases s with
    | nil => cases e
    | cons g q t u =>
      cases u with
      | nil => cases e
      | cons _ _ _ _ => cases e
  | _ => cases e
theorem inst_EXO {X : Cx} {pins : List (Addr × Obj)} {σ : St} {H : Hp} {s : Shared} {L : Ads} {a C : Addr} {d : Option Addr} {fl : List Str} {vs : List V} (I : Inv X pins σ H s) (he : H a = some (EXO a C d)) (hf : FldH H L d fl vs) : ∃ oe od, PySem.W.InstAt s.heap a oe C od := by
  obtain ⟨oe, fv, h1, h2, h3, h4⟩ := EXO_at I.hok he
  rcases hf with ⟨_, _, rfl⟩ | ⟨da, rfl, _, ea⟩
  · exact ⟨oe, none, h1, h2, by unfold PySem.W.notCls; rw [h4] <;> rfl, by rw [h3]; trivial⟩
  · have hx : ObjOk X.prog X.w H s.heap da (.xd (fl.zip vs)) := I.hok da _ ea
    obtain ⟨mA, hns, hr⟩ := hx
    obtain ⟨od, ho, hl⟩ := lookIn_ns hns
    exact ⟨oe, some od, h1, h2, by unfold PySem.W.notCls; rw [h4] <;> rfl, by rw [h3]; exact ho⟩
def rIsV (K : PySem.W.Frag) : List V → Hp → VK → Prop := fun xs H Q => ∃ (L : Ads) (a C : Addr) (d : Option Addr) (fl : List Str) (vs : List V) (c : V) (cv : Value) (b : Bool), xs = [.ref a, c] ∧ H a = some (EXO a C d) ∧ ExcC K C ∧ FldH H L d fl vs ∧ (∀ u, RelV c u → u = cv) ∧ PySem.W.kitOne K (.ref C) cv = some b ∧ Q (.bl b) H
theorem call_isV {X : Cx} : CallR X (.builtin "isinstance") (rIsV X.K) := by
  rintro pins s σ H xs us Q I r ⟨L, a, C, d, fl, vs, c, cv, b, rfl, he, hC, hf, hcv, e, q⟩
  cases r with
  | cons rx rr =>
    cases rr with
    | cons rt rr =>
      cases rr
      cases rx
      have ec := hcv _ rt
      subst ec
      obtain ⟨oe, od, J⟩ := inst_EXO I he hf
      exact PySem.W.kia_one (kit_x hC) I.kIn J e (fun z => nomatch z) fun tk => ⟨.bl b, H, I.kept (t' := tk) fun _ _ z => z, rfl, q⟩
section
variable {X : Cx} {W : WXm} {a : Expr} {ra : Mu → Rs D} {p p1 pos : Pos} {y : Str} {tab : List (Str × Bool)}
/-- isinstance(e, y) -/
theorem je_isX {cv : Value} (hg : Gl X "isinstance") (hm : X.mg "isinstance" = none) (hy : NmV X.mg y cv) (gy : Gl X y) (dy : (y == ("__debug__" : Str)) = false) (htab : ∀ nm b, tab.lookup nm = some b → ∃ C, PySem.W.nsIn X.K mainGlobals nm = some (some (.ref C)) ∧ PySem.W.kitOne X.K (.ref C) cv = some b) (ha : JE X W a ra) (hs : isStar a = false) :
    JE X W (.Call (.Name "isinstance" p) [a, .Name y p1] [] pos) fun μ => (ra μ).bind fun x μ1 => Rs.opt (isXD tab x) μ1 := by
  refine pe_mono (pe_callB call_isV hg hm (by decide +kernel) (pa_cons ha (pa_cons (pe_nmv hy gy dy) pa_nil (starEach_cons rfl _ _)) (starEach_cons hs _ _)) (by decide) (by decide) (starEach_cons hs _ _) (backTo_plain rfl))
    fun σ H Q ⟨c, L, M, μ, S, p⟩ => ⟨c, L, M, μ, S, p.bind fun x μ1 v H1 S1 k1 d1 p1 => ?_⟩
  obtain ⟨z, e, q⟩ := p1.opt
  unfold isXD at e
  split at e
  · rename_i nm fl fs hx
    have d1 : Dv X.K H1 L x v := d1
    obtain ⟨a0, C, d, vs, rfl, he, w, hf, _⟩ := d1.exc_inv hx
    cases ht : tab.lookup nm with
    | none => rw [ht] at e; cases e
    | some b =>
      rw [ht] at e; cases e
      obtain ⟨C', n1, n2⟩ := htab nm b ht
      have : C' = C := by have := n1.symm.trans w.ns; cases this; rfl
      subst this
      exact ⟨L, a0, C', d, fl, vs, vOf cv, cv, b, rfl, he, w.ex, hf, hy.rel.2, n2, q _ _ S1 .refl (.bl _)⟩
  · cases e
/-- e.f -/
theorem lookup_zip {K : PySem.W.Frag} {H : Hp} {L : Ads} {f : Str} {z : D} : ∀ {fl : List Str} {ds : List D} {vs : List V}, Dvs K H L ds vs → (fl.zip ds).lookup f = some z → ∃ v, (fl.zip vs).lookup f = some v ∧ Dv K H L z v ∧ f ∈ fl
  | [], _, _, _, e => by simp at e
  | g :: fl, _, _, .nil, e => by simp at e
  | g :: fl, _, _, .cons (d := d) (v := v) (ds := ds) (vs := vs) x t, e => by
    simp only [List.zip_cons_cons, List.lookup_cons] at e ⊢
    split at e
    · rename_i h
      rw [beq_iff_eq] at h
      subst h
      cases e
      exact ⟨v, by simp, x, List.mem_cons_self⟩
    · rename_i h
      obtain ⟨v', e1, e2, e3⟩ := lookup_zip (fl := fl) t e
      refine ⟨v', ?_, e2, List.mem_cons_of_mem _ e3⟩
      exact e1
theorem je_fldX {f : Str} {r : Mu → Rs D} (ha : JE X W a ra) (hb : attributeBase a f X.env (eval a X.env) = eval a X.env) :
    JE X W (.Attribute a f pos) fun μ => (ra μ).bind fun x μ1 => Rs.opt (fldXD f x) μ1 := by
  refine ⟨fun pins s σ H Q I ⟨c, L, M, μ, S, p⟩ => ?_⟩
  refine attr_of hb (thn (ha.run pins s σ H (fun v H1 => ∃ (L : Ads) (a C : Addr) (dd : Addr) (fl : List Str) (vs : List V) (w : V), v = .ref a ∧ H1 a = some (EXO a C (some dd)) ∧ ExcC X.K C ∧ PySem.W.findIn X.K (.ref C) f = some none ∧ H1 dd = some (.xd (fl.zip vs)) ∧ (fl.zip vs).lookup f = some w ∧ Q w H1) I ⟨c, L, M, μ, S, p.bind fun x μ1 v H1 S1 k1 d1 p1 => ?_⟩) fun u s1 ⟨v, H1, I1, rx, L1, a0, C, dd, fl, vs, w, ev, he, hC, no, ed, l, q⟩ => ?_)
  · obtain ⟨z, e, q⟩ := p1.opt
    unfold fldXD at e
    split at e
    · rename_i nm fl fs hx
      have d1 : Dv X.K H1 L x v := d1
      obtain ⟨a0, C, d, vs, rfl, he, w, hf, hv⟩ := d1.exc_inv hx
      obtain ⟨v, e1, e2, e3⟩ := lookup_zip hv e
      rcases hf with ⟨rfl, _, _⟩ | ⟨da, rfl, _, ea⟩
      · cases e3
      · exact ⟨L, a0, C, da, fl, vs, v, rfl, he, w.ex, w.no f e3, ea, e1, q _ _ S1 .refl e2⟩
    · cases e
  · subst ev
    obtain rfl : u = Value.ref a0 := rx
    obtain ⟨oe, fv, h1, h2, h3, h4⟩ := EXO_at I1.hok he
    have hx : ObjOk X.prog X.w H1 s1.heap dd (.xd (fl.zip vs)) := I1.hok dd _ ed
    obtain ⟨mA, hns, hr⟩ := hx
    obtain ⟨od, ho, hl⟩ := lookIn_ns hns
    obtain ⟨u, hu, ru⟩ := RelO.some_of (v := w) (o := mA f) (by rw [← l]; exact hr f)
    have J : PySem.W.InstAt s1.heap a0 oe C (some od) := ⟨h1, h2, by unfold PySem.W.notCls; rw [h4] <;> rfl, by rw [h3]; exact ho⟩
    exact PySem.HandSPX.exc_get I1.kIn J hC.hg hC.hk hC.hs (PySem.W.findObj_own hC.hd no rfl (by rw [hl, hu])) (handed_of ru) ⟨w, H1, I1.tok _, ru, q⟩
end
/-! the text -/
theorem NmV.det {mg : Str → Option Value} {y : Str} {c1 c2 : Value} (h1 : NmV mg y c1) (h2 : NmV mg y c2) : c1 = c2 := by
  rcases h1.at_ with a | ⟨a1, a2, _⟩ <;> rcases h2.at_ with b | ⟨b1, b2, _⟩
  · rw [a] at b; cases b; rfl
  · rw [a] at b1; cases b1
  · rw [a1] at b; cases b
  · rw [a2] at b2; cases b2; rfl
theorem lookup_mem' {β : Type} {tab : List (Str × β)} {x : Str} {d : β} (h : tab.lookup x = some d) : (x, d) ∈ tab := by
  induction tab with
  | nil => cases h
  | cons p r ih =>
    obtain ⟨y, e⟩ := p
    rw [List.lookup_cons] at h
    split at h
    · rename_i q
      rw [beq_iff_eq] at q
      cases h; subst q; exact List.mem_cons_self
    · exact List.mem_cons_of_mem _ (ih h)
/-- by classes whether they are under y -/
def tabX (gls : List (Str × D)) (y : Str) (tab : List (Str × Bool)) : Bool := !tab.isEmpty && tab.all fun p => match gls.lookup p.1 with
  | some d => (match clsOf d with
    | some (_, sups) => decide (p.2 = decide (y ∈ sups))
    | none => false)
  | none => false
def mkT (gls : List (Str × D)) (y : Str) (fl : List Str) : Bool := match gls.lookup y with
  | some d => (clsOf d).isSome && decide (fldsOf d = fl)
  | none => false
/-- a class without fields is made with a text -/
def mkC0 (es : Es) (xs : List Expr) : Bool := match es, xs with
  | .cons (.str m) .nil, [.Constant (.str m') _ _] => decide (m = m')
  | _, _ => false
theorem mkC0_of {es : Es} {xs : List Expr} (h : mkC0 es xs = true) : ∃ m j p, es = .cons (.str m) .nil ∧ xs = [.Constant (.str m) j p] := by
  unfold mkC0 at h
  split at h
  · have h := of_decide_eq_true h
    subst h
    exact ⟨_, _, _, rfl, rfl⟩
  · cases h
theorem ClsOk.excN {K : PySem.W.Frag} {mg : Str → Option Value} {C : Addr} {fl : List Str} {nm : Str} (ok : ClsOk K mg C fl nm) (hl : fl.length ≤ 2) : ExcN K C nm fl := by
  refine ⟨ok.nk, ok.xc, fun f hf => ?_⟩
  match fl, ok, hl, hf with
  | [g], ok, _, hf => rw [List.mem_singleton] at hf; subst hf; exact (ok.ini f rfl).no
  | [g, g'], ok, _, hf =>
    simp only [List.mem_cons, List.not_mem_nil, or_false] at hf
    rcases hf with rfl | rfl
    · exact (ok.ini2 f g' rfl).no
    · exact (ok.ini2 g f rfl).no2
end Mn
set_option Elab.async false
set_option linter.all false
set_option maxRecDepth 100000
set_option autoImplicit false
namespace Mn
open PySem PySem.Spec L2
/-! ## the text against the small language -/
structure Cn where
  N : List Str
  sc : Scope
  ios : List Nat
  fn : Str → Bool
def isLoc : Option NameKind → Bool
  | some .local => true
  | _ => false
def isCel : Option NameKind → Bool
  | some .cell => true
  | _ => false
def isFre : Option NameKind → Bool
  | some .free => true
  | _ => false
def isGlo : Option NameKind → Bool
  | some .globalImplicit => true
  | _ => false
def kindB (sc : Scope) (x : Str) : Option NameKind := sc.names.lookup x
def visB (sc : Scope) (x : Str) : Bool := isLoc (kindB sc x) || isCel (kindB sc x) || isFre (kindB sc x)
def glB (sc : Scope) (x : Str) : Bool := isGlo (kindB sc x)
def nmOk (C : Cn) (i : Nat) (x : Str) : Bool := decide (C.N[i]? = some x) && visB C.sc x && !(x == ("__debug__" : Str)) && !(x == ("__classdict__" : Str))
def gnOk (C : Cn) (x : Str) : Bool := glB C.sc x && !(x == ("__debug__" : Str))
/-- a name that is given a value -/
def tnOk (C : Cn) (i : Nat) (x : Str) : Bool := decide (C.N[i]? = some x) && (isLoc (kindB C.sc x) || (isCel (kindB C.sc x) && C.fn x))
def bopB : BOp → Operator → Bool
  | .add, .Add => true | .sub, .Sub => true | .mul, .Mult => true | .fdiv, .FloorDiv => true | .mod, .Mod => true | .pow, .Pow => true
  | _, _ => false
def copB : COp → CmpOp → Bool
  | .eq, .Eq => true | .ne, .NotEq => true | .lt, .Lt => true | .le, .LtE => true | .gt, .Gt => true | .ge, .GtE => true | .isin, .In => true | .notin, .NotIn => true | .isn, .Is => true | .isnot, .IsNot => true
  | _, _ => false
def isIfe : Expr → Bool
  | .IfExp _ _ _ _ => true
  | _ => false
def b1Name : B1 → Str
  | .len => "len" | .abs => "abs" | .all => "all" | .any => "any" | .sum => "sum" | .max => "max" | .min => "min" | .tuple => "tuple" | .repr => "repr" | .str => "str" | .int => "int"
def b2Name : B2 → Str
  | .max => "max" | .min => "min"
mutual
def beqD : D → D → Bool
  | .int i, .int j => decide (i = j)
  | .str x, .str y => decide (x = y)
  | .bool x, .bool y => decide (x = y)
  | .none, .none => true
  | .tuple xs, .tuple ys => beqDs xs ys
  | _, _ => false
def beqDs : List D → List D → Bool
  | [], [] => true
  | x :: xs, y :: ys => beqD x y && beqDs xs ys
  | _, _ => false
end
theorem beqD_noc {x y : D} (h : beqD x y = true) : clsOf x = none := by
  cases x <;> first | rfl | (cases y <;> simp [beqD] at h)
mutual
theorem beqD_eq : ∀ {x y : D}, beqD x y = true → x = y
  | .int i, .int j, h => by unfold beqD at h; rw [of_decide_eq_true h]
  | .str i, .str j, h => by unfold beqD at h; rw [of_decide_eq_true h]
  | .bool i, .bool j, h => by unfold beqD at h; rw [of_decide_eq_true h]
  | .none, .none, h => rfl
  | .tuple xs, .tuple ys, h => by unfold beqD at h; rw [beqDs_eq h]
  | .int _, .str _, h | .int _, .bool _, h | .int _, .none, h | .int _, .tuple _, h | .int _, .list _, h | .int _, .dict _, h => by simp [beqD] at h
  | .str _, .int _, h | .str _, .bool _, h | .str _, .none, h | .str _, .tuple _, h | .str _, .list _, h | .str _, .dict _, h => by simp [beqD] at h
  | .bool _, .int _, h | .bool _, .str _, h | .bool _, .none, h | .bool _, .tuple _, h | .bool _, .list _, h | .bool _, .dict _, h => by simp [beqD] at h
  | .none, .int _, h | .none, .str _, h | .none, .bool _, h | .none, .tuple _, h | .none, .list _, h | .none, .dict _, h => by simp [beqD] at h
  | .tuple _, .int _, h | .tuple _, .str _, h | .tuple _, .bool _, h | .tuple _, .none, h | .tuple _, .list _, h | .tuple _, .dict _, h => by simp [beqD] at h
  | .list _, _, h => by simp [beqD] at h
  | .dict _, _, h => by simp [beqD] at h
theorem beqDs_eq : ∀ {x y : List D}, beqDs x y = true → x = y
  | [], [], _ => rfl
  | x :: xs, y :: ys, h => by
    unfold beqDs at h
    rw [Bool.and_eq_true] at h
    rw [beqD_eq h.1, beqDs_eq h.2]
  | [], _ :: _, h => by simp [beqDs] at h
  | _ :: _, [], h => by simp [beqDs] at h
end
def Es.len : Es → Nat
  | .nil => 0
  | .cons _ r => r.len + 1
def As.len : As → Nat
  | .nil => 0
  | .cons _ r => r.len + 1
/-- targets -/
def chkTs (C : Cn) : List Nat → List Expr → Bool
  | [], es => es.isEmpty
  | i :: is, es => match es with
    | e :: r => (match e with
      | .Name x _ => tnOk C i x && chkTs C is r
      | _ => false)
    | [] => false
def chkT (C : Cn) (t : List Nat) (tup : Bool) (tg : Expr) : Bool := match tup with
  | false => match t, tg with
    | [i], .Name x _ => tnOk C i x
    | _, _ => false
  | true => match tg with
    | .Tuple es _ _ => chkTs C t es
    | _ => false
def isTupE : Expr → Bool
  | .Tuple _ _ _ => true
  | _ => false
def isSetE : Expr → Bool
  | .Set _ _ _ => true
  | _ => false
def ownOf (C : Cn) (t : List Nat) : List (Str × Nat) := t.map fun i => (C.N.getD i "", i)
/-- the frame of a comprehension's block -/
def Cn.blk (C : Cn) (scope : Scope) : Cn := ⟨C.N, relS scope C.sc, C.ios, fun x => scope.names.lookup x == some .cell⟩
section
variable (fns : List Fn) (gls : List (Str × D))
mutual
def chkE : Cn → E → Expr → Bool
  | C, .var i, x => match x with
    | .Name y _ => nmOk C i y
    | _ => false
  | C, .int i, x => match x with
    | .Constant (.int j) _ _ => decide (i = j)
    | _ => false
  | C, .bl i, x => match x with
    | .Constant (.bool j) _ _ => decide (i = j)
    | _ => false
  | C, .str i, x => match x with
    | .Constant (.str j) _ _ => decide (i = j)
    | _ => false
  | C, .non, x => match x with
    | .Constant .none _ _ => true
    | _ => false
  | C, .glob y d, x => match x with
    | .Name z _ => decide (z = y) && gnOk C z && (match gls.lookup y with
      | some d' => beqD d d'
      | none => false)
    | _ => false
  | C, .bin op a b, x => match x with
    | .BinOp ea o eb _ => bopB op o && chkE C a ea && chkE C b eb
    | _ => false
  | C, .neg a, x => match x with
    | .UnaryOp .USub ea _ => chkE C a ea
    | _ => false
  | C, .cmp op a b, x => match x with
    | .Compare ea [o] [eb] _ => copB op o && !behindInMarks o eb && chkP C a ea && chkP C b eb
    | _ => false
  | C, .and es, x => match x with
    | .BoolOp .And xs _ => chkBs C es xs && decide (2 ≤ es.len)
    | _ => false
  | C, .or es, x => match x with
    | .BoolOp .Or xs _ => chkBs C es xs && decide (2 ≤ es.len)
    | _ => false
  | C, .not a, x => match x with
    | .UnaryOp .Not ea _ => chkE C a ea && !isIfe ea
    | _ => false
  | C, .ife c a b, x => match x with
    | .IfExp ec ea eb _ => chkE C c ec && !isIfe ec && chkE C a ea && chkE C b eb
    | _ => false
  | C, .tup es, x => match x with
    | .Tuple xs _ _ => chkEs C es xs && decide (es.len ≤ 1000)
    | _ => false
  | C, .ix a b, x => match x with
    | .Subscript ea eb _ => !isSlice eb && chkP C a ea && chkE C b eb
    | _ => false
  | C, .sl a lo hi, x => match a with
    | .e a' => match x with
      | .Subscript ea (.Slice l h none _) _ => chkE C a' ea && chkO C lo l && chkO C hi h
      | _ => false
    | .pk _ => false
  | C, .slSt a c, x => match x with
    | .Subscript ea (.Slice none none (some st) _) _ => chkE C a ea && (match st with
      | .Constant (.int j) _ _ => decide (c = j) && decide (j = 2)
      | .UnaryOp .USub (.Constant (.int j) _ _) _ => decide (c = -1) && decide (j = 1)
      | _ => false)
    | _ => false
  | C, .fre f, x => chkF C f x
  | C, .call f as, x => match x with
    | .Call (.Name y _) xs [] _ => gnOk C y && (match fns[f]? with
      | some fn => decide (fn.nm = y) && decide (as.len = fn.ps.length) && decide (1 ≤ as.len) && chkAs C as xs
      | none => false)
    | _ => false
  | C, .b1 b p, x => match x with
    | .Call (.Name y _) [ea] [] _ => decide (y = b1Name b) && glB C.sc y && !isStar ea && chkP C p ea
    | _ => false
  | C, .b2 b p q, x => match x with
    | .Call (.Name y _) [ea, eb] [] _ => decide (y = b2Name b) && glB C.sc y && !isStar ea && !isStar eb && chkE C p ea && chkE C q eb
    | _ => false
  | C, .isi a t, x => match x with
    | .Call (.Name y _) [ea, .Name z _] [] _ => decide (y = "isinstance") && glB C.sc y && decide (z = Str.ofString (tyName t)) && glB C.sc z && !isStar ea && chkE C a ea
    | _ => false
  | C, .dix a b, x => match x with
    | .Subscript ea eb _ => !isSlice eb && chkP C a ea && chkE C b eb
    | _ => false
  | C, .get p k d, x => match x with
    | .Call (.Attribute (.Name y py) m apos) [ea, eb] [] cpos => decide (m = "get") && !isStar ea && !isStar eb && (apos.endLine == cpos.line) && chkP C p (.Name y py) && chkE C k ea && chkE C d eb
    | _ => false
  | C, .pop i b, x => match x with
    | .Call (.Attribute (.Name y _) m apos) [eb] [] cpos => decide (m = "pop") && nmOk C i y && !isStar eb && (apos.endLine == cpos.line) && chkE C b eb
    | _ => false
  | C, .jn s p, x => match x with
    | .Call (.Attribute eo m apos) [ea] [] cpos => decide (m = "join") && !isStar ea && noCall0 eo && (apos.endLine == cpos.line) && chkE C s eo && chkP C p ea
    | _ => false
  | C, .find o a, x => match x with
    | .Call (.Attribute eo m apos) [ea] [] cpos => decide (m = "find") && !isStar ea && noCall0 eo && (apos.endLine == cpos.line) && chkE C o eo && chkE C a ea
    | _ => false
  | _, .repl _ _ _, _ => false
  | C, .upper o, x => match x with
    | .Call (.Attribute eo m apos) [] [] cpos => decide (m = "upper") && noCall0 eo && (apos.endLine == cpos.line) && chkE C o eo
    | _ => false
  | C, .mkX y fl es, x => match x with
    | .Call (.Name z _) (ea :: eas) [] _ => decide (z = y) && gnOk C z && mkT gls z fl && !isStar ea && eas.all (fun e => !isStar e) && decide (fl.length ≤ 2) && (if fl.isEmpty then mkC0 es (ea :: eas) else chkEs C es (ea :: eas))
    | _ => false
  | C, .isX a y tab, x => match x with
    | .Call (.Name f _) [ea, .Name z _] [] _ => decide (f = "isinstance") && glB C.sc f && decide (z = y) && gnOk C z && (qNames gls).contains z && !isStar ea && tabX gls z tab && chkE C a ea
    | _ => false
  | C, .fldX a f, x => match x with
    | .Attribute ea g _ => decide (g = f) && noCall0 ea && chkE C a ea
    | _ => false
def chkEs : Cn → Es → List Expr → Bool
  | _, .nil, [] => true
  | C, .cons e es, x :: xs => !isStar x && chkE C e x && chkEs C es xs
  | _, _, _ => false
def chkBs : Cn → Es → List Expr → Bool
  | _, .nil, [] => true
  | C, .cons e es, x :: xs => !isIfe x && chkE C e x && chkBs C es xs
  | _, _, _ => false
def chkP : Cn → P → Expr → Bool
  | C, .e e, x => chkE C e x
  | C, .pk i, x => match x with
    | .Name y _ => nmOk C i y
    | _ => false
def chkH : Cn → P → Expr → Bool
  | C, .e (.fre f), x => chkF C f x
  | C, .pk i, x => match x with
    | .Name y _ => nmOk C i y
    | _ => false
  | _, _, _ => false
def chkO : Cn → O → Option Expr → Bool
  | _, .none, none => true
  | C, .some e, some x => chkE C e x
  | _, _, _ => false
def chkA : Cn → A → Expr → Bool
  | C, .v e, x => chkE C e x
  | C, .io i, x => match x with
    | .Name y _ => nmOk C i y
    | _ => false
def chkAs : Cn → As → List Expr → Bool
  | _, .nil, [] => true
  | C, .cons e es, x :: xs => !isStar x && chkA C e x && chkAs C es xs
  | _, _, _ => false
def chkF : Cn → FE → Expr → Bool
  | C, .disp es, x => match x with
    | .List xs _ => chkEs C es xs && decide (es.len ≤ 1000)
    | _ => false
  | C, .comp elt t tup it c, x => match x with
    | .ListComp ex [⟨tg, iter, ifs, n⟩] scope _ => decide (n = 0) && chkI C it tg iter && !isSetE iter && blkC C.N C.sc scope (ownOf C t) && chkT (C.blk scope) t tup tg && chkE (C.blk scope) elt ex && chkO1 (C.blk scope) c ifs
    | _ => false
  | C, .listOf it, x => match it with
    | .rng1 a => match x with
      | .Call (.Name y _) [.Call (.Name z _) [ea] [] _] [] _ => decide (y = "list") && glB C.sc y && decide (z = "range") && glB C.sc z && !isStar ea && chkE C a ea
      | _ => false
    | .seq p => match x with
      | .Call (.Name y _) [ea] [] _ => decide (y = "list") && glB C.sc y && !isStar ea && chkP C p ea
      | _ => false
    | _ => false
  | C, .cat a b, x => match x with
    | .BinOp ea .Add eb _ => chkH C a ea && chkH C b eb
    | _ => false
  | C, .rep a b, x => match x with
    | .BinOp ea .Mult eb _ => chkH C a ea && chkE C b eb
    | _ => false
  | C, .sortedRev p, x => match x with
    | .Call (.Name y _) [ea] [⟨some r, .Constant (.bool true) _ _, _⟩] _ => decide (y = "sorted") && glB C.sc y && decide (r = "reverse") && !isStar ea && chkP C p ea
    | _ => false
  | _, .dict0, x => match x with
    | .Dict [] [] _ => true
    | _ => false
  | C, .dict2 a b c d, x => match x with
    | .Dict [some ea, some ec] [eb, ed] _ => chkE C a ea && chkE C b eb && chkE C c ec && chkE C d ed
    | _ => false
  | C, .dictOf a, x => match x with
    | .Call (.Name y _) [ea] [] _ => decide (y = "dict") && glB C.sc y && !isStar ea && chkE C a ea
    | _ => false
  | C, .call f as, x => match x with
    | .Call (.Name y _) xs [] _ => gnOk C y && (match fns[f]? with
      | some fn => decide (fn.nm = y) && decide (as.len = fn.ps.length) && decide (1 ≤ as.len) && chkAs C as xs
      | none => false)
    | _ => false
  | C, .split o a, x => match x with
    | .Call (.Attribute eo m apos) [ea] [] cpos => decide (m = "split") && !isStar ea && noCall0 eo && (apos.endLine == cpos.line) && chkE C o eo && chkE C a ea
    | _ => false
/-- the one test of a comprehension -/
def chkO1 : Cn → O → List Expr → Bool
  | _, .none, [] => true
  | C, .some e, [x] => !isIfe x && chkE C e x
  | _, _, _ => false
def chkI : Cn → I → Expr → Expr → Bool
  | C, .seq p, _, x => chkP C p x
  | C, .rng1 a, _, x => match x with
    | .Call (.Name y _) [ea] [] _ => decide (y = "range") && glB C.sc y && !isStar ea && chkE C a ea
    | _ => false
  | C, .rng2 a b, _, x => match x with
    | .Call (.Name y _) [ea, eb] [] _ => decide (y = "range") && glB C.sc y && !isStar ea && !isStar eb && chkE C a ea && chkE C b eb
    | _ => false
  | _, .rng3 _ _ _, _, _ => false
  | C, .zip a b, tg, x => match x with
    | .Call (.Name y _) [ea, eb] [] _ => decide (y = "zip") && glB C.sc y && !isStar ea && !isStar eb && isTupE tg && chkE C a ea && chkE C b eb
    | _ => false
  | _, .enum _, _, _ => false
  | _, .rev _, _, _ => false
  | _, .revr _, _, _ => false
end
/-! statements -/
def isCmp : Expr → Bool
  | .ListComp _ _ _ _ => true
  | .SetComp _ _ _ _ => true
  | .DictComp _ _ _ _ _ => true
  | _ => false
/-- name = e: does the store come within the comprehension? -/
def swB (C : Cn) (x : Str) (ps : Pos) : Expr → Option Bool
  | .ListComp _ [⟨_, _, _, _⟩] scope pos => if isLoc (kindB C.sc x) && (ps.line == pos.line) && !(scope.names.any fun (n, k) => n == x && (k == .local || k == .cell)) then some true else
      if !(isLoc (kindB C.sc x)) then some false else none
  | e => if isCmp e then none else some false
def foldB (a b : Expr) : Bool := !([a, b].all (foldedForSure 8)) && !([a, b].all (constantsAlone 8))
/-- the values that a clause sets are plain ones -/
def chkDs (h : Hd) : Bool := (match h.pre with
  | some (.str _) => true
  | some (.bool _) => true
  | some .none => true
  | none => true
  | _ => false) && (match h.v with
  | .str _ => true
  | .bool _ => true
  | .none => true
  | _ => false)
def foldC (a b c : Expr) : Bool := !([a, b, c].all (foldedForSure 8)) && !([a, b, c].all (constantsAlone 8))
/-- x, y, z = a, b, c -/
def par3B (C : Cn) (is : List Nat) (e : E) (xs : List Expr) (v : Expr) : Bool := match is, e, xs, v with
  | [i, j, l], .tup (.cons a (.cons b (.cons c .nil))), [.Name x px, .Name y py, .Name z pz], .Tuple [ea, eb, ec] _ _ =>
    (decide (C.N[i]? = some x) && decide (C.N[j]? = some y) && decide (C.N[l]? = some z)) && (!(i == j) && !(i == l) && !(j == l)) && (!(x == y) && !(x == z) && !(y == z)) && (isLoc (kindB C.sc x) && isLoc (kindB C.sc y) && isLoc (kindB C.sc z)) && ((px.line == py.line) && (px.line == pz.line)) && (!isStar ea && !isStar eb && !isStar ec) && foldC ea eb ec && (!C.ios.contains i && !C.ios.contains j && !C.ios.contains l) && (chkE fns gls C a ea && chkE fns gls C b eb && chkE fns gls C c ec)
  | _, _, _, _ => false
mutual
def chkS : Cn → S → Stmt → Bool
  | C, .asg i e, s => match s with
    | .Assign [.Name x px] v _ => tnOk C i x && !C.ios.contains i && chkE fns gls C e v && (swB C x px v).isSome
    | _ => false
  | C, .own i f, s => match s with
    | .Assign [.Name x px] v _ => tnOk C i x && !C.ios.contains i && chkF fns gls C f v && (swB C x px v).isSome
    | _ => false
  | C, .par i j a b, s => match s with
    | .Assign [.Tuple [.Name x px, .Name y py] _ _] (.Tuple [ea, eb] _ _) _ => decide (C.N[i]? = some x) && decide (C.N[j]? = some y) && !(i == j) && !(x == y) && isLoc (kindB C.sc x) && isLoc (kindB C.sc y) && (px.line == py.line) && !isStar ea && !isStar eb && foldB ea eb && !C.ios.contains i && !C.ios.contains j && chkE fns gls C a ea && chkE fns gls C b eb
    | _ => false
  | C, .unp is e, s => match s with
    | .Assign [.Tuple xs _ _] v _ => (!isTupE v && !isCmp v && chkTs C is xs && is.all (fun i => !C.ios.contains i) && chkE fns gls C e v) || par3B fns gls C is e xs v
    | _ => false
  | C, .unpL is e, s => match s with
    | .Assign [.Tuple xs _ _] v _ => !isTupE v && chkTs C is xs && is.all (fun i => !C.ios.contains i) && chkE fns gls C e v
    | _ => false
  | C, .seti i k e, s => match s with
    | .Assign [.Subscript (.Name x _) ek _] v _ => nmOk C i x && chkE fns gls C k ek && chkE fns gls C e v && !isCmp v && !isSlice ek
    | _ => false
  | C, .dset i k e, s => match s with
    | .Assign [.Subscript (.Name x _) ek _] v _ => nmOk C i x && chkE fns gls C k ek && chkE fns gls C e v && !isCmp v && !isSlice ek
    | _ => false
  | C, .app i e, s => match s with
    | .Expr (.Call (.Attribute (.Name y _) m apos) [ee] [] cpos) _ => decide (m = "append") && nmOk C i y && !isStar ee && (apos.endLine == cpos.line) && chkE fns gls C e ee
    | _ => false
  | C, .ext i e, s => match s with
    | .Expr (.Call (.Attribute (.Name y _) m apos) [ee] [] cpos) _ => decide (m = "extend") && nmOk C i y && !isStar ee && (apos.endLine == cpos.line) && chkE fns gls C e ee
    | _ => false
  | _, .ins _ _ _, _ => false
  | _, .app2 _ _ _, _ => false
  | C, .ex e, s => match s with
    | .Expr v _ => chkE fns gls C e v && !isCmp v
    | _ => false
  | C, .ife c a b, s => match s with
    | .If ec A B _ => chkE fns gls C c ec && !isIfe ec && chkSs C a A && chkSs C b B
    | _ => false
  | C, .whl c b, s => match s with
    | .While ec B [] _ => chkE fns gls C c ec && !isIfe ec && chkSs C b B
    | _ => false
  | C, .for_ t tup it b, s => match s with
    | .For tg iter B [] _ => chkI fns gls C it tg iter && !isSetE iter && chkT C t tup tg && t.all (fun i => !C.ios.contains i) && chkSs C b B
    | _ => false
  | C, .ret e, s => match s with
    | .Return (some v) _ => chkE fns gls C e v
    | _ => false
  | C, .retF f, s => match s with
    | .Return (some v) _ => chkF fns gls C f v
    | _ => false
  | _, .pass, s => match s with
    | .Pass _ => true
    | _ => false
  | _, .never, _ => true
  | C, .rse c x fs, s => match s with
    | .Raise (some (.Call (.Name y _) [.Constant (.str w) _ _] [] _)) none _ => decide (y = x) && gnOk C y && (match gls.lookup y with
      | some d => (match clsOf d with
        | some (k, _) => decide (k = c) && (match fldsOf d, fs with
          | [], [] => true
          | [_], [.str v] => decide (v = w)
          | _, _ => false)
        | none => false)
      | none => false)
    | _ => false
  | C, .tryC b cn j v tab, s => match s with
    | .Try body [.ExceptHandler (some (.Name cx _)) none [.Assign [.Name y _] e _] _] [] [] _ => decide (cx = cn) && gnOk C cx && !C.ios.contains j && tnOk C j y && chkK v e && (match gls.lookup cx with
      | some d => (clsOf d).isSome
      | none => false) && tabC gls cn tab && chkSs C b body
    | _ => false
  | C, .tryL b cn j tab, s => match s with
    | .Try body [.ExceptHandler (some (.Name cx _)) none [.Assign [.Name y _] (.List [] _) _] _] [] [] _ => decide (cx = cn) && gnOk C cx && !C.ios.contains j && tnOk C j y && (match gls.lookup cx with
      | some d => (clsOf d).isSome
      | none => false) && tabC gls cn tab && chkSs C b body
    | _ => false
  | C, .tryX b h, s => match s with
    | .Try body [.ExceptHandler (some (.Name cn _)) (some n) su _] [] [] _ => decide (cn = h.cn) && gnOk C cn && isLoc (kindB C.sc n) && nmOk C h.i n && !C.ios.contains h.i && !C.ios.contains h.j && !(h.i == h.j) && (match C.N[h.j]? with
      | some jn => tnOk C h.j jn && chkSu n jn h su
      | none => false) && h.ts.all (fun t => (htNames t).all fun y => (qNames gls).contains y && gnOk C y) && (match gls.lookup cn with
      | some d => (clsOf d).isSome
      | none => false) && glB C.sc "isinstance" && tabOk gls h && chkDs h && fldT gls h && chkSs C b body
    | _ => false
def chkSs : Cn → Ss → List Stmt → Bool
  | _, .nil, [] => true
  | C, .cons s r, x :: xs => chkS C s x && chkSs C r xs
  | C, .frz i r, xs => !C.ios.contains i && chkSs C r xs
  | _, _, _ => false
end
end
end Mn
set_option Elab.async false
set_option linter.all false
set_option maxRecDepth 100000
set_option autoImplicit false
namespace Mn
open PySem PySem.Spec L2
/-! ## what is checked is so -/
def bltNames : List Str := ["len", "abs", "all", "any", "sum", "max", "min", "tuple", "repr", "str", "int", "isinstance", "range", "zip", "list", "bool", "enumerate", "reversed", "sorted", "dict"]
structure Good (fns : List Fn) (gls : List (Str × D)) (Wn k : Nat) (xr : XRl) (C : Cn) (X : Cx) (W : WXm) : Prop where
  N : X.N = C.N
  nd : X.N.Nodup
  sc : X.env.scope = C.sc
  fn : ∀ x, C.fn x = true → X.fn x = true
  calm : X.calm = true
  room : Room (k + 2) X.A
  gd : X.A.guards = some []
  fns : ∀ f fn, fns[f]? = some fn → ∃ fa fd, X.mg fn.nm = some (.ref fa) ∧ PySem.W.keepIn X.K (.ref fa) = true ∧ Binds X.K fd fn.ps [] ∧ FnG X.prog X.w X.K X.mg X.base (L2.CX X.prog X.w) (k + 2) fa fd fn.ps (spF X.K xr fn.ps.length (sem fns Wn k f))
  blt : ∀ x ∈ bltNames, X.mg x = none
  gl : ∀ x d, gls.lookup x = some d → clsOf d = none → ∃ v u, X.mg x = some u ∧ RelV v u ∧ ∀ H L, Dv X.K H L d v
  cl : ∀ x d k sups, gls.lookup x = some d → clsOf d = some (k, sups) → ∃ C, X.mg x = some (.ref C) ∧ ClsOk X.K X.mg C (fldsOf d) x ∧ ∀ y ∈ qNames gls, SupOk2 X.K X.mg C sups y
  xs : xr = xrG X.mg gls
  tk : Takes X (wx xr W)
section
variable {fns : List Fn} {gls : List (Str × D)} {Wn k : Nat} {xr : XRl} {C : Cn} {X : Cx} {W : WXm}
theorem takes_no {X : Cx} : Takes X (wx xr W0) := fun u s' ⟨a, B, sI, pins, σ, H, cls, d, e, I, nb, up, sky, na, os, ag, w⟩ => by
  obtain ⟨x, _, h⟩ := w
  exact h.elim
theorem Good.blk (G : Good fns gls Wn k xr C X W) (s : Shared) (H : Hp) (scope : Scope) (cl : List (Str × Addr)) (A : Addr) (fp : List Addr) : Good fns gls Wn k xr (C.blk scope) (X.blk s H scope (compEnvC scope cl A X.env) fp) W0 where
  N := G.N
  nd := G.nd
  sc := by show relS scope X.env.scope = relS scope C.sc; rw [G.sc]
  fn := fun x h => h
  calm := G.calm
  room := G.room
  gd := G.gd
  fns := G.fns
  blt := G.blt
  gl := G.gl
  cl := G.cl
  xs := G.xs
  tk := takes_no
theorem isLoc_of {o : Option NameKind} (h : isLoc o = true) : o = some .local := by
  unfold isLoc at h; split at h
  · rfl
  · cases h
theorem isCel_of {o : Option NameKind} (h : isCel o = true) : o = some .cell := by
  unfold isCel at h; split at h
  · rfl
  · cases h
theorem isFre_of {o : Option NameKind} (h : isFre o = true) : o = some .free := by
  unfold isFre at h; split at h
  · rfl
  · cases h
theorem isGlo_of {o : Option NameKind} (h : isGlo o = true) : o = some .globalImplicit := by
  unfold isGlo at h; split at h
  · rfl
  · cases h
theorem Good.nm (G : Good fns gls Wn k xr C X W) {i : Nat} {x : Str} (h : nmOk C i x = true) : X.N[i]? = some x ∧ Vis X.env.scope x ∧ (x == ("__debug__" : Str)) = false ∧ (x == ("__classdict__" : Str)) = false := by
  unfold nmOk visB at h
  simp only [Bool.and_eq_true, Bool.or_eq_true, decide_eq_true_eq, Bool.not_eq_true'] at h
  obtain ⟨⟨⟨h1, h2⟩, h3⟩, h4⟩ := h
  refine ⟨by rw [G.N]; exact h1, ?_, h3, h4⟩
  rw [G.sc]
  rcases h2 with (h2 | h2) | h2
  · exact .inl (isLoc_of h2)
  · exact .inr (.inl (isCel_of h2))
  · exact .inr (.inr (isFre_of h2))
theorem Good.tn (G : Good fns gls Wn k xr C X W) {i : Nat} {x : Str} (h : tnOk C i x = true) : X.N[i]? = some x ∧ Loc X.env.scope x ∧ (X.fn x = true ∨ X.env.scope.names.lookup x = some .local) := by
  unfold tnOk at h
  simp only [Bool.and_eq_true, Bool.or_eq_true, decide_eq_true_eq] at h
  refine ⟨by rw [G.N]; exact h.1, ?_⟩
  rw [G.sc]
  rcases h.2 with h2 | ⟨h2, h3⟩
  · exact ⟨.inl (isLoc_of h2), .inr (isLoc_of h2)⟩
  · exact ⟨.inr (isCel_of h2), .inl (G.fn x h3)⟩
theorem Good.glo (G : Good fns gls Wn k xr C X W) {x : Str} (h : glB C.sc x = true) : Gl X x := by
  show X.env.scope.names.lookup x = some .globalImplicit
  rw [G.sc]; exact isGlo_of h
theorem Good.gn (G : Good fns gls Wn k xr C X W) {x : Str} (h : gnOk C x = true) : Gl X x ∧ (x == ("__debug__" : Str)) = false := by
  unfold gnOk at h
  simp only [Bool.and_eq_true, Bool.not_eq_true'] at h
  exact ⟨G.glo h.1, h.2⟩
theorem Good.un (G : Good fns gls Wn k xr C X W) : X.A.units + 64 < cLine := by have := G.room.un; omega
/-! targets -/
theorem chkTs_cons {i : Nat} {is : List Nat} {es : List Expr} (h : chkTs C (i :: is) es = true) : ∃ x p r, es = .Name x p :: r ∧ tnOk C i x = true ∧ chkTs C is r = true := by
  unfold chkTs at h
  split at h
  · split at h
    · rename_i x p
      rw [Bool.and_eq_true] at h
      exact ⟨x, p, _, rfl, h.1, h.2⟩
    · cases h
  · cases h
theorem names_star (env : Env) : ∀ (is : List Nat) (es : List Expr), chkTs C is es = true → (assignEach es env).length = is.length ∧ (assignEach es env).findIdx? (·.1) = none := by
  intro is
  induction is with
  | nil => intro es h; unfold chkTs at h; rw [List.isEmpty_iff] at h; subst h; exact ⟨rfl, rfl⟩
  | cons i is ih =>
    intro es h
    obtain ⟨x, p, r, rfl, h1, h2⟩ := chkTs_cons h
    obtain ⟨q1, q2⟩ := ih r h2
    have e : assignEach (.Name x p :: r) env = (false, assign (.Name x p) env) :: assignEach r env := by rfl
    rw [e]
    refine ⟨by rw [List.length_cons, q1, List.length_cons], ?_⟩
    rw [List.findIdx?_cons]
    simp [q2]
theorem Good.pgs (G : Good fns gls Wn k xr C X W) : ∀ (is : List Nat) (es : List Expr), chkTs C is es = true → PGs X es (gsOf is) := by
  intro is
  induction is with
  | nil => intro es h; unfold chkTs at h; rw [List.isEmpty_iff] at h; subst h; exact pgs_nil
  | cons i is ih =>
    intro es h
    obtain ⟨x, p, r, rfl, g1, g2⟩ := chkTs_cons h
    obtain ⟨h1, h2, h3⟩ := G.tn g1
    exact pgs_cons (pg_name (i := i) G.nd h1 h2 h3) (ih r g2) rfl
theorem Good.pg (G : Good fns gls Wn k xr C X W) {t : List Nat} {tup : Bool} {tg : Expr} (h : chkT C t tup tg = true) : PG X tg (gOf X.K t tup) ∧ (tup = false → t.length = 1) := by
  unfold chkT at h
  cases tup with
  | false =>
    simp only at h
    split at h
    · rename_i i x p
      obtain ⟨h1, h2, h3⟩ := G.tn h
      exact ⟨pg_name (i := i) G.nd h1 h2 h3, fun _ => rfl⟩
    · cases h
  | true =>
    simp only at h
    split at h
    · rename_i es kk p
      obtain ⟨n1, n2⟩ := names_star X.env _ _ h
      exact ⟨pg_tup G.calm (G.pgs _ _ h) n1 n2, fun z => by cases z⟩
    · cases h
end
/-! same readings -/
section
variable {X : Cx} {W : WXm}
theorem je_eq {e : Expr} {r r' : Mu → Rs D} (h : JE X W e r) (hr : ∀ μ, r' μ = r μ) : JE X W e r' := by rw [show r' = r from funext hr]; exact h
theorem jp_eq {e : Expr} {r r' : Mu → Rs D} (h : JP X W e r) (hr : ∀ μ, r' μ = r μ) : JP X W e r' := by rw [show r' = r from funext hr]; exact h
theorem jt_eq {e : Expr} {r r' : Mu → Rs Bool} (h : JT X W e r) (hr : ∀ μ, r' μ = r μ) : JT X W e r' := by rw [show r' = r from funext hr]; exact h
theorem jf_eq {e : Expr} {r r' : Mu → Rs D} (h : JF X W e r) (hr : ∀ μ, r' μ = r μ) : JF X W e r' := by rw [show r' = r from funext hr]; exact h
theorem js_eq {ios : List Nat} {e : Stmt} {r r' : Mu → Rs Fl} (h : JS X W ios e r) (hr : ∀ μ, r' μ = r μ) : JS X W ios e r' := by rw [show r' = r from funext hr]; exact h
theorem jt_plain {e : Expr} {ra : Mu → Rs D} (h : JE X W e ra) (he : ∀ whole, isTrue e X.env whole = (do let v ← whole; standAt e.pos; holding [v] (truthy v))) : JT X W e fun μ => bitOf (ra μ) := jt_val h he
/-- what a comprehension needs -/
structure CompOk (X : Cx) (W : WXm) (elt tg iter : Expr) (ifs : List Expr) (scope : Scope) (t : List Nat) (tup : Bool) (o : Option Nat) (ri : Mu → Rs (List D)) (re : Mu → Rs D) (rc : Option (Mu → Rs Bool)) : Prop where
  hi : JI X W o tg iter ri
  ok : ∃ own, BlkOk X.N X.env.scope scope own ∧ own.map (·.2) = t
  hg : ∀ (s : Shared) (H : Hp) (C : Addr) (cl : List (Str × Addr)) (fp : List Addr), PG (X.blk s H scope (compEnvC scope cl C X.env) fp) tg (gOf X.K t tup)
  ht1 : tup = false → t.length = 1
  hts : ∀ (s : Shared) (H : Hp) (C : Addr) (cl : List (Str × Addr)) (fp : List Addr), PTs (X.blk s H scope (compEnvC scope cl C X.env) fp) ifs (ttOf X.K rc)
  he : ∀ (s : Shared) (H : Hp) (C : Addr) (cl : List (Str × Addr)) (fp : List Addr), PE (X.blk s H scope (compEnvC scope cl C X.env) fp) elt (Tr X.K W0 (rD X.K) re)
  hfs : ∀ x, foldedSetIterable iter X.env x = pure x
theorem set_plain {e : Expr} {env : Env} (h : isSetE e = false) : ∀ x, foldedSetIterable e env x = pure x := fun x => by
  cases e <;> first | rfl | (simp [isSetE] at h)
theorem CompOk.jf {elt tg iter : Expr} {ifs : List Expr} {scope : Scope} {pos : Pos} {t : List Nat} {tup : Bool} {o : Option Nat} {ri : Mu → Rs (List D)} {re : Mu → Rs D} {rc : Option (Mu → Rs Bool)} (h : CompOk X W elt tg iter ifs scope t tup o ri re rc) (hc : X.calm = true) (hN : X.N.Nodup) :
    JF X W (.ListComp elt [⟨tg, iter, ifs, 0⟩] scope pos) fun μ => (ri μ).bind fun xs μ1 => (compL (turnR t tup re rc) xs [] (lockM o μ1)).bind fun ys μ2 => .ok (.list ys) (unlockM o μ1 μ2) := by
  obtain ⟨own, h1, h2⟩ := h.ok
  exact jf_comp hc hN h.hi h1 h2 h.ht1 h.hg h.hts h.he h.hfs
end
theorem own_map (C : Cn) (t : List Nat) : (ownOf C t).map (·.2) = t := by
  unfold ownOf
  rw [List.map_map]
  exact List.map_id' t
/-- the test of a comprehension -/
def rcOf (F : Nat → List Sl → FR) : O → Option (Mu → Rs Bool)
  | .none => none
  | .some e => some fun μ => bitOf (ev F e μ)
section
variable {F : Nat → List Sl → FR}
theorem evs_len : ∀ {es : Es} {μ μ' : Mu} {xs : List D}, evs F es μ = .ok xs μ' → xs.length = es.len
  | .nil, _, _, _, h => by cases h; rfl
  | .cons e es, μ, μ', xs, h => by
    have h' : ((ev F e μ).bind fun x μ1 => (evs F es μ1).bind fun xs μ2 => Rs.ok (x :: xs) μ2) = .ok xs μ' := h
    cases h1 : ev F e μ with
    | st => rw [h1] at h'; cases h'
    | ex _ _ => rw [h1] at h'; cases h'
    | ok x μ1 =>
      rw [h1] at h'
      have h' : ((evs F es μ1).bind fun xs μ2 => Rs.ok (x :: xs) μ2) = .ok xs μ' := h'
      cases h2 : evs F es μ1 with
      | st => rw [h2] at h'; cases h'
      | ex _ _ => rw [h2] at h'; cases h'
      | ok ys μ2 => rw [h2] at h'; cases h'; rw [List.length_cons, evs_len h2]; rfl
theorem evAs_len : ∀ {es : As} {μ μ' : Mu} {xs : List Ag}, evAs F es μ = .ok xs μ' → xs.length = es.len
  | .nil, _, _, _, h => by cases h; rfl
  | .cons e es, μ, μ', xs, h => by
    have h' : ((evA F e μ).bind fun x μ1 => (evAs F es μ1).bind fun xs μ2 => Rs.ok (x :: xs) μ2) = .ok xs μ' := h
    cases h1 : evA F e μ with
    | st => rw [h1] at h'; cases h'
    | ex _ _ => rw [h1] at h'; cases h'
    | ok x μ1 =>
      rw [h1] at h'
      have h' : ((evAs F es μ1).bind fun xs μ2 => Rs.ok (x :: xs) μ2) = .ok xs μ' := h'
      cases h2 : evAs F es μ1 with
      | st => rw [h2] at h'; cases h'
      | ex _ _ => rw [h2] at h'; cases h'
      | ok ys μ2 => rw [h2] at h'; cases h'; rw [List.length_cons, evAs_len h2]; rfl
end
end Mn
set_option Elab.async false
set_option linter.all false
set_option maxRecDepth 100000
set_option autoImplicit false
set_option maxHeartbeats 1000000
namespace Mn
open PySem PySem.Spec L2
/-- expressions that a test asks in their own way -/
def tstE : Expr → Bool
  | .UnaryOp .Not _ _ => true
  | .BoolOp _ _ _ => true
  | .IfExp _ _ _ _ => true
  | .Compare _ _ _ _ => true
  | _ => false
theorem isTrue_plain {x : Expr} {env : Env} (h : tstE x = false) : ∀ whole, isTrue x env whole = (do let v ← whole; standAt x.pos; holding [v] (truthy v)) := fun whole => by
  cases x with
  | UnaryOp op a p => cases op <;> first | rfl | (simp [tstE] at h)
  | BoolOp _ _ _ => simp [tstE] at h
  | IfExp _ _ _ _ => simp [tstE] at h
  | Compare _ _ _ _ => simp [tstE] at h
  | _ => rfl
section
variable {X : Cx} {W : WXm} {x : Expr} {r : Mu → Rs D}
abbrev J2 (X : Cx) (W : WXm) (x : Expr) (r : Mu → Rs D) : Prop := JE X W x r ∧ (isIfe x = false → JT X W x fun μ => bitOf (r μ))
theorem both (h : JE X W x r) (he : tstE x = false) : J2 X W x r := ⟨h, fun _ => jt_val h (isTrue_plain he)⟩
theorem bop_of {op : BOp} {o : Operator} (h : bopB op o = true) : o = bop op := by
  cases op <;> cases o <;> first | rfl | (simp [bopB] at h)
theorem cop_of {op : COp} {o : CmpOp} (h : copB op o = true) : o = cop op := by
  cases op <;> cases o <;> first | rfl | (simp [copB] at h)
theorem bitBind {r : Rs Bool} {k : Bool → Mu → Rs D} : bitOf (r.bind k) = r.bind fun b μ => bitOf (k b μ) := by
  cases r <;> rfl
theorem bitOk {b : Bool} {μ : Mu} : bitOf (.ok (.bool b) μ) = .ok b μ := rfl
theorem bitBool {r : Rs Bool} : (r.bind fun b μ => bitOf (.ok (.bool b) μ)) = r := by cases r <;> rfl
end
section
variable {fns : List Fn} {gls : List (Str × D)} {Wn k : Nat} {xr : XRl}
theorem chkT_len {C : Cn} {t : List Nat} {tup : Bool} {tg : Expr} (h : chkT C t tup tg = true) : tup = false → t.length = 1 := fun z => by
  subst z
  unfold chkT at h
  simp only at h
  split at h
  · rfl
  · cases h
theorem comp_mk {C : Cn} {X : Cx} {W : WXm} {ex tg iter : Expr} {ifs : List Expr} {scope : Scope} {t : List Nat} {tup : Bool} {o : Option Nat} {ri : Mu → Rs (List D)} {re : Mu → Rs D} {rc : Option (Mu → Rs Bool)} (G : Good fns gls Wn k xr C X W) (hi : JI X W o tg iter ri) (h3 : isSetE iter = false) (h4 : blkC C.N C.sc scope (ownOf C t) = true)
    (h5 : chkT (C.blk scope) t tup tg = true) (hts : ∀ (s : Shared) (H : Hp) (A : Addr) (cl : List (Str × Addr)) (fp : List Addr), PTs (X.blk s H scope (compEnvC scope cl A X.env) fp) ifs (ttOf X.K rc))
    (he : ∀ (s : Shared) (H : Hp) (A : Addr) (cl : List (Str × Addr)) (fp : List Addr), PE (X.blk s H scope (compEnvC scope cl A X.env) fp) ex (Tr X.K W0 (rD X.K) re)) : CompOk X W ex tg iter ifs scope t tup o ri re rc := by
  refine ⟨hi, ⟨ownOf C t, ?_, own_map C t⟩, fun s H A cl fp => ((G.blk s H scope cl A fp).pg h5).1, chkT_len h5, hts, he, set_plain h3⟩
  rw [G.N, G.sc]; exact blkOk_by h4
mutual
theorem sndE : ∀ (e : E) {C : Cn} {X : Cx} {W : WXm} (x : Expr), Good fns gls Wn k xr C X W → chkE fns gls C e x = true → J2 X W x (ev (sem fns Wn k) e)
  | .var i, C, X, W, x, G, h => by
    unfold chkE at h
    split at h
    · obtain ⟨h1, h2, h3, h4⟩ := G.nm h
      exact both (je_eq (je_var h1 h2 h3 h4) fun _ => rfl) rfl
    · cases h
  | .int i, C, X, W, x, G, h => by
    unfold chkE at h
    split at h
    · cases of_decide_eq_true h; exact both (je_eq je_int fun _ => rfl) rfl
    · cases h
  | .bl i, C, X, W, x, G, h => by
    unfold chkE at h
    split at h
    · cases of_decide_eq_true h; exact both (je_eq je_bl fun _ => rfl) rfl
    · cases h
  | .str i, C, X, W, x, G, h => by
    unfold chkE at h
    split at h
    · cases of_decide_eq_true h; exact both (je_eq je_str fun _ => rfl) rfl
    · cases h
  | .non, C, X, W, x, G, h => by
    unfold chkE at h
    split at h
    · exact both (je_eq je_non fun _ => rfl) rfl
    · cases h
  | .glob y d, C, X, W, x, G, h => by
    unfold chkE at h
    split at h
    · simp only [Bool.and_eq_true, decide_eq_true_eq] at h
      obtain ⟨⟨rfl, h2⟩, h3⟩ := h
      obtain ⟨g1, g2⟩ := G.gn h2
      split at h3
      · rename_i d' hl
        cases beqD_eq h3
        obtain ⟨v, u, m1, m2, m3⟩ := G.gl _ _ hl (beqD_noc h3)
        exact both (je_eq (je_glob g1 m1 m2 g2 (m3 _ _) m3) fun _ => rfl) rfl
      · cases h3
    · cases h
  | .bin op a b, C, X, W, x, G, h => by
    unfold chkE at h
    split at h
    · simp only [Bool.and_eq_true] at h
      cases bop_of h.1.1
      exact both (je_eq (je_bin (sndE a _ G h.1.2).1 (sndE b _ G h.2).1) fun _ => rfl) rfl
    · cases h
  | .neg a, C, X, W, x, G, h => by
    unfold chkE at h
    split at h
    · exact both (je_eq (je_neg (sndE a _ G h).1) fun _ => rfl) rfl
    · cases h
  | .cmp op (.e a) b, C, X, W, x, G, h => by
    unfold chkE at h
    split at h
    · simp only [Bool.and_eq_true, Bool.not_eq_true'] at h
      obtain ⟨⟨⟨h1, h2⟩, h3⟩, h4⟩ := h
      cases cop_of h1
      unfold chkP at h3
      have ja := (sndE a _ G h3).1
      have jb := sndP b _ G h4
      exact ⟨je_eq (je_cmp G.un ja jb h2) fun _ => rfl, fun _ => jt_eq (jt_cmp G.un ja jb h2) fun _ => rfl⟩
    · cases h
  | .cmp op (.pk i) b, C, X, W, x, G, h => by
    unfold chkE at h
    split at h
    · simp only [Bool.and_eq_true, Bool.not_eq_true'] at h
      obtain ⟨⟨⟨h1, h2⟩, h3⟩, h4⟩ := h
      cases cop_of h1
      unfold chkP at h3
      split at h3
      · obtain ⟨n1, n2, n3, n4⟩ := G.nm h3
        have jb := sndP b _ G h4
        exact ⟨je_eq (je_cmpK G.un n1 n2 n3 n4 jb h2) fun _ => rfl, fun _ => jt_eq (jt_cmpK G.un n1 n2 n3 n4 jb h2) fun _ => rfl⟩
      · cases h3
    · cases h
  | .and es, C, X, W, x, G, h => by
    unfold chkE at h
    split at h
    · rename_i xs pos
      simp only [Bool.and_eq_true] at h
      have hne : es ≠ .nil := fun z => by subst z; simp [Es.len] at h
      obtain ⟨h1, h2⟩ := sndAnd es xs pos G h.1 hne
      exact ⟨je_eq h1 fun _ => rfl, fun _ => jt_eq h2.pt fun _ => rfl⟩
    · cases h
  | .or es, C, X, W, x, G, h => by
    unfold chkE at h
    split at h
    · rename_i xs pos
      simp only [Bool.and_eq_true] at h
      have hne : es ≠ .nil := fun z => by subst z; simp [Es.len] at h
      obtain ⟨h1, h2⟩ := sndOr es xs pos G h.1 hne
      exact ⟨je_eq h1 fun _ => rfl, fun _ => jt_eq h2.pt fun _ => rfl⟩
    · cases h
  | .not a, C, X, W, x, G, h => by
    unfold chkE at h
    split at h
    · simp only [Bool.and_eq_true, Bool.not_eq_true'] at h
      obtain ⟨h1, h2⟩ := sndE a _ G h.1
      refine ⟨je_eq (je_not h1) fun _ => rfl, fun _ => jt_eq (jt_not (h2 h.2)) fun μ => ?_⟩
      show bitOf ((bitOf (ev (sem fns Wn k) a μ)).bind fun b μ1 => .ok (.bool (!b)) μ1) = _
      rw [bitBind]; rfl
    · cases h
  | .ife c a b, C, X, W, x, G, h => by
    unfold chkE at h
    split at h
    · simp only [Bool.and_eq_true, Bool.not_eq_true'] at h
      obtain ⟨⟨⟨h1, h2⟩, h3⟩, h4⟩ := h
      exact ⟨je_eq (je_ife ((sndE c _ G h1).2 h2) (sndE a _ G h3).1 (sndE b _ G h4).1) fun _ => rfl, fun z => by cases z⟩
    · cases h
  | .tup es, C, X, W, x, G, h => by
    unfold chkE at h
    split at h
    · simp only [Bool.and_eq_true, decide_eq_true_eq] at h
      exact both (je_eq (je_tup (sndEs es _ G h.1) fun μ xs μ' e => by rw [evs_len e]; exact h.2) fun _ => rfl) rfl
    · cases h
  | .ix (.e a) b, C, X, W, x, G, h => by
    unfold chkE at h
    split at h
    · simp only [Bool.and_eq_true, Bool.not_eq_true'] at h
      obtain ⟨⟨h1, h2⟩, h3⟩ := h
      unfold chkP at h2
      exact both (je_eq (je_ix (sndE a _ G h2).1 (sndE b _ G h3).1 h1) fun _ => rfl) rfl
    · cases h
  | .ix (.pk i) b, C, X, W, x, G, h => by
    unfold chkE at h
    split at h
    · simp only [Bool.and_eq_true, Bool.not_eq_true'] at h
      obtain ⟨⟨h1, h2⟩, h3⟩ := h
      unfold chkP at h2
      split at h2
      · obtain ⟨n1, n2, n3, n4⟩ := G.nm h2
        exact both (je_eq (je_ixK n1 n2 n3 n4 (sndE b _ G h3).1 h1) fun _ => rfl) rfl
      · cases h2
    · cases h
  | .sl (.e a) lo hi, C, X, W, x, G, h => by
    unfold chkE at h
    simp only at h
    split at h
    · simp only [Bool.and_eq_true] at h
      obtain ⟨⟨h1, h2⟩, h3⟩ := h
      exact both (je_eq (je_sl (sndE a _ G h1).1 (sndO lo _ G h2) (sndO hi _ G h3)) fun _ => rfl) rfl
    · cases h
  | .sl (.pk i) lo hi, C, X, W, x, G, h => by unfold chkE at h; cases h
  | .slSt a c, C, X, W, x, G, h => by
    unfold chkE at h
    split at h
    · simp only [Bool.and_eq_true] at h
      obtain ⟨h1, h2⟩ := h
      split at h2
      · simp only [Bool.and_eq_true, decide_eq_true_eq] at h2
        obtain ⟨rfl, rfl⟩ := h2
        exact both (je_eq (je_step (sndE a _ G h1).1 pe_int (.inl rfl)) fun _ => rfl) rfl
      · simp only [Bool.and_eq_true, decide_eq_true_eq] at h2
        obtain ⟨rfl, rfl⟩ := h2
        exact both (je_eq (je_step (sndE a _ G h1).1 pe_neg1 (.inr rfl)) fun _ => rfl) rfl
      · cases h2
    · cases h
  | .fre f, C, X, W, x, G, h => by
    unfold chkE at h
    obtain ⟨h1, h2⟩ := sndF f x G h
    exact both (je_eq h1.je fun _ => rfl) h2
  | .call f as, C, X, W, x, G, h => by
    unfold chkE at h
    split at h
    · rename_i y p xs pos
      simp only [Bool.and_eq_true] at h
      obtain ⟨g1, g2⟩ := G.gn h.1
      replace h := h.2
      split at h
      · rename_i fn hf
        simp only [Bool.and_eq_true, decide_eq_true_eq] at h
        obtain ⟨⟨⟨rfl, h2⟩, h3⟩, h4⟩ := h
        obtain ⟨j1, j2⟩ := sndAs as xs G h4
        obtain ⟨fa, fd, m1, m2, m3, m4⟩ := G.fns f fn hf
        cases xs with
        | nil => cases as with
          | nil => simp [As.len] at h3
          | cons _ _ => simp [chkAs] at h4
        | cons e0 es0 =>
          simp only [List.all_cons, Bool.and_eq_true, Bool.not_eq_true'] at j2
          exact both (je_eq (je_call m4 G.room G.gd g1 m1 m2 m3 G.tk j1 (fun μ xs μ' e => by rw [evAs_len e]; exact h2) g2 j2.1 (by simpa using j2.2)) fun _ => rfl) rfl
      · cases h
    · cases h
  | .b1 b p, C, X, W, x, G, h => by
    unfold chkE at h
    split at h
    · simp only [Bool.and_eq_true, decide_eq_true_eq, Bool.not_eq_true'] at h
      obtain ⟨⟨⟨rfl, h2⟩, h3⟩, h4⟩ := h
      have jp := sndP p _ G h4
      have hg := G.glo h2
      cases b with
      | len => exact both (je_eq (je_b1 (x := "len") c_len hg (G.blt _ (by decide +kernel)) (by decide +kernel) jp h3 (by decide) (by decide)) fun _ => rfl) rfl
      | abs => exact both (je_eq (je_b1 (x := "abs") c_abs hg (G.blt _ (by decide +kernel)) (by decide +kernel) jp h3 (by decide) (by decide)) fun _ => rfl) rfl
      | all => exact both (je_eq (je_b1 (x := "all") (c_all G.calm) hg (G.blt _ (by decide +kernel)) (by decide +kernel) jp h3 (by decide) (by decide)) fun _ => rfl) rfl
      | any => exact both (je_eq (je_b1 (x := "any") (c_any G.calm) hg (G.blt _ (by decide +kernel)) (by decide +kernel) jp h3 (by decide) (by decide)) fun _ => rfl) rfl
      | sum => exact both (je_eq (je_b1 (x := "sum") (c_sum G.calm) hg (G.blt _ (by decide +kernel)) (by decide +kernel) jp h3 (by decide) (by decide)) fun _ => rfl) rfl
      | max => exact both (je_eq (je_b1 (x := "max") (c_max G.calm G.un) hg (G.blt _ (by decide +kernel)) (by decide +kernel) jp h3 (by decide) (by decide)) fun _ => rfl) rfl
      | min => exact both (je_eq (je_b1 (x := "min") (c_min G.calm) hg (G.blt _ (by decide +kernel)) (by decide +kernel) jp h3 (by decide) (by decide)) fun _ => rfl) rfl
      | tuple => exact both (je_eq (je_b1T (x := "tuple") c_tuple hg (G.blt _ (by decide +kernel)) (by decide +kernel) jp h3 (by decide) (by decide)) fun _ => rfl) rfl
      | repr => exact both (je_eq (je_b1 (x := "repr") (c_repr G.gd G.un) hg (G.blt _ (by decide +kernel)) (by decide +kernel) jp h3 (by decide) (by decide)) fun _ => rfl) rfl
      | str => exact both (je_eq (je_b1T (x := "str") c_str hg (G.blt _ (by decide +kernel)) (by decide +kernel) jp h3 (by decide) (by decide)) fun _ => rfl) rfl
      | int => exact both (je_eq (je_b1T (x := "int") c_int hg (G.blt _ (by decide +kernel)) (by decide +kernel) jp h3 (by decide) (by decide)) fun _ => rfl) rfl
    · cases h
  | .b2 b p q, C, X, W, x, G, h => by
    unfold chkE at h
    split at h
    · simp only [Bool.and_eq_true, decide_eq_true_eq, Bool.not_eq_true'] at h
      obtain ⟨⟨⟨⟨⟨rfl, h2⟩, h3⟩, h4⟩, h5⟩, h6⟩ := h
      have jp := (sndE p _ G h5).1
      have jq := (sndE q _ G h6).1
      have hg := G.glo h2
      cases b with
      | max => exact both (je_eq (je_b2 (x := "max") (c_max2 G.calm) hg (G.blt _ (by decide +kernel)) (by decide +kernel) jp jq h3 h4 (by decide) (by decide)) fun _ => rfl) rfl
      | min => exact both (je_eq (je_b2 (x := "min") (c_min2 G.calm) hg (G.blt _ (by decide +kernel)) (by decide +kernel) jp jq h3 h4 (by decide) (by decide)) fun _ => rfl) rfl
    · cases h
  | .isi a t, C, X, W, x, G, h => by
    unfold chkE at h
    split at h
    · simp only [Bool.and_eq_true, decide_eq_true_eq, Bool.not_eq_true'] at h
      obtain ⟨⟨⟨⟨⟨rfl, h2⟩, rfl⟩, h4⟩, h5⟩, h6⟩ := h
      exact both (je_eq (je_isi (p2 := ⟨0, 0, 0, 0⟩) (G.glo h2) (G.blt _ (by decide +kernel)) (G.glo h4) (G.blt _ (by cases t <;> decide +kernel)) (sndE a _ G h6).1 h5) fun _ => rfl) rfl
    · cases h
  | .dix (.e a) b, C, X, W, x, G, h => by
    unfold chkE at h
    split at h
    · simp only [Bool.and_eq_true, Bool.not_eq_true'] at h
      obtain ⟨⟨h1, h2⟩, h3⟩ := h
      unfold chkP at h2
      exact both (je_eq (je_dix (by have := G.un; omega) a (sndE a _ G h2).1 (sndE b _ G h3).1 h1) fun _ => rfl) rfl
    · cases h
  | .dix (.pk i) b, C, X, W, x, G, h => by
    unfold chkE at h
    split at h
    · simp only [Bool.and_eq_true, Bool.not_eq_true'] at h
      obtain ⟨⟨h1, h2⟩, h3⟩ := h
      unfold chkP at h2
      split at h2
      · obtain ⟨n1, n2, n3, n4⟩ := G.nm h2
        exact both (je_eq (je_dixK (by have := G.un; omega) n1 n2 n3 n4 (sndE b _ G h3).1 h1) fun _ => rfl) rfl
      · cases h2
    · cases h
  | .get (.e f) a b, C, X, W, x, G, h => by
    unfold chkE at h
    split at h
    · simp only [Bool.and_eq_true, Bool.not_eq_true', decide_eq_true_eq] at h
      obtain ⟨⟨⟨⟨⟨⟨rfl, h2⟩, h3⟩, h4⟩, h5⟩, h6⟩, h7⟩ := h
      unfold chkP at h5
      exact both (je_eq (je_get f (by have := G.un; omega) (sndE f _ G h5).1 rfl (sndE a _ G h6).1 (sndE b _ G h7).1 h2 h3 h4) fun _ => rfl) rfl
    · cases h
  | .get (.pk i) a b, C, X, W, x, G, h => by
    unfold chkE at h
    split at h
    · simp only [Bool.and_eq_true, Bool.not_eq_true', decide_eq_true_eq] at h
      obtain ⟨⟨⟨⟨⟨⟨rfl, h2⟩, h3⟩, h4⟩, h5⟩, h6⟩, h7⟩ := h
      unfold chkP at h5
      obtain ⟨n1, n2, n3, n4⟩ := G.nm h5
      exact both (je_eq (je_getK (by have := G.un; omega) n1 n2 n3 n4 (sndE a _ G h6).1 (sndE b _ G h7).1 h2 h3 h4) fun _ => rfl) rfl
    · cases h
  | .pop i b, C, X, W, x, G, h => by
    unfold chkE at h
    split at h
    · simp only [Bool.and_eq_true, decide_eq_true_eq, Bool.not_eq_true'] at h
      obtain ⟨⟨⟨⟨rfl, h2⟩, h3⟩, h4⟩, h5⟩ := h
      obtain ⟨n1, n2, n3, n4⟩ := G.nm h2
      exact both (je_eq (je_pop n1 n2 n3 n4 (sndE b _ G h5).1 h3 h4) fun _ => rfl) rfl
    · cases h
  | .jn s p, C, X, W, x, G, h => by
    unfold chkE at h
    split at h
    · simp only [Bool.and_eq_true, decide_eq_true_eq, Bool.not_eq_true'] at h
      obtain ⟨⟨⟨⟨⟨rfl, h2⟩, h3⟩, h4⟩, h5⟩, h6⟩ := h
      exact both (je_eq (je_jn (sndE s _ G h5).1 (sndP p _ G h6) h2 h3 h4) fun _ => rfl) rfl
    · cases h
  | .find o a, C, X, W, x, G, h => by
    unfold chkE at h
    split at h
    · simp only [Bool.and_eq_true, decide_eq_true_eq, Bool.not_eq_true'] at h
      obtain ⟨⟨⟨⟨⟨rfl, h2⟩, h3⟩, h4⟩, h5⟩, h6⟩ := h
      exact both (je_eq (je_find (sndE o _ G h5).1 (sndE a _ G h6).1 h2 h3 h4) fun _ => rfl) rfl
    · cases h
  | .repl _ _ _, C, X, W, x, G, h => by unfold chkE at h; cases h
  | .upper o, C, X, W, x, G, h => by
    unfold chkE at h
    split at h
    · simp only [Bool.and_eq_true, decide_eq_true_eq] at h
      obtain ⟨⟨⟨rfl, h2⟩, h3⟩, h4⟩ := h
      exact both (je_eq (je_upper (sndE o _ G h4).1 h2 h3) fun _ => rfl) rfl
    · cases h
  | .mkX y fl es, C, X, W, x, G, h => by
    unfold chkE at h
    split at h
    · rename_i z p1 ea eas pos
      simp only [Bool.and_eq_true, decide_eq_true_eq, Bool.not_eq_true'] at h
      obtain ⟨⟨⟨⟨⟨⟨rfl, h2⟩, h3⟩, h4⟩, h5⟩, h6⟩, h7⟩ := h
      unfold mkT at h3
      split at h3
      · rename_i d hl
        rw [Bool.and_eq_true, decide_eq_true_eq] at h3
        obtain ⟨hc, rfl⟩ := h3
        obtain ⟨⟨kk, sups⟩, hc⟩ := Option.isSome_iff_exists.mp hc
        obtain ⟨Ca, m1, ok, _⟩ := G.cl _ _ _ _ hl hc
        obtain ⟨g1, g2⟩ := G.gn h2
        have en := ok.excN h6
        generalize fldsOf d = fl at *
        match fl, h6, h7, ok, en with
        | [], h6, h7, ok, en =>
          have h7 : mkC0 es (ea :: eas) = true := h7
          obtain ⟨m, j, p2, rfl, e2⟩ := mkC0_of h7
          cases e2
          exact both (je_eq (je_mk0 (ds := [.str m]) (pmk_own PySem.F.excBase_ValueError (ok.ex rfl) m1 ok.kp (raises_own ok.su ok.ty) g1 g2) en) fun _ => rfl) rfl
        | [f], h6, h7, ok, en => exact both (je_eq (je_mk1 (ok.ini f rfl) (G.room.mono (by omega)) g1 m1 en g2 (sndEs es _ G h7) h4 (backTo_plain h5)) fun _ => rfl) rfl
        | [f, f2], h6, h7, ok, en => exact both (je_eq (je_mk2 (ok.ini2 f f2 rfl) (G.room.mono (by omega)) g1 m1 en g2 (sndEs es _ G h7) h4 (backTo_plain h5)) fun _ => rfl) rfl
        | _ :: _ :: _ :: _, h6, _, _, _ => simp at h6
      · cases h3
    · cases h
  | .isX a y tab, C, X, W, x, G, h => by
    unfold chkE at h
    split at h
    · rename_i f p1 ea z p2 pos
      simp only [Bool.and_eq_true, decide_eq_true_eq, Bool.not_eq_true'] at h
      obtain ⟨⟨⟨⟨⟨⟨⟨rfl, h2⟩, rfl⟩, h3⟩, h4⟩, h5⟩, h6⟩, h7⟩ := h
      obtain ⟨g1, g2⟩ := G.gn h3
      have hq : z ∈ qNames gls := by simpa using h4
      unfold tabX at h6
      rw [Bool.and_eq_true] at h6
      obtain ⟨h6, h8⟩ := h6
      rw [List.all_eq_true] at h8
      have each : ∀ p ∈ tab, ∃ C, PySem.W.nsIn X.K mainGlobals p.1 = some (some (.ref C)) ∧ ∃ cv, NmV X.mg z cv ∧ PySem.W.kitOne X.K (.ref C) cv = some p.2 := fun p hp => by
        have := h8 p hp
        split at this
        · rename_i d hl
          split at this
          · rename_i kk sups hc
            obtain ⟨Ca, m1, ok, su⟩ := G.cl _ _ _ _ hl hc
            obtain ⟨cv, n1, n2, _⟩ := su z hq
            exact ⟨Ca, ok.nk, cv, n1, by rw [n2, of_decide_eq_true this]⟩
          · cases this
        · cases this
      obtain ⟨p0, hp0⟩ : ∃ p, p ∈ tab := by
        cases tab with
        | nil => cases h6
        | cons p r => exact ⟨p, List.mem_cons_self⟩
      obtain ⟨_, _, cv, nv, _⟩ := each p0 hp0
      have ht : ∀ nm b, tab.lookup nm = some b → ∃ C, PySem.W.nsIn X.K mainGlobals nm = some (some (.ref C)) ∧ PySem.W.kitOne X.K (.ref C) cv = some b := fun nm b hl => by
        have hm : (nm, b) ∈ tab := lookup_mem' hl
        obtain ⟨Ca, n1, cv', n2, n3⟩ := each _ hm
        have := n2.det nv
        subst this
        exact ⟨Ca, n1, n3⟩
      exact both (je_eq (je_isX (G.glo h2) (G.blt "isinstance" (by simp [bltNames])) nv g1 g2 ht (sndE a _ G h7).1 h5) fun _ => rfl) rfl
    · cases h
  | .fldX a f, C, X, W, x, G, h => by
    unfold chkE at h
    split at h
    · simp only [Bool.and_eq_true, decide_eq_true_eq] at h
      obtain ⟨⟨rfl, h2⟩, h3⟩ := h
      exact both (je_eq (je_fldX (r := fun _ => .st) (sndE a _ G h3).1 (base_ok h2)) fun _ => rfl) rfl
    · cases h
theorem sndEs : ∀ (es : Es) {C : Cn} {X : Cx} {W : WXm} (xs : List Expr), Good fns gls Wn k xr C X W → chkEs fns gls C es xs = true → JA X W xs (evs (sem fns Wn k) es)
  | .nil, C, X, W, [], G, h => ja_nil
  | .cons e es, C, X, W, x :: xs, G, h => by
    unfold chkEs at h
    simp only [Bool.and_eq_true, Bool.not_eq_true'] at h
    exact ja_cons (sndE e _ G h.1.2).1 (sndEs es _ G h.2) h.1.1
  | .nil, C, X, W, _ :: _, G, h => by simp [chkEs] at h
  | .cons _ _, C, X, W, [], G, h => by simp [chkEs] at h
theorem sndAnd : ∀ (es : Es) {C : Cn} {X : Cx} {W : WXm} (xs : List Expr) (pos : Pos), Good fns gls Wn k xr C X W → chkBs fns gls C es xs = true → es ≠ .nil → JE X W (.BoolOp .And xs pos) (evAnd (sem fns Wn k) es) ∧ PW X (.BoolOp .And xs pos) (Tr X.K W rB fun μ => bitOf (evAnd (sem fns Wn k) es μ))
  | .nil, C, X, W, xs, pos, G, h, hn => absurd rfl hn
  | .cons e .nil, C, X, W, xs, pos, G, h, hn => by
    cases xs with
    | nil => simp [chkBs] at h
    | cons x xs =>
      cases xs with
      | cons _ _ => simp [chkBs] at h
      | nil =>
        unfold chkBs at h
        simp only [Bool.and_eq_true, Bool.not_eq_true'] at h
        obtain ⟨h1, h2⟩ := sndE e _ G h.1.2
        refine ⟨pe_one (je_eq (je_bit h1) fun _ => rfl), pw_and1 (jt_eq (h2 h.1.1) fun μ => ?_)⟩
        show bitOf ((bitOf (ev (sem fns Wn k) e μ)).bind fun b μ1 => .ok (.bool b) μ1) = _
        rw [bitBind, bitBool]
  | .cons e (.cons e2 es), C, X, W, xs, pos, G, h, hn => by
    cases xs with
    | nil => simp [chkBs] at h
    | cons x xs =>
      cases xs with
      | nil => simp [chkBs] at h
      | cons x2 xs =>
        unfold chkBs at h
        simp only [Bool.and_eq_true, Bool.not_eq_true'] at h
        obtain ⟨h1, h2⟩ := sndE e _ G h.1.2
        obtain ⟨h3, h4⟩ := sndAnd (.cons e2 es) (x2 :: xs) pos G h.2 (by simp)
        refine ⟨je_eq (je_and h1 h3) fun _ => rfl, ?_⟩
        have := jw_and (h2 h.1.1) h4
        rw [show (fun μ => bitOf (evAnd (sem fns Wn k) (.cons e (.cons e2 es)) μ)) = andR (fun μ => bitOf (ev (sem fns Wn k) e μ)) (fun μ => bitOf (evAnd (sem fns Wn k) (.cons e2 es) μ)) from funext fun μ => by
          show bitOf ((bitOf (ev (sem fns Wn k) e μ)).bind fun b μ1 => match b with
            | true => evAnd (sem fns Wn k) (.cons e2 es) μ1
            | false => .ok (.bool false) μ1) = _
          unfold andR
          rw [bitBind]
          congr 1
          funext b μ1
          cases b <;> rfl]
        exact this
theorem sndOr : ∀ (es : Es) {C : Cn} {X : Cx} {W : WXm} (xs : List Expr) (pos : Pos), Good fns gls Wn k xr C X W → chkBs fns gls C es xs = true → es ≠ .nil → JE X W (.BoolOp .Or xs pos) (evOr (sem fns Wn k) es) ∧ PW X (.BoolOp .Or xs pos) (Tr X.K W rB fun μ => bitOf (evOr (sem fns Wn k) es μ))
  | .nil, C, X, W, xs, pos, G, h, hn => absurd rfl hn
  | .cons e .nil, C, X, W, xs, pos, G, h, hn => by
    cases xs with
    | nil => simp [chkBs] at h
    | cons x xs =>
      cases xs with
      | cons _ _ => simp [chkBs] at h
      | nil =>
        unfold chkBs at h
        simp only [Bool.and_eq_true, Bool.not_eq_true'] at h
        obtain ⟨h1, h2⟩ := sndE e _ G h.1.2
        refine ⟨pe_one (je_eq (je_bit h1) fun _ => rfl), pw_or1 (jt_eq (h2 h.1.1) fun μ => ?_)⟩
        show bitOf ((bitOf (ev (sem fns Wn k) e μ)).bind fun b μ1 => .ok (.bool b) μ1) = _
        rw [bitBind, bitBool]
  | .cons e (.cons e2 es), C, X, W, xs, pos, G, h, hn => by
    cases xs with
    | nil => simp [chkBs] at h
    | cons x xs =>
      cases xs with
      | nil => simp [chkBs] at h
      | cons x2 xs =>
        unfold chkBs at h
        simp only [Bool.and_eq_true, Bool.not_eq_true'] at h
        obtain ⟨h1, h2⟩ := sndE e _ G h.1.2
        obtain ⟨h3, h4⟩ := sndOr (.cons e2 es) (x2 :: xs) pos G h.2 (by simp)
        refine ⟨je_eq (je_or h1 h3) fun _ => rfl, ?_⟩
        have := jw_or (h2 h.1.1) h4
        rw [show (fun μ => bitOf (evOr (sem fns Wn k) (.cons e (.cons e2 es)) μ)) = orR (fun μ => bitOf (ev (sem fns Wn k) e μ)) (fun μ => bitOf (evOr (sem fns Wn k) (.cons e2 es) μ)) from funext fun μ => by
          show bitOf ((bitOf (ev (sem fns Wn k) e μ)).bind fun b μ1 => match b with
            | true => .ok (.bool true) μ1
            | false => evOr (sem fns Wn k) (.cons e2 es) μ1) = _
          unfold orR
          rw [bitBind]
          congr 1
          funext b μ1
          cases b <;> rfl]
        exact this
theorem sndP : ∀ (p : P) {C : Cn} {X : Cx} {W : WXm} (x : Expr), Good fns gls Wn k xr C X W → chkP fns gls C p x = true → JP X W x (evP (sem fns Wn k) p)
  | .e e, C, X, W, x, G, h => by
    unfold chkP at h
    exact (sndE e _ G h).1.jp
  | .pk i, C, X, W, x, G, h => by
    unfold chkP at h
    split at h
    · obtain ⟨n1, n2, n3, n4⟩ := G.nm h
      exact jp_eq (jp_pk n1 n2 n3 n4) fun _ => rfl
    · cases h
theorem sndH : ∀ (p : P) {C : Cn} {X : Cx} {W : WXm} (x : Expr), Good fns gls Wn k xr C X W → chkH fns gls C p x = true → JH X W p x (evH (sem fns Wn k) p)
  | .e (.fre f), C, X, W, x, G, h => by
    unfold chkH at h
    exact (sndF f x G h).1.jh
  | .pk i, C, X, W, x, G, h => by
    unfold chkH at h
    split at h
    · obtain ⟨n1, n2, n3, n4⟩ := G.nm h
      exact jh_pk n1 n2 n3 n4
    · cases h
  | .e (.var _), C, X, W, x, G, h | .e (.int _), C, X, W, x, G, h | .e (.bl _), C, X, W, x, G, h | .e (.str _), C, X, W, x, G, h | .e .non, C, X, W, x, G, h | .e (.glob _ _), C, X, W, x, G, h
  | .e (.bin _ _ _), C, X, W, x, G, h | .e (.neg _), C, X, W, x, G, h | .e (.cmp _ _ _), C, X, W, x, G, h | .e (.and _), C, X, W, x, G, h | .e (.or _), C, X, W, x, G, h | .e (.not _), C, X, W, x, G, h
  | .e (.ife _ _ _), C, X, W, x, G, h | .e (.tup _), C, X, W, x, G, h | .e (.ix _ _), C, X, W, x, G, h | .e (.sl _ _ _), C, X, W, x, G, h | .e (.slSt _ _), C, X, W, x, G, h | .e (.call _ _), C, X, W, x, G, h
  | .e (.b1 _ _), C, X, W, x, G, h | .e (.b2 _ _ _), C, X, W, x, G, h | .e (.isi _ _), C, X, W, x, G, h | .e (.dix _ _), C, X, W, x, G, h | .e (.get _ _ _), C, X, W, x, G, h | .e (.pop _ _), C, X, W, x, G, h | .e (.jn _ _), C, X, W, x, G, h | .e (.find _ _), C, X, W, x, G, h | .e (.repl _ _ _), C, X, W, x, G, h | .e (.upper _), C, X, W, x, G, h | .e (.mkX _ _ _), C, X, W, x, G, h | .e (.isX _ _ _), C, X, W, x, G, h | .e (.fldX _ _), C, X, W, x, G, h => by
    simp [chkH] at h
theorem sndO : ∀ (o : O) {C : Cn} {X : Cx} {W : WXm} (x : Option Expr), Good fns gls Wn k xr C X W → chkO fns gls C o x = true → JO X W x (evO (sem fns Wn k) o)
  | .none, C, X, W, none, G, h => jo_none
  | .some e, C, X, W, some x, G, h => by
    unfold chkO at h
    exact jo_some (sndE e _ G h).1
  | .none, C, X, W, some _, G, h => by simp [chkO] at h
  | .some _, C, X, W, none, G, h => by simp [chkO] at h
theorem sndAs : ∀ (es : As) {C : Cn} {X : Cx} {W : WXm} (xs : List Expr), Good fns gls Wn k xr C X W → chkAs fns gls C es xs = true → JAg X W xs (evAs (sem fns Wn k) es) ∧ xs.all (fun e => !isStar e) = true
  | .nil, C, X, W, [], G, h => ⟨jg_nil, rfl⟩
  | .cons (.v e) es, C, X, W, x :: xs, G, h => by
    unfold chkAs chkA at h
    simp only [Bool.and_eq_true, Bool.not_eq_true'] at h
    obtain ⟨h1, h2⟩ := sndAs es xs G h.2
    exact ⟨jg_val (sndE e _ G h.1.2).1 h1 h.1.1, by simp only [List.all_cons, Bool.and_eq_true, Bool.not_eq_true']; exact ⟨h.1.1, h2⟩⟩
  | .cons (.io i) es, C, X, W, x :: xs, G, h => by
    unfold chkAs chkA at h
    simp only [Bool.and_eq_true, Bool.not_eq_true'] at h
    obtain ⟨h1, h2⟩ := sndAs es xs G h.2
    refine ⟨?_, by simp only [List.all_cons, Bool.and_eq_true, Bool.not_eq_true']; exact ⟨h.1.1, h2⟩⟩
    have h3 := h.1.2
    split at h3
    · obtain ⟨n1, n2, n3, n4⟩ := G.nm h3
      exact jg_io n1 n2 n3 n4 h1
    · cases h3
  | .nil, C, X, W, _ :: _, G, h => by simp [chkAs] at h
  | .cons _ _, C, X, W, [], G, h => by simp [chkAs] at h
theorem sndF : ∀ (f : FE) {C : Cn} {X : Cx} {W : WXm} (x : Expr), Good fns gls Wn k xr C X W → chkF fns gls C f x = true → JF X W x (evF (sem fns Wn k) f) ∧ tstE x = false
  | .disp es, C, X, W, x, G, h => by
    unfold chkF at h
    split at h
    · simp only [Bool.and_eq_true, decide_eq_true_eq] at h
      exact ⟨jf_eq (jf_disp (sndEs es _ G h.1) fun μ xs μ' e => by rw [evs_len e]; exact h.2) fun _ => rfl, rfl⟩
    · cases h
  | .comp elt t tup it c, C, X, W, x, G, h => by
    unfold chkF at h
    split at h
    · rename_i ex tg iter ifs n scope pos
      simp only [Bool.and_eq_true, decide_eq_true_eq, Bool.not_eq_true'] at h
      obtain ⟨⟨⟨⟨⟨⟨rfl, h2⟩, h3⟩, h4⟩, h5⟩, h6⟩, h7⟩ := h
      refine ⟨jf_eq (CompOk.jf (comp_mk G (sndI it tg iter G h2) h3 h4 h5 (fun s H A cl fp => sndO1 c ifs (G.blk s H scope cl A fp) h7) fun s H A cl fp => (sndE elt _ (G.blk s H scope cl A fp) h6).1) G.calm G.nd) fun μ => ?_, rfl⟩
      cases c <;> rfl
    · cases h
  | .listOf (.rng1 a), C, X, W, x, G, h => by
    unfold chkF at h
    simp only at h
    split at h
    · simp only [Bool.and_eq_true, decide_eq_true_eq, Bool.not_eq_true'] at h
      obtain ⟨⟨⟨⟨⟨rfl, h2⟩, rfl⟩, h4⟩, h5⟩, h6⟩ := h
      exact ⟨jf_eq (jf_listRng G.calm (G.glo h2) (G.blt _ (by decide +kernel)) (G.glo h4) (G.blt _ (by decide +kernel)) (sndE a _ G h6).1 h5) fun _ => rfl, rfl⟩
    · cases h
  | .listOf (.seq p), C, X, W, x, G, h => by
    unfold chkF at h
    simp only at h
    split at h
    · simp only [Bool.and_eq_true, decide_eq_true_eq, Bool.not_eq_true'] at h
      obtain ⟨⟨⟨rfl, h2⟩, h3⟩, h4⟩ := h
      exact ⟨jf_eq (jf_listSeq (G.glo h2) (G.blt _ (by decide +kernel)) (sndP p _ G h4) h3) fun _ => rfl, rfl⟩
    · cases h
  | .listOf (.rng2 _ _), C, X, W, x, G, h | .listOf (.rng3 _ _ _), C, X, W, x, G, h | .listOf (.zip _ _), C, X, W, x, G, h | .listOf (.enum _), C, X, W, x, G, h | .listOf (.rev _), C, X, W, x, G, h | .listOf (.revr _), C, X, W, x, G, h => by
    unfold chkF at h; cases h
  | .cat a b, C, X, W, x, G, h => by
    unfold chkF at h
    split at h
    · simp only [Bool.and_eq_true] at h
      exact ⟨jf_eq (jf_cat (sndH a _ G h.1) (sndH b _ G h.2)) fun _ => rfl, rfl⟩
    · cases h
  | .rep a b, C, X, W, x, G, h => by
    unfold chkF at h
    split at h
    · simp only [Bool.and_eq_true] at h
      exact ⟨jf_eq (jf_rep (sndH a _ G h.1) (sndE b _ G h.2).1) fun _ => rfl, rfl⟩
    · cases h
  | .sortedRev p, C, X, W, x, G, h => by
    unfold chkF at h
    split at h
    · simp only [Bool.and_eq_true, decide_eq_true_eq, Bool.not_eq_true'] at h
      obtain ⟨⟨⟨⟨rfl, h2⟩, rfl⟩, h4⟩, h5⟩ := h
      exact ⟨jf_eq (jf_sortR G.calm G.un (G.glo h2) (G.blt _ (by decide +kernel)) (sndP p _ G h5) h4) fun _ => rfl, rfl⟩
    · cases h
  | .dict0, C, X, W, x, G, h => by
    unfold chkF at h
    split at h
    · exact ⟨jf_eq jf_dict0 fun _ => rfl, rfl⟩
    · cases h
  | .dict2 a b c d, C, X, W, x, G, h => by
    unfold chkF at h
    split at h
    · simp only [Bool.and_eq_true] at h
      obtain ⟨⟨⟨h1, h2⟩, h3⟩, h4⟩ := h
      exact ⟨jf_eq (jf_dict2 G.un (sndE a _ G h1).1 (sndE b _ G h2).1 (sndE c _ G h3).1 (sndE d _ G h4).1) fun _ => rfl, rfl⟩
    · cases h
  | .dictOf a, C, X, W, x, G, h => by
    unfold chkF at h
    split at h
    · simp only [Bool.and_eq_true, decide_eq_true_eq, Bool.not_eq_true'] at h
      obtain ⟨⟨⟨rfl, h2⟩, h3⟩, h4⟩ := h
      exact ⟨jf_eq (jf_dictOf G.calm G.un (G.glo h2) (G.blt _ (by decide +kernel)) (sndE a _ G h4).1 h3) fun _ => rfl, rfl⟩
    · cases h
  | .call f as, C, X, W, x, G, h => by
    unfold chkF at h
    split at h
    · rename_i y p xs pos
      simp only [Bool.and_eq_true] at h
      obtain ⟨g1, g2⟩ := G.gn h.1
      replace h := h.2
      split at h
      · rename_i fn hf
        simp only [Bool.and_eq_true, decide_eq_true_eq] at h
        obtain ⟨⟨⟨rfl, h2⟩, h3⟩, h4⟩ := h
        obtain ⟨j1, j2⟩ := sndAs as xs G h4
        obtain ⟨fa, fd, m1, m2, m3, m4⟩ := G.fns f fn hf
        cases xs with
        | nil => cases as with
          | nil => simp [As.len] at h3
          | cons _ _ => simp [chkAs] at h4
        | cons e0 es0 =>
          simp only [List.all_cons, Bool.and_eq_true, Bool.not_eq_true'] at j2
          exact ⟨jf_eq (jf_call m4 G.room G.gd g1 m1 m2 m3 G.tk j1 (fun μ xs μ' e => by rw [evAs_len e]; exact h2) g2 j2.1 (by simpa using j2.2)) fun _ => rfl, rfl⟩
      · cases h
    · cases h
  | .split o a, C, X, W, x, G, h => by
    unfold chkF at h
    split at h
    · simp only [Bool.and_eq_true, decide_eq_true_eq, Bool.not_eq_true'] at h
      obtain ⟨⟨⟨⟨⟨rfl, h2⟩, h3⟩, h4⟩, h5⟩, h6⟩ := h
      exact ⟨jf_eq (jf_split (sndE o _ G h5).1 (sndE a _ G h6).1 h2 h3 h4) fun _ => rfl, rfl⟩
    · cases h
theorem sndO1 : ∀ (c : O) {C : Cn} {X : Cx} (xs : List Expr), Good fns gls Wn k xr C X W0 → chkO1 fns gls C c xs = true → PTs X xs (ttOf X.K (rcOf (sem fns Wn k) c))
  | .none, C, X, xs, G, h => by
    cases xs with
    | nil => exact pts_nil
    | cons _ _ => simp [chkO1] at h
  | .some e, C, X, xs, G, h => by
    cases xs with
    | nil => simp [chkO1] at h
    | cons x r =>
      cases r with
      | cons _ _ => simp [chkO1] at h
      | nil =>
        unfold chkO1 at h
        simp only [Bool.and_eq_true, Bool.not_eq_true'] at h
        exact pts_one ((sndE e _ G h.2).2 h.1)
theorem sndI : ∀ (i : I) {C : Cn} {X : Cx} {W : WXm} (tg x : Expr), Good fns gls Wn k xr C X W → chkI fns gls C i tg x = true → JI X W (pks i) tg x (evI (sem fns Wn k) i)
  | .seq (.e e), C, X, W, tg, x, G, h => by
    unfold chkI chkP at h
    exact ji_seq (sndE e _ G h).1
  | .seq (.pk i), C, X, W, tg, x, G, h => by
    unfold chkI chkP at h
    split at h
    · obtain ⟨n1, n2, n3, n4⟩ := G.nm h
      exact ji_seqK n1 n2 n3 n4
    · cases h
  | .rng1 a, C, X, W, tg, x, G, h => by
    unfold chkI at h
    split at h
    · simp only [Bool.and_eq_true, decide_eq_true_eq, Bool.not_eq_true'] at h
      obtain ⟨⟨⟨rfl, h2⟩, h3⟩, h4⟩ := h
      exact ji_rng1 (G.glo h2) (G.blt _ (by decide +kernel)) (sndE a _ G h4).1 h3
    · cases h
  | .rng2 a b, C, X, W, tg, x, G, h => by
    unfold chkI at h
    split at h
    · simp only [Bool.and_eq_true, decide_eq_true_eq, Bool.not_eq_true'] at h
      obtain ⟨⟨⟨⟨⟨rfl, h2⟩, h3⟩, h4⟩, h5⟩, h6⟩ := h
      exact ji_rng2 (G.glo h2) (G.blt _ (by decide +kernel)) (sndE a _ G h5).1 (sndE b _ G h6).1 h3 h4
    · cases h
  | .zip a b, C, X, W, tg, x, G, h => by
    unfold chkI at h
    split at h
    · simp only [Bool.and_eq_true, decide_eq_true_eq, Bool.not_eq_true'] at h
      obtain ⟨⟨⟨⟨⟨⟨rfl, h2⟩, h3⟩, h4⟩, h7⟩, h5⟩, h6⟩ := h
      cases tg with
      | Tuple es kk p => exact ji_zip (G.glo h2) (G.blt _ (by decide +kernel)) (sndE a _ G h5).1 (sndE b _ G h6).1 h3 h4
      | _ => simp [isTupE] at h7
    · cases h
  | .rng3 _ _ _, C, X, W, tg, x, G, h => by unfold chkI at h; cases h
  | .enum _, C, X, W, tg, x, G, h => by unfold chkI at h; cases h
  | .rev _, C, X, W, tg, x, G, h => by unfold chkI at h; cases h
  | .revr _, C, X, W, tg, x, G, h => by unfold chkI at h; cases h
end
end
end Mn
set_option Elab.async false
set_option linter.all false
set_option maxRecDepth 100000
set_option autoImplicit false
set_option maxHeartbeats 1000000
namespace Mn
open PySem PySem.Spec L2
theorem sw_plain {v : Expr} {t : Option Expr} {l : Nat} {env : Env} (h : isCmp v = false) : swapsWith v t l env = pure false := by
  cases v <;> first | rfl | (simp [isCmp] at h)
theorem sw_sole {v t : Expr} {l : Nat} {env : Env} (h : isCmp v = false) : swapsWithSole [t] v l env = pure false := sw_plain h
theorem sub_plain {o i : Expr} {pos : Pos} {env : Env} (h : isSlice i = false) : ∀ v, assign (.Subscript o i pos) env v = (do
      let ov ← holding [v] (eval o env)
      let iv ← holding [v, ov] (eval i env)
      standAt pos
      holding [v, ov, iv] (setItem ov iv v)
      release [v, ov, iv] []) := fun v => by
  cases i <;> first | rfl | (simp [isSlice] at h)
theorem notTup {ts : List Expr} {kt : Nat} {pt : Pos} {v : Expr} {env : Env} (h : isTupE v = false) : swappedStores [.Tuple ts kt pt] v env = pure none := by
  cases v <;> first | rfl | (simp [isTupE] at h)
theorem sw_pair {x y : Str} {px py pt pt2 : Pos} {kt k2 : Nat} {a b : Expr} {env : Env} (hk : env.scope.kind = .function) (hx : env.scope.names.lookup x = some .local) (hy : env.scope.names.lookup y = some .local) (hxy : (x == y) = false) (hl : (px.line == py.line) = true)
    (ha : isStar a = false) (hb : isStar b = false) (hf : foldB a b = true) : swappedStores [.Tuple [.Name x px, .Name y py] kt pt] (.Tuple [a, b] k2 pt2) env = pure (some [x, y]) := by
  have kx : env.kindOf x = some .local := hx
  have ky : env.kindOf y = some .local := hy
  have hbk : env.blockKind = .function := by unfold Env.blockKind; rw [hk]; rfl
  have hl' : (py.line == px.line) = true := by rw [beq_iff_eq] at hl ⊢; exact hl.symm
  unfold foldB at hf
  simp only [Bool.and_eq_true, Bool.not_eq_true'] at hf
  have nd : (x = y) = False := by simp only [eq_iff_iff, iff_false]; intro z; subst z; simp at hxy
  have nd' : (y = x) = False := by simp only [eq_iff_iff, iff_false]; intro z; subst z; simp at hxy
  have yx : (y == x) = false := by rw [Bool.eq_false_iff]; intro z; rw [beq_iff_eq] at z; subst z; simp at hxy
  unfold swappedStores
  simp only [hbk, kx, ky, hl', hf.1, hf.2, Expr.pos, List.length, List.any_cons, List.any_nil, List.head?, Option.map, Option.getD, List.filterMap]
  simp [hl', List.eraseDups, List.eraseDupsBy, List.eraseDupsBy.loop, hxy, nd, nd', Expr.pos, hf.1, hf.2, kx, ky]
  rw [yx, if_neg]
  · simp
  · rintro (h | h)
    · cases a <;> simp [isStar] at ha h
    · cases b <;> simp [isStar] at hb h
theorem sw_tup {ts : List Expr} {kt : Nat} {pt : Pos} {l : Nat} {env : Env} (v : Expr) : swapsWithSole [.Tuple ts kt pt] v l env = pure false := by cases v <;> rfl
theorem sw_three {x y z : Str} {px py pz pt pt2 : Pos} {kt k2 : Nat} {a b c : Expr} {env : Env} (hk : env.scope.kind = .function) (hx : env.scope.names.lookup x = some .local) (hy : env.scope.names.lookup y = some .local) (hz : env.scope.names.lookup z = some .local) (hxy : (x == y) = false) (hxz : (x == z) = false) (hyz : (y == z) = false) (hl : (px.line == py.line) = true) (hl2 : (px.line == pz.line) = true)
    (ha : isStar a = false) (hb : isStar b = false) (hc : isStar c = false) (hf : foldC a b c = true) : swappedStores [.Tuple [.Name x px, .Name y py, .Name z pz] kt pt] (.Tuple [a, b, c] k2 pt2) env = pure (some [x, y, z]) := by
  have kx : env.kindOf x = some .local := hx
  have ky : env.kindOf y = some .local := hy
  have kz : env.kindOf z = some .local := hz
  have hbk : env.blockKind = .function := by unfold Env.blockKind; rw [hk]; rfl
  have hl' : (py.line == px.line) = true := by rw [beq_iff_eq] at hl ⊢; exact hl.symm
  have hl2' : (pz.line == px.line) = true := by rw [beq_iff_eq] at hl2 ⊢; exact hl2.symm
  unfold foldC at hf
  simp only [Bool.and_eq_true, Bool.not_eq_true'] at hf
  have flip : ∀ {u v : Str}, (u == v) = false → (v == u) = false := fun {u v} h => by rw [Bool.eq_false_iff]; intro q; rw [beq_iff_eq] at q; subst q; simp at h
  have yx := flip hxy
  have zx := flip hxz
  have zy := flip hyz
  have nm : ([Expr.Name x px, Expr.Name y py, Expr.Name z pz].filterMap fun e => match e with
      | .Name id pos => if env.kindOf id == some .local && pos.line == px.line then some id else none
      | _ => none) = [x, y, z] := by
    simp [List.filterMap, kx, ky, kz, hl', hl2']
  have er : [x, y, z].eraseDups.length = 3 := by
    simp [List.eraseDups, List.eraseDupsBy, List.eraseDupsBy.loop, yx, zx, zy]
  have st : ([a, b, c].any fun e => match e with | .Starred .. => true | _ => false) = false := by
    simp only [List.any_cons, List.any_nil, Bool.or_false, Bool.or_eq_false_iff]
    refine ⟨?_, ?_, ?_⟩
    · cases a <;> first | rfl | (simp [isStar] at ha)
    · cases b <;> first | rfl | (simp [isStar] at hb)
    · cases c <;> first | rfl | (simp [isStar] at hc)
  have hs : swappedStores [.Tuple [.Name x px, .Name y py, .Name z pz] kt pt] (.Tuple [a, b, c] k2 pt2) env = (do
      if ([a, b, c].any fun e => match e with | .Starred .. => true | _ => false) then return none
      let names := [Expr.Name x px, Expr.Name y py, Expr.Name z pz].filterMap fun e => match e with
        | .Name id pos => if env.kindOf id == some .local && pos.line == px.line then some id else none
        | _ => none
      if names.length != 3 || names.eraseDups.length != names.length then return none
      if [a, b, c].all (foldedForSure 8) then return none
      if [a, b, c].all (constantsAlone 8) then unsupported "assign.tuple-of-constant-expressions:order-of-the-stores"
      return some names) := by
    unfold swappedStores
    simp only [hbk]
    rfl
  rw [hs, st, nm]
  simp only [er, hf.1, hf.2]
  rfl
section
variable {fns : List Fn} {gls : List (Str × D)} {Wn k : Nat} {xr : XRl}
theorem swB_cases {C : Cn} {x : Str} {px : Pos} {v : Expr} (h : (swB C x px v).isSome = true) : swB C x px v = some true ∨ swB C x px v = some false := by
  cases q : swB C x px v with
  | none => rw [q] at h; cases h
  | some b => cases b; exact .inr rfl; exact .inl rfl
theorem sw_no {C : Cn} {x : Str} {px : Pos} {v : Expr} {l : Nat} {env : Env} (hsc : env.scope = C.sc) (h : swB C x px v = some false) : swapsWith v (some (.Name x px)) l env = pure false := by
  unfold swB at h
  split at h
  · rename_i elt tg iter ifs n scope pos
    split at h
    · cases h
    · split at h
      · rename_i h2
        rw [Bool.not_eq_true'] at h2
        have : (env.kindOf x == some NameKind.local) = false := by
          rw [Bool.eq_false_iff]
          intro z
          rw [beq_iff_eq] at z
          have z : env.scope.names.lookup x = some .local := z
          rw [hsc] at z
          unfold kindB at h2
          rw [z] at h2; cases h2
        unfold swapsWith
        simp [this]
      · cases h
  · split at h
    · cases h
    · rename_i h2; exact sw_plain (by simpa using h2)
theorem sw_yes {C : Cn} {x : Str} {px : Pos} {v : Expr} (h : swB C x px v = some true) : ∃ elt tg iter ifs n scope pos, v = .ListComp elt [⟨tg, iter, ifs, n⟩] scope pos ∧ C.sc.names.lookup x = some .local ∧ (px.line == pos.line) = true ∧ (scope.names.any fun (n, k) => n == x && (k == .local || k == .cell)) = false := by
  unfold swB at h
  split at h
  · rename_i elt tg iter ifs n scope pos
    split at h
    · rename_i h2
      simp only [Bool.and_eq_true, Bool.not_eq_true'] at h2
      exact ⟨elt, tg, iter, ifs, n, scope, pos, rfl, isLoc_of h2.1.1, h2.1.2, h2.2⟩
    · split at h
      · cases h
      · cases h
  · split at h
    · cases h
    · cases h
theorem chkE_lc {C : Cn} {e : E} {elt : Expr} {gs : List Comprehension} {scope : Scope} {pos : Pos} (h : chkE fns gls C e (.ListComp elt gs scope pos) = true) : ∃ f, e = .fre f ∧ chkF fns gls C f (.ListComp elt gs scope pos) = true := by
  cases e with
  | fre f => unfold chkE at h; exact ⟨f, rfl, h⟩
  | sl a lo hi => cases a <;> (unfold chkE at h; cases h)
  | _ => unfold chkE at h; cases h
theorem chkF_lc {C : Cn} {f : FE} {ex tg iter : Expr} {ifs : List Expr} {n : Int} {scope : Scope} {pos : Pos} (h : chkF fns gls C f (.ListComp ex [⟨tg, iter, ifs, n⟩] scope pos) = true) : ∃ elt t tup it c, f = .comp elt t tup it c ∧ n = 0 ∧ chkI fns gls C it tg iter = true ∧ isSetE iter = false ∧ blkC C.N C.sc scope (ownOf C t) = true ∧
    chkT (C.blk scope) t tup tg = true ∧ chkE fns gls (C.blk scope) elt ex = true ∧ chkO1 fns gls (C.blk scope) c ifs = true := by
  cases f with
  | comp elt t tup it c =>
    unfold chkF at h
    simp only [Bool.and_eq_true, decide_eq_true_eq, Bool.not_eq_true'] at h
    obtain ⟨⟨⟨⟨⟨⟨h1, h2⟩, h3⟩, h4⟩, h5⟩, h6⟩, h7⟩ := h
    exact ⟨elt, t, tup, it, c, rfl, h1, h2, h3, h4, h5, h6, h7⟩
  | listOf it => cases it <;> (unfold chkF at h; cases h)
  | _ => unfold chkF at h; cases h
/-- name = [.. for ..] whose store comes within -/
theorem lc_set {C : Cn} {X : Cx} {W : WXm} {f : FE} {i : Nat} {x : Str} {px spos : Pos} {v : Expr} (G : Good fns gls Wn k xr C X W) (hk : X.env.scope.kind = .function) (hN : X.N[i]? = some x) (hs : swB C x px v = some true) (h : chkF fns gls C f v = true) :
    ∃ te, PS X (.Assign [.Name x px] v spos) (tAsg te (gName i)) ∧ ∀ σ H Q, Tf X.K W (evF (sem fns Wn k) f) σ H Q → te σ H Q := by
  obtain ⟨ex, tg, iter, ifs, n, scope, pos, rfl, s1, s2, s3⟩ := sw_yes hs
  obtain ⟨elt, t, tup, it, c, rfl, rfl, h2, h3, h4, h5, h6, h7⟩ := chkF_lc h
  have cm := comp_mk G (sndI it tg iter G h2) h3 h4 h5 (fun s H A cl fp => sndO1 c ifs (G.blk s H scope cl A fp) h7) fun s H A cl fp => (sndE elt _ (G.blk s H scope cl A fp) h6).1
  obtain ⟨own, o1, o2⟩ := cm.ok
  have s1 : X.env.scope.names.lookup x = some .local := by rw [G.sc]; exact s1
  refine ⟨_, ps_setLc G.calm G.nd hN s1 (sw_true hk s1 s2 s3) cm.hi o1 cm.hg cm.hts cm.he cm.hfs, fun σ H Q hq => ?_⟩
  rw [o2]
  refine tr_comp cm.ht1 ?_
  obtain ⟨cc, L, M, μ, S, p⟩ := hq
  refine ⟨cc, L, M, μ, S, ?_⟩
  cases c <;> exact p
theorem ios_not {C : Cn} {i : Nat} (h : C.ios.contains i = false) : i ∉ C.ios := fun z => by
  rw [List.contains_eq_mem, decide_eq_false_iff_not] at h; exact h z
theorem snd_par3 {C : Cn} {X : Cx} {W : WXm} {is : List Nat} {e : E} {xs : List Expr} {v : Expr} {kt : Nat} {pt pos : Pos} (G : Good fns gls Wn k xr C X W) (hk : X.env.scope.kind = .function) (h : par3B fns gls C is e xs v = true) :
    JS X W C.ios (.Assign [.Tuple xs kt pt] v pos) (exec (sem fns Wn k) Wn (.unp is e)) := by
  unfold par3B at h
  split at h
  · rename_i i j l a b c x px y py z pz ea eb ec k2 pt2
    simp only [Bool.and_eq_true, Bool.not_eq_true', decide_eq_true_eq] at h
    obtain ⟨⟨⟨⟨⟨⟨⟨⟨⟨⟨n1, n2⟩, n3⟩, ⟨d1, d2⟩, d3⟩, ⟨q1, q2⟩, q3⟩, ⟨l1, l2⟩, l3⟩, p1, p2⟩, ⟨s1, s2⟩, s3⟩, hf⟩, ⟨o1, o2⟩, o3⟩, ⟨c1, c2⟩, c3⟩ := h
    have lx : X.env.scope.names.lookup x = some .local := by rw [G.sc]; exact isLoc_of l1
    have ly : X.env.scope.names.lookup y = some .local := by rw [G.sc]; exact isLoc_of l2
    have lz : X.env.scope.names.lookup z = some .local := by rw [G.sc]; exact isLoc_of l3
    have ne : ∀ {u v : Nat}, (u == v) = false → u ≠ v := fun h z => by subst z; simp at h
    refine js_eq (js_par3 (ps_par3 G.calm G.nd (by rw [G.N]; exact n1) (by rw [G.N]; exact n2) (by rw [G.N]; exact n3) (ne d1) (ne d2) (ne d3) lx ly lz (ja_cons (sndE a _ G c1).1 (ja_cons (sndE b _ G c2).1 (ja_cons (sndE c _ G c3).1 ja_nil s3) s2) s1) (sw_three hk lx ly lz q1 q2 q3 p1 p2 s1 s2 s3 hf)) (ios_not o1) (ios_not o2) (ios_not o3)) fun μ => ?_
    show ((ev (sem fns Wn k) (.tup (.cons a (.cons b (.cons c .nil)))) μ).bind fun d μ1 => match setT [i, j, l] true d μ1 with
      | some μ2 => Rs.ok Fl.nx μ2
      | none => .st) = _
    show (((evs (sem fns Wn k) (.cons a (.cons b (.cons c .nil))) μ).bind fun xs μ1 => Rs.ok (.tuple xs) μ1).bind fun d μ1 => match setT [i, j, l] true d μ1 with
      | some μ2 => Rs.ok Fl.nx μ2
      | none => .st) = (evs (sem fns Wn k) (.cons a (.cons b (.cons c .nil))) μ).bind _
    cases evs (sem fns Wn k) (.cons a (.cons b (.cons c .nil))) μ with
    | st => rfl
    | ex _ _ => rfl
    | ok ds μ1 => rfl
  · cases h
theorem js_rse {X : Cx} {W : WXm} {ios : List Nat} {e : Expr} {pos : Pos} {c : Nat} {Ca : Addr} (hc : X.calm = true) (tk : Takes X (wx xr W)) (hm : PMk X e (fun _ H Q => Q (.ref Ca) none H)) (hx : ∀ H, xr ⟨c, []⟩ (.ref Ca) none H) : JS X W ios (.Raise (some e) none pos) (fun μ => .ex ⟨c, []⟩ μ) :=
  ps_mono (ps_raise hc tk hm) fun E σ H ⟨c0, L, M, μ, hio, S, p⟩ => ⟨⟨c, []⟩, hx H, p L M σ H S (.of .refl)⟩
theorem js_rseF {X : Cx} {W : WXm} {ios : List Nat} {e : Expr} {pos : Pos} {c : Nat} {Ca : Addr} {f w : Str} (hc : X.calm = true) (tk : Takes X (wx xr W)) (hm : PMk X e (fun _ H Q => ∀ d, H d = none → Q (.ref Ca) (some d) (upd H d (.xd [(f, .str w)])))) (hx : ∀ d H, H d = some (.xd [(f, .str w)]) → xr ⟨c, [.str w]⟩ (.ref Ca) (some d) H) : JS X W ios (.Raise (some e) none pos) (fun μ => .ex ⟨c, [.str w]⟩ μ) :=
  ps_mono (ps_raise hc tk hm) fun E σ H ⟨c0, L, M, μ, hio, S, p⟩ => fun d hd => by
    have kk : ∀ a o, H a = some o → upd H d (.xd [(f, .str w)]) a = some o := fun a o e => by rw [upd_ne (ne_of_none e hd)]; exact e
    exact ⟨⟨c, [.str w]⟩, hx d _ upd_same, p L M σ _ (S.mut kk) (.of fun a o e _ => kk a o e)⟩
theorem Good.tr {C : Cn} {X : Cx} {W W' : WXm} (G : Good fns gls Wn k xr C X W) (pn : List (Addr × Obj)) (xe : Value → Shared → Prop) (tk : Takes (X.tr pn xe) (wx xr W')) : Good fns gls Wn k xr C (X.tr pn xe) W' where
  N := G.N
  nd := G.nd
  sc := G.sc
  fn := G.fn
  calm := G.calm
  room := G.room
  gd := G.gd
  fns := G.fns
  blt := G.blt
  gl := G.gl
  cl := G.cl
  xs := G.xs
  tk := tk
theorem wipe_at {μ μ' : Mu} {i : Nat} (h : wipeM [i] μ = some μ') : freeAll [i] μ = true ∧ μ' = wipeL μ [i] := by
  unfold wipeM at h
  split at h
  · rename_i q; exact ⟨q, (Option.some.inj h).symm⟩
  · cases h
theorem suS_len {h : Hd} {b : Bool} {w : V} {σ : L2.St} : (suS h b w σ).length = σ.length := by
  unfold suS
  cases h.pre <;> cases b <;> simp
theorem dv_const {K : PySem.W.Frag} {H : Hp} {L : Ads} {d : D} (h : (match d with | .str _ => true | .bool _ => true | .none => true | _ => false) = true) : Dv K H L d (vK d) := by
  cases d <;> first | exact .str _ | exact .bl _ | exact .non | cases h
theorem set1_inv {K : PySem.W.Frag} {c : Ent} {L M : Ads} {μ μ2 : Mu} {σ : L2.St} {H : Hp} {j : Nat} {d : D} (S : Sr K c L M μ σ H) (hj : ∀ p ∈ c.io, p.1 ≠ j) (w : Dv K H L d (vK d)) (h : setAll [j] [d] μ = some μ2) : Sr K c L M μ2 (σ.set j (some (vK d))) H := by
  unfold setAll at h
  split at h
  · cases h
  · rename_i hl
    have e : setN j d μ = μ2 := Option.some.inj h
    rw [← e]
    exact S.set' w hj (isLck_of hl)
def preR (hd : Hd) (μ : Mu) : Option Mu := match hd.pre with
  | some d => setAll [hd.j] [d] μ
  | none => some μ
theorem hdR_eq (hd : Hd) (t : Bool) (fs : List D) (μ : Mu) : hdR hd t fs μ = Rs.nx ((preR hd μ).bind fun (μ2 : Mu) => (if t then (hdV hd fs).bind fun v => setAll [hd.j] [v] μ2 else some μ2).bind fun (μ3 : Mu) => wipeM [hd.i] μ3) := rfl
def preS (hd : Hd) (σ : L2.St) : L2.St := match hd.pre with
  | some d => σ.set hd.j (some (vK d))
  | none => σ
theorem suS_eq (hd : Hd) (t : Bool) (w : V) (σ : L2.St) : suS hd t w σ = if t then (preS hd σ).set hd.j (some w) else preS hd σ := rfl
theorem hdR_inv {K : PySem.W.Frag} {c : Ent} {L M L' M' : Ads} {W : WXm} {μ1 : Mu} {vs : L2.St} {H H' : Hp} {E : Ends} {hd : Hd} {t : Bool} {fs : List D} (S : Sr K c L' M' μ1 vs H') (hds : chkDs hd = true) (hj : ∀ p ∈ c.io, p.1 ≠ hd.j) (hv : ∀ d, t = true → hdV hd fs = some d → Dv K H' L' d (vK d)) (p : PostS K c L M W H E (hdR hd t fs μ1)) :
    ∃ μ3 w, (t = true → ∃ d, hdV hd fs = some d ∧ w = vK d) ∧ Sr K c L' M' μ3 (suS hd t w vs) H' ∧ freeAll [hd.i] μ3 = true ∧ ∀ L' M' σ' H', Sr K c L' M' (wipeL μ3 [hd.i]) σ' H' → Ext L M H L' M' H' → E.nx σ' H' := by
  rw [hdR_eq] at p
  unfold chkDs at hds
  rw [Bool.and_eq_true] at hds
  obtain ⟨μ2, e2, S2⟩ : ∃ μ2, preR hd μ1 = some μ2 ∧ Sr K c L' M' μ2 (preS hd vs) H' := by
    unfold preS
    cases h2 : preR hd μ1 with
    | none => rw [h2] at p; exact p.elim
    | some μ2 =>
      refine ⟨μ2, rfl, ?_⟩
      unfold preR at h2
      cases hp : hd.pre with
      | none => rw [hp] at h2; cases h2; exact S
      | some d =>
        rw [hp] at h2 hds
        exact set1_inv S hj (dv_const (by cases d <;> simp_all)) h2
  rw [e2] at p
  simp only [Option.bind_some] at p
  obtain ⟨μ3, w, e3, hw, S3⟩ : ∃ μ3 w, (if t then (hdV hd fs).bind fun v => setAll [hd.j] [v] μ2 else some μ2) = some μ3 ∧ (t = true → ∃ d, hdV hd fs = some d ∧ w = vK d) ∧ Sr K c L' M' μ3 (suS hd t w vs) H' := by
    cases t with
    | false => exact ⟨μ2, .non, rfl, fun z => (nomatch z), by rw [suS_eq]; exact S2⟩
    | true =>
      rw [if_pos rfl] at p
      cases hv1 : hdV hd fs with
      | none => rw [hv1] at p; exact p.elim
      | some d =>
        rw [hv1] at p
        simp only [Option.bind_some] at p
        cases hs : setAll [hd.j] [d] μ2 with
        | none => rw [hs] at p; exact p.elim
        | some μ3 => exact ⟨μ3, vK d, by rw [if_pos rfl]; exact hs, fun _ => ⟨d, rfl, rfl⟩, by rw [suS_eq, if_pos rfl]; exact set1_inv S2 hj (hv d rfl hv1) hs⟩
  rw [e3] at p
  simp only [Option.bind_some] at p
  cases hwp : wipeM [hd.i] μ3 with
  | none => rw [hwp] at p; exact p.elim
  | some μ4 =>
    rw [hwp] at p
    obtain ⟨f, rfl⟩ := wipe_at hwp
    exact ⟨μ3, w, hw, S3, f, p⟩
/-- the class that is caught -/
theorem cls_val1 {C : Cn} {X : Cx} {W : WXm} {cn : Str} {cd : D} {ck : Nat} {csups : List Str} (G : Good fns gls Wn k xr C X W) (hq : cn ∈ qNames gls) (cl1 : gls.lookup cn = some cd) (cl2 : clsOf cd = some (ck, csups)) :
    ∃ cv, NmV X.mg cn cv ∧ ∀ x d kk sups Ca, gls.lookup x = some d → clsOf d = some (kk, sups) → X.mg x = some (.ref Ca) → PySem.W.exmOne X.K (.ref Ca) cv = some (decide (cn ∈ sups)) := by
  obtain ⟨Ca, m1, _, so⟩ := G.cl _ _ _ _ cl1 cl2
  obtain ⟨cv, nm, _, _⟩ := so _ hq
  refine ⟨cv, nm, fun x' d' kk' sups' Ca' b1 b2 b3 => ?_⟩
  obtain ⟨Ca2, m2, _, so2⟩ := G.cl _ _ _ _ b1 b2
  rw [b3] at m2; cases m2
  obtain ⟨cv2, nm2, _, ex2⟩ := so2 _ hq
  have : cv2 = cv := by
    rcases nm2.at_ with q | ⟨q, q', _⟩
    · rcases nm.at_ with r | ⟨r, _, _⟩
      · rw [q] at r; exact Option.some.inj r
      · rw [q] at r; cases r
    · rcases nm.at_ with r | ⟨r, r', _⟩
      · rw [q] at r; cases r
      · rw [q'] at r'; exact Option.some.inj r'
  rw [← this]; exact ex2
theorem js_tryX {C : Cn} {X : Cx} {W : WXm} {b : Ss} {hd : Hd} {body su : List Stmt} {n : Str} {np pos' pos : Pos} (G : Good fns gls Wn k xr C X W) (hs : X.stack = X.env :: X.outer ∧ X.env.frame = some X.env.locals) (h2 : gnOk C hd.cn = true) (h3 : isLoc (kindB C.sc n) = true) (h4 : nmOk C hd.i n = true) (h5 : C.ios.contains hd.i = false) (h6 : C.ios.contains hd.j = false) (h7 : (hd.i == hd.j) = false)
    (h8 : (match C.N[hd.j]? with | some jn => tnOk C hd.j jn && chkSu n jn hd su | none => false) = true) (h9 : (hd.ts.all fun t => (htNames t).all fun y => (qNames gls).contains y && gnOk C y) = true) (h10 : (match gls.lookup hd.cn with | some d => (clsOf d).isSome | none => false) = true) (h11 : glB C.sc "isinstance" = true) (h12 : tabOk gls hd = true) (h13 : chkDs hd = true) (h15 : fldT gls hd = true)
    (hb : ∀ (W' : WXm) (pn : List (Addr × Obj)) (xe : Value → Shared → Prop), Takes (X.tr pn xe) (wx xr W') → PassesOwn (model X.prog X.w) X.A X.env xe → JSs (X.tr pn xe) W' C.ios body (execs (sem fns Wn k) Wn b)) :
    JS X W C.ios (.Try body [.ExceptHandler (some (.Name hd.cn np)) (some n) su pos'] [] [] pos) (exec (sem fns Wn k) Wn (.tryX b hd)) := by
  have ij : hd.i ≠ hd.j := fun z => by rw [z] at h7; simp at h7
  split at h8
  · rename_i jn hjn
    rw [Bool.and_eq_true] at h8
    obtain ⟨n1, n2, n3⟩ := G.tn h8.1
    obtain ⟨e1, e2, e3, e4⟩ := G.nm h4
    obtain ⟨g1, g2⟩ := G.gn h2
    have ln : X.env.scope.names.lookup n = some .local := by rw [G.sc]; exact isLoc_of h3
    obtain ⟨b0, sr, rfl⟩ : ∃ b0 sr, su = b0 :: sr := by
      cases su with
      | nil => have := h8.2; simp [chkSu] at this
      | cons b0 sr => exact ⟨b0, sr, rfl⟩
    obtain ⟨cd, ck, csups, cl1, cl2⟩ : ∃ d kk sups, gls.lookup hd.cn = some d ∧ clsOf d = some (kk, sups) := by
      split at h10
      · rename_i d hl
        cases hc : clsOf d with
        | none => rw [hc] at h10; cases h10
        | some q => exact ⟨d, q.1, q.2, hl, hc⟩
      · cases h10
    have hq : hd.cn ∈ qNames gls := List.mem_cons_of_mem _ (List.mem_filterMap.mpr ⟨(hd.cn, cd), lookup_mem cl1, by simp [cl2]⟩)
    have hts : ∀ t ∈ hd.ts, ∀ y ∈ htNames t, y ∈ qNames gls ∧ gnOk C y = true := fun t ht y hy => by
      have := List.all_eq_true.mp (List.all_eq_true.mp h9 t ht) y hy
      rw [Bool.and_eq_true, List.contains_eq_mem, decide_eq_true_eq] at this
      exact this
    obtain ⟨cv, hcv⟩ := cls_val1 G hq cl1 cl2
    have names : Names X hd.cn cv := ⟨g1, g2, hcv.1.at_⟩
    let TSu : Addr → Value → Option Addr → TS := fun a cls d D σ H => ∃ kk dd sups nm Ca w, gls.lookup nm = some dd ∧ clsOf dd = some (kk, sups) ∧ X.mg nm = some (.ref Ca) ∧ cls = .ref Ca ∧ hd.cn ∈ sups ∧ (∀ f, hd.fld = some f → hd.ts.all (htB sups) = true → PySem.W.findIn X.K (.ref Ca) f = some none) ∧ tSu hd a d (hd.ts.all (htB sups)) w D σ H
    refine ps_mono (ps_try_as hs.1 hs.2 G.nd e1 ln names G.tk (tb := fun W' D σ H => ∃ Wm : WXm, (∀ cls d σ H, wx xr Wm cls d σ H → W' cls d σ H) ∧ TrS X.K Wm C.ios (execs (sem fns Wn k) Wn b) D σ H)
      (ts := TSu)
      (fun W' pn xe tk pw => ⟨fun pins s σ H D I ⟨Wm, imp, t⟩ => (hb Wm pn xe (tk.imp imp) pw).run pins s σ H D I t⟩)
      (fun a oe cls d pn hz hf => ⟨fun pins s σ H D I ⟨kk, dd, sups, nm, Ca, w, l1, l2, l3, l4, l5, l6, t⟩ => ?_⟩)) fun E σ H ⟨c, L, M, μ, hio, S, p⟩ => ?_
    · subst l4
      obtain ⟨Ca2, m2, ok, so⟩ := G.cl _ _ _ _ l1 l2
      rw [l3] at m2; cases m2
      have oks : ∀ t ∈ hd.ts, HtOk X Ca sups n hd.i (htNames t) := fun t ht => by
        refine ⟨ok.xc, e1, e2, e3, e4, G.glo h11, G.blt _ (by decide +kernel), fun y hy => ?_, fun y hy => ?_⟩
        · obtain ⟨cv', nm', k1, _⟩ := so y (hts t ht y hy).1
          exact ⟨cv', nm', k1⟩
        · exact G.gn (hts t ht y hy).2
      cases hfl : hd.fld with
      | none => exact (pss_su (X := X) (a := a) (pn := pn) (w := w) hz hf h8.2 oks (fun f hf2 => by rw [hfl] at hf2; cases hf2) G.nd n1 n2 n3 ij).run pins s σ H D I t
      | some f =>
        by_cases hall : hd.ts.all (htB sups) = true
        · exact (pss_su (X := X) (a := a) (pn := pn) (w := w) hz hf h8.2 oks (fun f' hf2 => l6 f' hf2 hall) G.nd n1 n2 n3 ij).run pins s σ H D I t
        · exact (pss_suN (X := X) (a := a) (pn := pn) (w := w) hz hf h8.2 oks (by simpa using hall) G.nd n1 n2 n3 ij).run pins s σ H D I t
    · have p : PostS X.K c L M W H E (catchR hd (execs (sem fns Wn k) Wn b μ)) := p
      refine ⟨fun x σ' H' => ∀ cls d, xr x cls d H' → wAs X.K cv hd.i TSu (wx xr W) E cls d σ' H', fun cls d σ H ⟨x, q1, q2⟩ => q2 cls d q1, c, L, M, μ, hio, S, ?_⟩
      cases hr : execs (sem fns Wn k) Wn b μ with
      | st => rw [hr] at p; exact p
      | ok fl μ1 => rw [hr] at p; cases fl <;> exact p
      | ex x μ1 =>
        rw [hr] at p
        intro L' M' σ' H' S' ex' cls d hx
        have hx0 := hx
        rw [G.xs] at hx
        obtain ⟨nm, dd, sups, Ca, l1, l2, l3, l4, df⟩ := hx
        have tab := tab_at h12 l1 l2
        refine ⟨decide (hd.cn ∈ sups), by rw [l4]; exact hcv.2 _ _ _ _ _ l1 l2 l3, fun hb1 a ha => ?_, fun hb1 => ?_⟩
        · rw [decide_eq_true_eq] at hb1
          rw [if_pos hb1] at tab
          have p : PostS X.K c L M W H E (match hd.tab[x.cls]? with
            | some (some t) => hdR hd t x.fs μ1
            | _ => .ex x μ1) := p
          rw [tab] at p
          simp only at p
          obtain ⟨μ3, w, hw, S3, free, q⟩ := hdR_inv (vs := σ') (t := hd.ts.all (htB sups)) S' h13 (io_ne hio (ios_not h6)) (fun d' ht hd' => by
            unfold hdV at hd'
            split at hd'
            · cases hd'
              have := h13
              unfold chkDs at this
              rw [Bool.and_eq_true] at this
              exact dv_const this.2
            · split at hd'
              · rename_i z'
                cases hd'
                rcases df with ⟨_, z, _⟩ | ⟨f, w, da, _, z, _⟩
                · rw [z] at z'; cases z'
                · rw [z] at z'; cases z'; exact .str _
              · cases hd') p
          have il : hd.i < σ'.length := by
            obtain ⟨s, es, _⟩ := freeAll_of free hd.i (by simp)
            have l1 := (List.getElem?_eq_some_iff.mp es).1
            have l2 := S3.len
            have l3 : (suS hd (hd.ts.all (htB sups)) w σ').length = σ'.length := suS_len
            omega
          have fk : ∀ f, hd.fld = some f → hd.ts.all (htB sups) = true → fldsOf dd = [f] := fun f hf2 hall => fldT_at h15 hf2 l1 l2 hb1 hall
          refine ⟨_, dd, sups, nm, Ca, w, l1, l2, l3, l4, hb1, fun f hf2 hall => ?_, List.getElem?_set_self il, df.dok, fun hall => ?_, fun H2 k2 => ?_⟩
          · obtain ⟨Ca2, m2, ok, so⟩ := G.cl _ _ _ _ l1 l2
            rw [l3] at m2; cases m2
            exact (ok.ini f (fk f hf2 hall)).no
          · obtain ⟨d', hd', hw'⟩ := hw hall
            unfold FldOk
            unfold hdV at hd'
            cases hfl : hd.fld with
            | none =>
              rw [hfl] at hd'
              cases hd'
              exact hw'
            | some f =>
              rw [hfl] at hd'
              have fd := fk f hfl hall
              rcases df with ⟨z, _, _⟩ | ⟨f', w', da, z1, z2, z3, z4⟩
              · rw [fd] at z; cases z
              · rw [fd] at z1; cases z1
                rw [z2] at hd'
                cases hd'
                exact ⟨da, _, z3, z4, by rw [hw']; simp [List.lookup, vK]⟩
          show E.nx ((suS hd (hd.ts.all (htB sups)) w (σ'.set hd.i (some (.ref a)))).set hd.i none) H2
          rw [suS_set ij, List.set_set]
          have S4 := (S3.wipe free).mut k2
          exact q L' M' _ H2 S4 (ex'.trans S.ml (.of fun a o e _ => k2 a o e))
        · rw [decide_eq_false_iff_not] at hb1
          rw [if_neg hb1] at tab
          have p : PostS X.K c L M W H E (match hd.tab[x.cls]? with
            | some (some t) => hdR hd t x.fs μ1
            | _ => .ex x μ1) := p
          rw [tab] at p
          simp only at p
          exact ⟨x, hx0, p L' M' σ' H' S' ex'⟩
  · cases h8
theorem js_tryC {C : Cn} {X : Cx} {W : WXm} {b : Ss} {j : Nat} {v : D} {cn jn : Str} {tab : List Bool} {body : List Stmt} {e : Expr} {np p1 p2 pos' pos : Pos} (G : Good fns gls Wn k xr C X W) (hs : X.stack = X.env :: X.outer ∧ X.env.frame = some X.env.locals) (h2 : gnOk C cn = true) (h5 : C.ios.contains j = false) (h6 : tnOk C j jn = true) (h7 : chkK v e = true)
    (h10 : (match gls.lookup cn with | some d => (clsOf d).isSome | none => false) = true) (h12 : tabC gls cn tab = true)
    (hb : ∀ (W' : WXm) (pn : List (Addr × Obj)) (xe : Value → Shared → Prop), Takes (X.tr pn xe) (wx xr W') → PassesOwn (model X.prog X.w) X.A X.env xe → JSs (X.tr pn xe) W' C.ios body (execs (sem fns Wn k) Wn b)) :
    JS X W C.ios (.Try body [.ExceptHandler (some (.Name cn np)) none [.Assign [.Name jn p1] e p2] pos'] [] [] pos) (exec (sem fns Wn k) Wn (.tryC b cn j v tab)) := by
  obtain ⟨n1, n2, n3⟩ := G.tn h6
  obtain ⟨g1, g2⟩ := G.gn h2
  obtain ⟨cd, ck, csups, cl1, cl2⟩ : ∃ d kk sups, gls.lookup cn = some d ∧ clsOf d = some (kk, sups) := by
    split at h10
    · rename_i d hl
      cases hc : clsOf d with
      | none => rw [hc] at h10; cases h10
      | some q => exact ⟨d, q.1, q.2, hl, hc⟩
    · cases h10
  have hq : cn ∈ qNames gls := List.mem_cons_of_mem _ (List.mem_filterMap.mpr ⟨(cn, cd), lookup_mem cl1, by simp [cl2]⟩)
  obtain ⟨cv, hcv⟩ := cls_val1 G hq cl1 cl2
  have names : Names X cn cv := ⟨g1, g2, hcv.1.at_⟩
  let TSu : Addr → Value → Option Addr → TS := fun a cls d D σ H => D.nx (σ.set j (some (vK v))) H
  refine ps_mono (ps_try_only hs.1 hs.2 names G.tk (tb := fun W' D σ H => ∃ Wm : WXm, (∀ cls d σ H, wx xr Wm cls d σ H → W' cls d σ H) ∧ TrS X.K Wm C.ios (execs (sem fns Wn k) Wn b) D σ H)
    (ts := TSu)
    (fun W' pn xe tk pw => ⟨fun pins s σ H D I ⟨Wm, imp, t⟩ => (hb Wm pn xe (tk.imp imp) pw).run pins s σ H D I t⟩)
    (fun a oe cls d pn hz hf => pss_one h7 G.nd n1 n2 n3)) fun E σ H ⟨c, L, M, μ, hio, S, p⟩ => ?_
  have p : PostS X.K c L M W H E (catchC j v tab (execs (sem fns Wn k) Wn b μ)) := p
  refine ⟨fun x σ' H' => ∀ cls d, xr x cls d H' → wOnly X.K cv TSu (wx xr W) E cls d σ' H', fun cls d σ H ⟨x, q1, q2⟩ => q2 cls d q1, c, L, M, μ, hio, S, ?_⟩
  cases hr : execs (sem fns Wn k) Wn b μ with
  | st => rw [hr] at p; exact p
  | ok fl μ1 => rw [hr] at p; cases fl <;> exact p
  | ex x μ1 =>
    rw [hr] at p
    intro L' M' σ' H' S' ex' cls d hx
    have hx0 := hx
    rw [G.xs] at hx
    obtain ⟨nm, dd, sups, Ca, l1, l2, l3, l4, df⟩ := hx
    have tb := tabC_at h12 l1 l2
    have p : PostS X.K c L M W H E (match tab[x.cls]? with
      | some true => Rs.nx (setAll [j] [v] μ1)
      | some false => .ex x μ1
      | none => .st) := p
    rw [tb] at p
    refine ⟨decide (cn ∈ sups), by rw [l4]; exact hcv.2 _ _ _ _ _ l1 l2 l3, fun hb1 a ha => ?_, fun hb1 => ?_⟩
    · rw [hb1] at p
      simp only at p
      cases hset : setAll [j] [v] μ1 with
      | none => rw [hset] at p; exact p.elim
      | some μ2 =>
        rw [hset] at p
        obtain ⟨_, dvv, _⟩ := pe_const (Y := X) h7
        exact p L' M' _ H' (set1_inv S' (io_ne hio (ios_not h5)) dvv hset) ex'
    · rw [hb1] at p
      simp only at p
      exact ⟨x, hx0, p L' M' σ' H' S' ex'⟩
theorem set1_v {K : PySem.W.Frag} {c : Ent} {L M : Ads} {μ μ2 : Mu} {σ : L2.St} {H : Hp} {j : Nat} {d : D} {v : V} (S : Sr K c L M μ σ H) (hj : ∀ p ∈ c.io, p.1 ≠ j) (w : Dv K H L d v) (h : setAll [j] [d] μ = some μ2) : Sr K c L M μ2 (σ.set j (some v)) H := by
  unfold setAll at h
  split at h
  · cases h
  · rename_i hl
    have e : setN j d μ = μ2 := Option.some.inj h
    rw [← e]
    exact S.set' w hj (isLck_of hl)
theorem js_tryL {C : Cn} {X : Cx} {W : WXm} {b : Ss} {j : Nat} {cn jn : Str} {tab : List Bool} {body : List Stmt} {np p1 p2 p3 pos' pos : Pos} (G : Good fns gls Wn k xr C X W) (hs : X.stack = X.env :: X.outer ∧ X.env.frame = some X.env.locals) (h2 : gnOk C cn = true) (h5 : C.ios.contains j = false) (h6 : tnOk C j jn = true)
    (h10 : (match gls.lookup cn with | some d => (clsOf d).isSome | none => false) = true) (h12 : tabC gls cn tab = true)
    (hb : ∀ (W' : WXm) (pn : List (Addr × Obj)) (xe : Value → Shared → Prop), Takes (X.tr pn xe) (wx xr W') → PassesOwn (model X.prog X.w) X.A X.env xe → JSs (X.tr pn xe) W' C.ios body (execs (sem fns Wn k) Wn b)) :
    JS X W C.ios (.Try body [.ExceptHandler (some (.Name cn np)) none [.Assign [.Name jn p1] (.List [] p3) p2] pos'] [] [] pos) (exec (sem fns Wn k) Wn (.tryL b cn j tab)) := by
  obtain ⟨n1, n2, n3⟩ := G.tn h6
  obtain ⟨g1, g2⟩ := G.gn h2
  obtain ⟨cd, ck, csups, cl1, cl2⟩ : ∃ d kk sups, gls.lookup cn = some d ∧ clsOf d = some (kk, sups) := by
    split at h10
    · rename_i d hl
      cases hc : clsOf d with
      | none => rw [hc] at h10; cases h10
      | some q => exact ⟨d, q.1, q.2, hl, hc⟩
    · cases h10
  have hq : cn ∈ qNames gls := List.mem_cons_of_mem _ (List.mem_filterMap.mpr ⟨(cn, cd), lookup_mem cl1, by simp [cl2]⟩)
  obtain ⟨cv, hcv⟩ := cls_val1 G hq cl1 cl2
  have names : Names X cn cv := ⟨g1, g2, hcv.1.at_⟩
  let TSu : Addr → Value → Option Addr → TS := fun a cls d D σ H => ∀ p, H p = none → D.nx (σ.set j (some (.ref p))) (upd H p (.lst []))
  refine ps_mono (ps_try_only hs.1 hs.2 names G.tk (tb := fun W' D σ H => ∃ Wm : WXm, (∀ cls d σ H, wx xr Wm cls d σ H → W' cls d σ H) ∧ TrS X.K Wm C.ios (execs (sem fns Wn k) Wn b) D σ H)
    (ts := TSu)
    (fun W' pn xe tk pw => ⟨fun pins s σ H D I ⟨Wm, imp, t⟩ => (hb Wm pn xe (tk.imp imp) pw).run pins s σ H D I t⟩)
    (fun a oe cls d pn hz hf => pss_oneL G.nd n1 n2 n3)) fun E σ H ⟨c, L, M, μ, hio, S, p⟩ => ?_
  have p : PostS X.K c L M W H E (catchC j (.list []) tab (execs (sem fns Wn k) Wn b μ)) := p
  refine ⟨fun x σ' H' => ∀ cls d, xr x cls d H' → wOnly X.K cv TSu (wx xr W) E cls d σ' H', fun cls d σ H ⟨x, q1, q2⟩ => q2 cls d q1, c, L, M, μ, hio, S, ?_⟩
  cases hr : execs (sem fns Wn k) Wn b μ with
  | st => rw [hr] at p; exact p
  | ok fl μ1 => rw [hr] at p; cases fl <;> exact p
  | ex x μ1 =>
    rw [hr] at p
    intro L' M' σ' H' S' ex' cls d hx
    have hx0 := hx
    rw [G.xs] at hx
    obtain ⟨nm, dd, sups, Ca, l1, l2, l3, l4, df⟩ := hx
    have tb := tabC_at h12 l1 l2
    have p : PostS X.K c L M W H E (match tab[x.cls]? with
      | some true => Rs.nx (setAll [j] [.list []] μ1)
      | some false => .ex x μ1
      | none => .st) := p
    rw [tb] at p
    refine ⟨decide (cn ∈ sups), by rw [l4]; exact hcv.2 _ _ _ _ _ l1 l2 l3, fun hb1 a ha => ?_, fun hb1 => ?_⟩
    · rw [hb1] at p
      simp only at p
      cases hset : setAll [j] [.list []] μ1 with
      | none => rw [hset] at p; exact p.elim
      | some μ2 =>
        rw [hset] at p
        intro q hq
        obtain ⟨n1', n2', n3'⟩ := S'.newLst (ds := []) (vs := []) .nil hq
        exact p L' M' _ _ (set1_v n1' (io_ne hio (ios_not h5)) n3' hset) (ex'.trans S.ml (Ext.of n2'))
    · rw [hb1] at p
      simp only at p
      exact ⟨x, hx0, p L' M' σ' H' S' ex'⟩
mutual
theorem sndS : ∀ (s : S) {C : Cn} {X : Cx} {W : WXm} (x : Stmt), Good fns gls Wn k xr C X W → X.env.scope.kind = .function → PassesOwn (model X.prog X.w) X.A X.env X.xe → (X.stack = X.env :: X.outer ∧ X.env.frame = some X.env.locals) → chkS fns gls C s x = true → JS X W C.ios x (exec (sem fns Wn k) Wn s)
  | .asg i e, C, X, W, x, G, hk, hp, hs, h => by
    unfold chkS at h
    split at h
    · rename_i y px v pos
      simp only [Bool.and_eq_true, Bool.not_eq_true'] at h
      obtain ⟨⟨⟨h1, h2⟩, h3⟩, h4⟩ := h
      obtain ⟨n1, n2, n3⟩ := G.tn h1
      rcases swB_cases h4 with q | q
      · obtain ⟨ex, tg, iter, ifs, n, scope, pos', rfl, _⟩ := sw_yes q
        obtain ⟨f, rfl, hf⟩ := chkE_lc h3
        obtain ⟨te, p1, p2⟩ := lc_set (spos := pos) G hk n1 q hf
        exact js_eq (js_asg p1 (fun σ H Q z => p2 σ H Q (tr_tf z)) (ios_not h2)) fun _ => rfl
      · exact js_eq (js_asg (ps_set G.nd n1 n2 (sndE e _ G h3).1 (sw_no G.sc q) n3) (fun _ _ _ z => z) (ios_not h2)) fun _ => rfl
    · cases h
  | .own i f, C, X, W, x, G, hk, hp, hs, h => by
    unfold chkS at h
    split at h
    · rename_i y px v pos
      simp only [Bool.and_eq_true, Bool.not_eq_true'] at h
      obtain ⟨⟨⟨h1, h2⟩, h3⟩, h4⟩ := h
      obtain ⟨n1, n2, n3⟩ := G.tn h1
      have il : i < X.N.length := (List.getElem?_eq_some_iff.mp n1).1
      rcases swB_cases h4 with q | q
      · obtain ⟨te, p1, p2⟩ := lc_set (spos := pos) G hk n1 q h3
        exact js_eq (js_own p1 p2 (ios_not h2) il) fun _ => rfl
      · exact js_eq (js_own (ps_set G.nd n1 n2 (sndF f _ G h3).1 (sw_no G.sc q) n3) (fun _ _ _ z => z) (ios_not h2) il) fun _ => rfl
    · cases h
  | .par i j a b, C, X, W, x, G, hk, hp, hs, h => by
    unfold chkS at h
    split at h
    · rename_i x px y py kt pt ea eb k2 pt2 pos
      simp only [Bool.and_eq_true, Bool.not_eq_true', decide_eq_true_eq] at h
      obtain ⟨⟨⟨⟨⟨⟨⟨⟨⟨⟨⟨⟨⟨h1, h2⟩, h3⟩, h4⟩, h5⟩, h6⟩, h7⟩, h8⟩, h9⟩, h10⟩, h11⟩, h12⟩, h13⟩, h14⟩ := h
      have lx : X.env.scope.names.lookup x = some .local := by rw [G.sc]; exact isLoc_of h5
      have ly : X.env.scope.names.lookup y = some .local := by rw [G.sc]; exact isLoc_of h6
      have hij : i ≠ j := fun z => by subst z; simp at h3
      refine js_eq (js_par (ps_par G.calm G.nd (by rw [G.N]; exact h1) (by rw [G.N]; exact h2) hij lx ly (ja_cons (sndE a _ G h13).1 (ja_cons (sndE b _ G h14).1 ja_nil h9) h8) (sw_pair hk lx ly h4 h7 h8 h9 h10)) (ios_not h11) (ios_not h12)) fun μ => ?_
      show ((ev (sem fns Wn k) a μ).bind fun x μ1 => (ev (sem fns Wn k) b μ1).bind fun y μ2 => match setAll [i, j] [x, y] μ2 with
        | some μ3 => Rs.ok Fl.nx μ3
        | none => .st) = _
      cases ev (sem fns Wn k) a μ with
      | st => rfl
      | ex _ _ => rfl
      | ok x μ1 =>
        show ((ev (sem fns Wn k) b μ1).bind fun y μ2 => match setAll [i, j] [x, y] μ2 with
          | some μ3 => Rs.ok Fl.nx μ3
          | none => .st) = (((ev (sem fns Wn k) b μ1).bind fun x μ1 => (Rs.ok [] μ1).bind fun xs μ2 => .ok (x :: xs) μ2).bind fun xs μ2 => .ok (x :: xs) μ2).bind _
        cases ev (sem fns Wn k) b μ1 with
        | st => rfl
        | ex _ _ => rfl
        | ok y μ2 => rfl
    · cases h
  | .unp is e, C, X, W, x, G, hk, hp, hs, h => by
    unfold chkS at h
    split at h
    · rename_i xs kt pt v pos
      rw [Bool.or_eq_true] at h
      rcases h with h | h
      · simp only [Bool.and_eq_true, Bool.not_eq_true'] at h
        obtain ⟨⟨⟨⟨h1, h2⟩, h3⟩, h4⟩, h5⟩ := h
        obtain ⟨n1, n2⟩ := names_star X.env _ _ h3
        refine js_eq (js_unp (ps_asg (sndE e _ G h5).1 (pg_tup G.calm (G.pgs _ _ h3) n1 n2) (sw_sole h2) (notTup h1) rfl) fun i hi => ?_) fun _ => rfl
        rw [List.all_eq_true] at h4
        exact ios_not (by simpa using h4 i hi)
      · exact snd_par3 G hk h
    · cases h
  | .unpL is e, C, X, W, x, G, hk, hp, hs, h => by
    unfold chkS at h
    split at h
    · rename_i xs kt pt v pos
      simp only [Bool.and_eq_true, Bool.not_eq_true'] at h
      obtain ⟨⟨⟨h1, h3⟩, h4⟩, h5⟩ := h
      obtain ⟨n1, n2⟩ := names_star X.env _ _ h3
      refine js_eq (js_unpL (ps_asg (sndE e _ G h5).1 (pg_lst G.calm (G.pgs _ _ h3) n1 n2) (sw_tup v) (notTup h1) rfl) fun i hi => ?_) fun _ => rfl
      rw [List.all_eq_true] at h4
      exact ios_not (by simpa using h4 i hi)
    · cases h
  | .seti i kx e, C, X, W, x, G, hk, hp, hs, h => by
    unfold chkS at h
    split at h
    · rename_i y p1 ek p2 v pos
      simp only [Bool.and_eq_true, Bool.not_eq_true'] at h
      obtain ⟨⟨⟨⟨h1, h2⟩, h3⟩, h4⟩, h5⟩ := h
      obtain ⟨n1, n2, n3, n4⟩ := G.nm h1
      exact js_eq (js_seti (ps_asg (sndE e _ G h3).1 (pg_sub (pe_var (i := i) n1 n2 n3 n4) (sndE kx _ G h2).1 set_list (sub_plain h5)) (sw_sole h4) rfl rfl)) fun _ => rfl
    · cases h
  | .dset i kx e, C, X, W, x, G, hk, hp, hs, h => by
    unfold chkS at h
    split at h
    · rename_i y p1 ek p2 v pos
      simp only [Bool.and_eq_true, Bool.not_eq_true'] at h
      obtain ⟨⟨⟨⟨h1, h2⟩, h3⟩, h4⟩, h5⟩ := h
      obtain ⟨n1, n2, n3, n4⟩ := G.nm h1
      exact js_eq (js_dset (ps_asg (sndE e _ G h3).1 (pg_sub (pe_var (i := i) n1 n2 n3 n4) (sndE kx _ G h2).1 (set_dct (by have := G.un; omega)) (sub_plain h5)) (sw_sole h4) rfl rfl)) fun _ => rfl
    · cases h
  | .app i e, C, X, W, x, G, hk, hp, hs, h => by
    unfold chkS at h
    split at h
    · simp only [Bool.and_eq_true, Bool.not_eq_true', decide_eq_true_eq] at h
      obtain ⟨⟨⟨⟨rfl, h2⟩, h3⟩, h4⟩, h5⟩ := h
      obtain ⟨n1, n2, n3, n4⟩ := G.nm h2
      exact js_eq (js_app (r := fun _ => .st) (js_expr (je_app n1 n2 n3 n4 (sndE e _ G h5).1 h3 h4) rfl)) fun _ => rfl
    · cases h
  | .ext i e, C, X, W, x, G, hk, hp, hs, h => by
    unfold chkS at h
    split at h
    · simp only [Bool.and_eq_true, Bool.not_eq_true', decide_eq_true_eq] at h
      obtain ⟨⟨⟨⟨rfl, h2⟩, h3⟩, h4⟩, h5⟩ := h
      obtain ⟨n1, n2, n3, n4⟩ := G.nm h2
      exact js_eq (js_ext (r := fun _ => .st) (js_expr (je_ext n1 n2 n3 n4 (sndE e _ G h5).1 h3 h4) rfl)) fun _ => rfl
    · cases h
  | .ins _ _ _, C, X, W, x, G, hk, hp, hs, h => by unfold chkS at h; cases h
  | .app2 _ _ _, C, X, W, x, G, hk, hp, hs, h => by unfold chkS at h; cases h
  | .ex e, C, X, W, x, G, hk, hp, hs, h => by
    unfold chkS at h
    split at h
    · simp only [Bool.and_eq_true, Bool.not_eq_true'] at h
      exact js_eq (js_expr (sndE e _ G h.1).1 (sw_plain h.2)) fun _ => rfl
    · cases h
  | .ife c a b, C, X, W, x, G, hk, hp, hs, h => by
    unfold chkS at h
    split at h
    · simp only [Bool.and_eq_true, Bool.not_eq_true'] at h
      obtain ⟨⟨⟨h1, h2⟩, h3⟩, h4⟩ := h
      exact js_eq (js_if ((sndE c _ G h1).2 h2) (sndSs a _ G hk hp hs h3) (sndSs b _ G hk hp hs h4)) fun _ => rfl
    · cases h
  | .whl c b, C, X, W, x, G, hk, hp, hs, h => by
    unfold chkS at h
    split at h
    · simp only [Bool.and_eq_true, Bool.not_eq_true'] at h
      obtain ⟨⟨h1, h2⟩, h3⟩ := h
      exact js_eq (js_whl (n := Wn) hp ((sndE c _ G h1).2 h2) (sndSs b _ G hk hp hs h3)) fun _ => rfl
    · cases h
  | .for_ t tup it b, C, X, W, x, G, hk, hp, hs, h => by
    unfold chkS at h
    split at h
    · simp only [Bool.and_eq_true, Bool.not_eq_true'] at h
      obtain ⟨⟨⟨⟨h1, h2⟩, h3⟩, h4⟩, h5⟩ := h
      refine js_eq (js_for hp G.calm (sndI it _ _ G h1) (G.pg h3).1 (sndSs b _ G hk hp hs h5) (set_plain h2) (G.pg h3).2 fun i hi => ?_) fun _ => rfl
      rw [List.all_eq_true] at h4
      exact ios_not (by simpa using h4 i hi)
    · cases h
  | .ret e, C, X, W, x, G, hk, hp, hs, h => by
    unfold chkS at h
    split at h
    · exact js_eq (js_ret (sndE e _ G h).1) fun _ => rfl
    · cases h
  | .retF f, C, X, W, x, G, hk, hp, hs, h => by
    unfold chkS at h
    split at h
    · exact js_eq (js_retF (sndF f _ G h).1) fun _ => rfl
    · cases h
  | .pass, C, X, W, x, G, hk, hp, hs, h => by
    unfold chkS at h
    split at h
    · exact js_eq js_pass fun _ => rfl
    · cases h
  | .never, C, X, W, x, G, hk, hp, hs, h => js_eq js_never fun _ => rfl
  | .rse c y fs, C, X, W, x, G, hk, hp, hs, h => by
    unfold chkS at h
    split at h
    · rename_i z p1 m j p2 p3 pos
      simp only [Bool.and_eq_true, decide_eq_true_eq] at h
      obtain ⟨⟨rfl, h2⟩, h3⟩ := h
      split at h3
      · rename_i d hl
        split at h3
        · rename_i kk sups hc
          rw [Bool.and_eq_true, decide_eq_true_eq] at h3
          obtain ⟨rfl, h4⟩ := h3
          obtain ⟨Ca, m1, ok, _⟩ := G.cl _ _ _ _ hl hc
          obtain ⟨g1, g2⟩ := G.gn h2
          split at h4
          · rename_i hfl
            exact js_rse G.calm G.tk (pmk_own PySem.F.excBase_ValueError (ok.ex hfl) m1 ok.kp (raises_own ok.su ok.ty) g1 g2) (by rw [G.xs]; exact fun H => ⟨_, _, _, _, hl, hc, m1, rfl, .inl ⟨hfl, rfl, rfl⟩⟩)
          · rename_i f v hfl
            have h4 := of_decide_eq_true h4
            subst h4
            exact js_rseF (f := f) G.calm G.tk (pmk_init (ok.ini f hfl) (G.room.mono (by omega)) g1 m1 g2) (by rw [G.xs]; exact fun d H e => ⟨_, _, _, _, hl, hc, m1, rfl, .inr ⟨f, _, d, hfl, rfl, rfl, e⟩⟩)
          · cases h4
        · cases h3
      · cases h3
    · cases h
  | .tryX b hd, C, X, W, x, G, hk, hp, hs, h => by
    unfold chkS at h
    split at h
    · rename_i body cn np n su pos' pos
      simp only [Bool.and_eq_true, decide_eq_true_eq, Bool.not_eq_true'] at h
      obtain ⟨⟨⟨⟨⟨⟨⟨⟨⟨⟨⟨⟨⟨⟨h1, h2⟩, h3⟩, h4⟩, h5⟩, h6⟩, h7⟩, h8⟩, h9⟩, h10⟩, h11⟩, h12⟩, h13⟩, h15⟩, h14⟩ := h
      subst h1
      exact js_tryX G hs h2 h3 h4 h5 h6 h7 h8 h9 h10 h11 h12 h13 h15 (fun W' pn xe tk pw => sndSs b body (G.tr (W' := W') pn xe tk) hk pw hs h14)
    · cases h
  | .tryC b cn j v tab, C, X, W, x, G, hk, hp, hs, h => by
    unfold chkS at h
    split at h
    · rename_i body cx np y p1 e p2 pos' pos
      simp only [Bool.and_eq_true, decide_eq_true_eq, Bool.not_eq_true'] at h
      obtain ⟨⟨⟨⟨⟨⟨⟨rfl, h2⟩, h5⟩, h6⟩, h7⟩, h10⟩, h12⟩, h14⟩ := h
      exact js_tryC G hs h2 h5 h6 h7 h10 h12 (fun W' pn xe tk pw => sndSs b body (G.tr (W' := W') pn xe tk) hk pw hs h14)
    · cases h
  | .tryL b cn j tab, C, X, W, x, G, hk, hp, hs, h => by
    unfold chkS at h
    split at h
    · rename_i body cx np y p1 p3 p2 pos' pos
      simp only [Bool.and_eq_true, decide_eq_true_eq, Bool.not_eq_true'] at h
      obtain ⟨⟨⟨⟨⟨⟨rfl, h2⟩, h5⟩, h6⟩, h10⟩, h12⟩, h14⟩ := h
      exact js_tryL G hs h2 h5 h6 h10 h12 (fun W' pn xe tk pw => sndSs b body (G.tr (W' := W') pn xe tk) hk pw hs h14)
    · cases h
theorem sndSs : ∀ (s : Ss) {C : Cn} {X : Cx} {W : WXm} (xs : List Stmt), Good fns gls Wn k xr C X W → X.env.scope.kind = .function → PassesOwn (model X.prog X.w) X.A X.env X.xe → (X.stack = X.env :: X.outer ∧ X.env.frame = some X.env.locals) → chkSs fns gls C s xs = true → JSs X W C.ios xs (execs (sem fns Wn k) Wn s)
  | .nil, C, X, W, xs, G, hk, hp, hs, h => by
    cases xs with
    | nil => exact jss_nil
    | cons _ _ => simp [chkSs] at h
  | .cons s r, C, X, W, xs, G, hk, hp, hs, h => by
    cases xs with
    | nil => simp [chkSs] at h
    | cons x xs =>
      unfold chkSs at h
      simp only [Bool.and_eq_true] at h
      exact jss_cons (sndS s _ G hk hp hs h.1) (sndSs r _ G hk hp hs h.2)
  | .frz i r, C, X, W, xs, G, hk, hp, hs, h => by
    unfold chkSs at h
    simp only [Bool.and_eq_true, Bool.not_eq_true'] at h
    exact jss_frz (sndSs r _ G hk hp hs h.2) (ios_not h.1)
end
end
end Mn
set_option Elab.async false
set_option linter.all false
set_option maxRecDepth 100000
set_option autoImplicit false
set_option maxHeartbeats 1000000
namespace Mn
open PySem PySem.Spec L2
/-! ## a def -/
section
variable {K : PySem.W.Frag} {H : Hp} {L : Ads}
theorem paired_imp {α β : Type} {R R' : α → β → Prop} (h : ∀ x y, R x y → R' x y) : ∀ {xs : List α} {ys : List β}, Paired R xs ys → Paired R' xs ys
  | _, _, .nil => .nil
  | _, _, .cons r t => .cons (h _ _ r) (paired_imp h t)
/-- the lent objects, by place -/
theorem own_pairs : ∀ {sl : List Sl} {vs : List V} (n : Nat), ArgOk K H L sl vs → Paired (fun i a => ∃ j d, i = n + j ∧ sl[j]? = some (.own d) ∧ vs[j]? = some (.ref a) ∧ OwnAt K H L d a ∧ L a) (ownPos n sl) (ioA sl vs)
  | _, _, n, .nil => .nil
  | .val d :: sl, v :: vs, n, .val w t => by
    have ih := own_pairs (n + 1) t
    have e : ioA (.val d :: sl) (v :: vs) = ioA sl vs := by cases v <;> rfl
    rw [e]
    refine paired_imp ?_ ih
    rintro i a ⟨j, d, rfl, h1, h2, h3⟩
    exact ⟨j + 1, d, by omega, by simpa using h1, by simpa using h2, h3⟩
  | .own d :: sl, .ref a :: vs, n, .own o l t => by
    have ih := own_pairs (n + 1) t
    refine .cons ⟨0, d, rfl, rfl, rfl, o, l⟩ (paired_imp ?_ ih)
    rintro i b ⟨j, d, rfl, h1, h2, h3⟩
    exact ⟨j + 1, d, by omega, by simpa using h1, by simpa using h2, h3⟩
theorem arg_own : ∀ {sl : List Sl} {vs : List V} (n : Nat) {j : Nat} {d : D}, ArgOk K H L sl vs → sl[j]? = some (.own d) → n + j ∈ ownPos n sl
  | _, _, n, j, d, .nil, h => by simp at h
  | .val d' :: sl, v :: vs, n, j, d, .val w t, h => by
    cases j with
    | zero => simp at h
    | succ j =>
      have := arg_own (n + 1) t (by simpa using h)
      rw [show n + 1 + j = n + (j + 1) by omega] at this
      exact this
  | .own d' :: sl, .ref a :: vs, n, j, d, .own o l t, h => by
    cases j with
    | zero => exact List.mem_cons_self
    | succ j =>
      have := arg_own (n + 1) t (by simpa using h)
      rw [show n + 1 + j = n + (j + 1) by omega] at this
      exact List.mem_cons_of_mem _ this
theorem arg_val : ∀ {sl : List Sl} {vs : List V} {j : Nat} {d : D}, ArgOk K H L sl vs → sl[j]? = some (.val d) → ∃ v, vs[j]? = some v ∧ Dv K H L d v
  | _, _, j, d, .nil, h => by simp at h
  | .val d' :: sl, v :: vs, j, d, .val w t, h => by
    cases j with
    | zero => simp at h; subst h; exact ⟨v, rfl, w⟩
    | succ j =>
      obtain ⟨u, h1, h2⟩ := arg_val t (show sl[j]? = some (.val d) by simpa using h)
      exact ⟨u, by simpa using h1, h2⟩
  | .own d' :: sl, .ref a :: vs, j, d, .own o l t, h => by
    cases j with
    | zero => simp at h
    | succ j =>
      obtain ⟨u, h1, h2⟩ := arg_val t (show sl[j]? = some (.val d) by simpa using h)
      exact ⟨u, by simpa using h1, h2⟩
theorem arg_kind : ∀ {sl : List Sl} {vs : List V} {j : Nat} {s : Sl}, ArgOk K H L sl vs → sl[j]? = some s → (∃ d, s = .val d) ∨ ∃ d, s = .own d
  | _, _, j, s, .nil, h => by simp at h
  | .val d' :: sl, v :: vs, j, s, .val w t, h => by
    cases j with
    | zero => simp at h; exact .inl ⟨d', h.symm⟩
    | succ j => exact arg_kind t (show sl[j]? = some s by simpa using h)
  | .own d' :: sl, .ref a :: vs, j, s, .own o l t, h => by
    cases j with
    | zero => simp at h; exact .inr ⟨d', h.symm⟩
    | succ j => exact arg_kind t (show sl[j]? = some s by simpa using h)
theorem paired_zip {α β : Type} {R : α → β → Prop} : ∀ {xs : List α} {ys : List β}, Paired R xs ys → (xs.zip ys).map (·.1) = xs ∧ ∀ p ∈ xs.zip ys, R p.1 p.2
  | _, _, .nil => ⟨rfl, fun p hp => by simp at hp⟩
  | _, _, .cons r t => by
    obtain ⟨h1, h2⟩ := paired_zip t
    refine ⟨by rw [List.zip_cons_cons, List.map_cons, h1], fun p hp => ?_⟩
    rw [List.zip_cons_cons] at hp
    rcases List.mem_cons.mp hp with rfl | hp
    · exact r
    · exact h2 p hp
theorem paired_mem {α β : Type} {R : α → β → Prop} : ∀ {xs : List α} {ys : List β}, Paired R xs ys → (∀ x ∈ xs, ∃ y, (x, y) ∈ xs.zip ys) ∧ ∀ y ∈ ys, ∃ x, (x, y) ∈ xs.zip ys
  | _, _, .nil => ⟨fun x h => by simp at h, fun x h => by simp at h⟩
  | x :: xs, y :: ys, .cons r t => by
    obtain ⟨h1, h2⟩ := paired_mem t
    rw [List.zip_cons_cons]
    constructor
    · intro z hz
      rcases List.mem_cons.mp hz with rfl | hz
      · exact ⟨y, List.mem_cons_self⟩
      · obtain ⟨w, hw⟩ := h1 z hz; exact ⟨w, List.mem_cons_of_mem _ hw⟩
    · intro z hz
      rcases List.mem_cons.mp hz with rfl | hz
      · exact ⟨x, List.mem_cons_self⟩
      · obtain ⟨w, hw⟩ := h2 z hz; exact ⟨w, List.mem_cons_of_mem _ hw⟩
theorem zip_inj {α β : Type} : ∀ {xs : List α} {ys : List β} {x1 x2 : α} {y : β}, ys.Nodup → (x1, y) ∈ xs.zip ys → (x2, y) ∈ xs.zip ys → x1 = x2
  | [], _, _, _, _, _, h, _ => by simp at h
  | _ :: _, [], _, _, _, _, h, _ => by simp at h
  | x :: xs, y0 :: ys, x1, x2, y, nd, h1, h2 => by
    rw [List.zip_cons_cons] at h1 h2
    rw [List.nodup_cons] at nd
    have inY : ∀ {z : α}, (z, y) ∈ xs.zip ys → y ∈ ys := fun h => (List.of_mem_zip h).2
    rcases List.mem_cons.mp h1 with e1 | h1
    · rcases List.mem_cons.mp h2 with e2 | h2
      · cases e1; cases e2; rfl
      · cases e1; exact absurd (inY h2) nd.1
    · rcases List.mem_cons.mp h2 with e2 | h2
      · cases e2; exact absurd (inY h1) nd.1
      · exact zip_inj nd.2 h1 h2
/-- the frame at a def's entry -/
theorem entry {sl : List Sl} {vs : List V} {N : List Str} (ok : ArgOk K H L sl vs) (nd : (ioA sl vs).Nodup) (trk : ∀ a, L a → H a ≠ none) (hl : sl.length ≤ N.length) :
    Sr K ⟨H, L, (ownPos 0 sl).zip (ioA sl vs), []⟩ L (fun a => a ∈ ioA sl vs) (sl ++ List.replicate (N.length - sl.length) .no) (L2.start N vs) H := by
  have pr := own_pairs 0 ok
  obtain ⟨z1, z2⟩ := paired_zip pr
  obtain ⟨m1, m2⟩ := paired_mem pr
  have ll := ok.length
  have inSl : ∀ (i : Nat) (s : Sl), (sl ++ List.replicate (N.length - sl.length) Sl.no)[i]? = some s → s ≠ .no → sl[i]? = some s := fun i s e n => by
    by_cases hi : i < sl.length
    · rwa [List.getElem?_append_left hi] at e
    · rw [List.getElem?_append_right (by omega), List.getElem?_replicate] at e
      split at e
      · cases e; exact absurd rfl n
      · cases e
  have inSt : ∀ (i : Nat) (v : V), vs[i]? = some v → (L2.start N vs)[i]? = some (some v) := fun i v e => by
    unfold L2.start
    have hi : i < vs.length := (List.getElem?_eq_some_iff.mp e).1
    rw [List.getElem?_append_left (by rw [List.length_map]; exact hi), List.getElem?_map, e]; rfl
  have stIn : ∀ (i : Nat) (v : V), i < vs.length → (L2.start N vs)[i]? = some (some v) → vs[i]? = some v := fun i v hi e => by
    unfold L2.start at e
    rw [List.getElem?_append_left (by rw [List.length_map]; exact hi), List.getElem?_map] at e
    cases q : vs[i]? with
    | none => rw [q] at e; cases e
    | some u => rw [q] at e; cases e; rfl
  have ownAt : ∀ (i : Nat) (d : D), sl[i]? = some (.own d) → ∃ a, vs[i]? = some (.ref a) ∧ OwnAt K H L d a ∧ L a ∧ (i, a) ∈ (ownPos 0 sl).zip (ioA sl vs) := fun i d e => by
    have := arg_own 0 ok e
    rw [Nat.zero_add] at this
    obtain ⟨a, ha⟩ := m1 i this
    obtain ⟨j, d', e1, e2, e3, e4, e5⟩ := z2 _ ha
    have : j = i := by simpa using e1.symm
    subst this
    rw [e] at e2; cases e2
    exact ⟨a, e3, e4, e5, ha⟩
  have heldOwn : ∀ (i : Nat) (s : Sl), (sl ++ List.replicate (N.length - sl.length) Sl.no)[i]? = some s → s.held = true → ∃ d, sl[i]? = some (.own d) := fun i s e h => by
    have q := inSl i s e (fun z => by subst z; cases h)
    rcases arg_kind ok q with ⟨d, rfl⟩ | ⟨d, rfl⟩
    · cases h
    · exact ⟨d, q⟩
  refine ⟨?_, fun i d e => ?_, fun i d e => ?_, fun i d e => ?_, fun i j s t a e1 h1 e2 h2 q1 q2 => ?_, fun a h => ?_, fun a h => ?_, fun a h => h, fun a h => ?_, trk, trk, fun a o e _ => e, fun p hp => ?_, fun p hp => ?_⟩
  · unfold L2.start; rw [List.length_append, List.length_append, List.length_map, List.length_replicate, List.length_replicate, ll]
  · obtain ⟨v, e1, e2⟩ := arg_val ok (inSl i _ e (by simp))
    exact ⟨v, inSt i v e1, e2⟩
  · obtain ⟨a, e1, e2, e3, e4⟩ := ownAt i d (inSl i _ e (by simp))
    exact ⟨a, inSt i _ e1, e2, (List.of_mem_zip e4).2⟩
  · rcases arg_kind ok (inSl i _ e (by simp)) with ⟨d, z⟩ | ⟨d, z⟩
    · cases z
    · cases z
  · obtain ⟨d1, w1⟩ := heldOwn i s e1 h1
    obtain ⟨d2, w2⟩ := heldOwn j t e2 h2
    obtain ⟨a1, p1, _, _, p4⟩ := ownAt i d1 w1
    obtain ⟨a2, r1, _, _, r4⟩ := ownAt j d2 w2
    rw [inSt i _ p1] at q1; cases q1
    rw [inSt j _ r1] at q2; cases q2
    exact zip_inj nd p4 r4
  · obtain ⟨x, hx⟩ := m2 a h
    obtain ⟨j, d', e1, e2, e3, e4, e5⟩ := z2 _ hx
    exact e5
  · obtain ⟨p, hp, _⟩ := h
    simp at hp
  · obtain ⟨x, hx⟩ := m2 a h
    exact .inl ⟨(x, a), hx, rfl⟩
  · obtain ⟨j, d, e1, e2, e3, _⟩ := z2 p hp
    have : j = p.1 := by simpa using e1.symm
    subst this
    refine ⟨inSt _ _ e3, .own d, ?_, rfl⟩
    rw [List.getElem?_append_left (List.getElem?_eq_some_iff.mp e2).1]; exact e2
  · simp at hp
/-- what the lent objects hold behind -/
theorem outs_ok {c : Ent} {L' M' : Ads} {μ' : Mu} {σ' : St} {H' : Hp} (S : Sr K c L' M' μ' σ' H') (sub : ∀ a, L a → L' a) : ∀ {is : List Nat} {as : List Addr} {outs : List D}, (∀ p ∈ is.zip as, p ∈ c.io) → is.length = as.length → outsOf is μ' = some outs → OutOk K H' L as outs
  | [], [], outs, _, _, h => by cases h; exact .nil
  | i :: is, a :: as, outs, hz, hl, h => by
    unfold outsOf at h
    cases q1 : owned μ' i with
    | none => rw [q1] at h; cases h
    | some d =>
      rw [q1] at h
      cases q2 : outsOf is μ' with
      | none => rw [q2] at h; cases h
      | some ds =>
        rw [q2] at h
        cases h
        obtain ⟨a', e1, e2, _⟩ := S.own i d (owned_at q1)
        obtain ⟨e3, _⟩ := S.io (i, a) (hz _ (by rw [List.zip_cons_cons]; exact List.mem_cons_self))
        have e3 : σ'[i]? = some (some (.ref a)) := e3
        rw [e1] at e3; cases e3
        exact .cons (e2.anti sub) (outs_ok S sub (fun p hp => hz p (by rw [List.zip_cons_cons]; exact List.mem_cons_of_mem _ hp)) (by simpa using hl) q2)
  | [], _ :: _, _, _, hl, _ => by simp at hl
  | _ :: _, [], _, _, hl, _ => by simp at hl
end
/-! a def's text -/
def parOk (sc : Scope) (x : Str) : Bool := isLoc (kindB sc x) || isCel (kindB sc x)
def isFnK : ScopeKind → Bool
  | .function => true
  | _ => false
def chkFn (fns : List Fn) (gls : List (Str × D)) (fn : Fn) (st : Stmt) : Bool :=
  isFnK (defScope st).kind && !(defScope st).isCoroutine && !(defScope st).isGenerator && decide fn.N.Nodup && decide (fn.N.take fn.ps.length = fn.ps) && fn.ps.all (parOk (defScope st)) && (defScope st).names.all (fun y => !isFre (some y.2)) &&
    chkSs fns gls ⟨fn.N, defScope st, fn.io, fun _ => true⟩ fn.body (defBody st)
theorem chkFn_of {fns : List Fn} {gls : List (Str × D)} {fn : Fn} {st : Stmt} (h : chkFn fns gls fn st = true) : FnScope fn.N fn.ps (defScope st) ∧ chkSs fns gls ⟨fn.N, defScope st, fn.io, fun _ => true⟩ fn.body (defBody st) = true := by
  unfold chkFn at h
  simp only [Bool.and_eq_true, Bool.not_eq_true', decide_eq_true_eq, List.all_eq_true] at h
  obtain ⟨⟨⟨⟨⟨⟨⟨h1, h2⟩, h3⟩, h4⟩, h5⟩, h6⟩, h7⟩, h8⟩ := h
  refine ⟨⟨?_, h2, h3, h4, h5, fun x hx => ?_, fun y hy z => ?_⟩, h8⟩
  · unfold isFnK at h1
    split at h1
    · assumption
    · cases h1
  · have := h6 x hx
    unfold parOk at this
    rw [Bool.or_eq_true] at this
    rcases this with q | q
    · exact .inl (isLoc_of q)
    · exact .inr (isCel_of q)
  · have := h7 y hy
    rw [z] at this; cases this
section
variable {P : Program} {w : World} {K : PySem.W.Frag} {mg : Str → Option Value} {base : Heap} {fns : List Fn} {gls : List (Str × D)} {Wn : Nat} {xr : XRl}
theorem sp_len {n : Nat} {G : List Sl → FR} {ps : List Str} (hn : n = ps.length) : ∀ vs H Q E, spF K xr n G vs H Q E → vs.length = ps.length := by
  rintro vs H Q E ⟨L, sl, ok, hl, _⟩
  rw [← ok.length, hl, hn]
/-- what is known of the defs -/
structure Prg (P : Program) (w : World) (K : PySem.W.Frag) (mg : Str → Option Value) (fns : List Fn) (gls : List (Str × D)) : Prop where
  fns : ∀ (f : Nat) (fn : Fn), fns[f]? = some fn → ∃ (st : Stmt) (fa : Addr) (fd : FuncData), L2.Fun K fn.nm fn.nm st fa fd ∧ mg fn.nm = some (.ref fa) ∧ Binds K fd fn.ps [] ∧ chkFn fns gls fn st = true
  blt : ∀ x ∈ bltNames, mg x = none
  gl : ∀ x d, gls.lookup x = some d → clsOf d = none → ∃ v u, mg x = some u ∧ RelV v u ∧ ∀ H L, Dv K H L d v
  cl : ∀ x d k sups, gls.lookup x = some d → clsOf d = some (k, sups) → ∃ C, mg x = some (.ref C) ∧ ClsOk K mg C (fldsOf d) x ∧ ∀ y ∈ qNames gls, SupOk2 K mg C sups y
theorem fn_level (hxr : xr = xrG mg gls) (G : Prg P w K mg fns gls) : ∀ (k : Nat) (f : Nat) (fn : Fn) (st : Stmt) (fa : Addr) (fd : FuncData), fns[f]? = some fn → L2.Fun K fn.nm fn.nm st fa fd → chkFn fns gls fn st = true →
    FnG P w K mg base (L2.CX P w) (k + 2) fa fd fn.ps (spF K xr fn.ps.length (sem fns Wn k f)) := by
  intro k
  induction k with
  | zero =>
    intro f fn st fa fd hf F hc
    refine ⟨sp_len rfl, fun A outer s H args us vs Q E _ _ _ _ _ prom => ?_⟩
    obtain ⟨_, _, _, _, _, _, z⟩ := prom
    exact z.elim
  | succ k ih =>
    intro f fn st fa fd hf F hc
    obtain ⟨S, hb⟩ := chkFn_of hc
    obtain ⟨oc, od, kV, doc, pm, an, cdv, ct, osl, rfl, lk, hcd⟩ := F.ex
    refine fnG_of lk hcd S (sp_len rfl) fun A outer s H vs Q E room hg prom => ?_
    have tk0 : Takes (cxOf (L2.CX P w) P w K mg base fn.N fn.nm (defScope st) fa cdv A outer s H E) (fun cls d _ H' => E cls d H') := takes_of rfl rfl rfl rfl
    have good : Good fns gls Wn k xr ⟨fn.N, defScope st, fn.io, fun _ => true⟩ (cxOf (L2.CX P w) P w K mg base fn.N fn.nm (defScope st) fa cdv A outer s H E) (fun x _ H' => ∀ cls d, xr x cls d H' → E cls d H') := {
      N := rfl
      nd := S.nd
      sc := rfl
      fn := fun _ _ => rfl
      calm := rfl
      room := room
      gd := hg
      fns := fun f' fn' hf' => by
        obtain ⟨st', fa', fd', F', m', b', c'⟩ := G.fns f' fn' hf'
        exact ⟨fa', fd', m', F'.kp, b', ih f' fn' st' fa' fd' hf' F' c'⟩
      blt := G.blt
      gl := G.gl
      cl := G.cl
      xs := hxr
      tk := tk0.imp fun cls d σ H' ⟨x, h1, h2⟩ => h2 cls d h1 }
    have js := sndSs fn.body (defBody st) good S.kind (passes_of rfl) ⟨rfl, rfl⟩ hb
    refine ⟨_, js, ?_⟩
    obtain ⟨L, sl, ok, hl, nd, trk, z⟩ := prom
    have z : (match sem fns Wn (k + 1) f sl with
      | .ok d outs => ∀ v H', (∀ a o, H a = some o → a ∉ ioA sl vs → H' a = some o) → Dv K H' L d v → OutOk K H' L (ioA sl vs) outs → Q v H'
      | .fr d outs => ∀ a H', (∀ a o, H a = some o → a ∉ ioA sl vs → H' a = some o) → H a = none → OwnAt K H' (plusA L a) d a → OutOk K H' (plusA L a) (ioA sl vs) outs → Q (.ref a) H'
      | .ex x outs => ∀ cls d H', (∀ a o, H a = some o → a ∉ ioA sl vs → H' a = some o) → xr x cls d H' → OutOk K H' L (ioA sl vs) outs → E cls d H'
      | .st => False) := z
    unfold sem at z
    rw [hf] at z
    simp only at z
    unfold runFn at z
    by_cases hio : (decide (sl.length = fn.ps.length) && decide (fn.io = ownPos 0 sl)) = true
    · rw [if_pos hio] at z
      simp only [Bool.and_eq_true, decide_eq_true_eq] at hio
      have hN : sl.length ≤ fn.N.length := by
        have := congrArg List.length S.pre
        rw [List.length_take] at this; omega
      have pr := own_pairs 0 ok
      obtain ⟨z1, z2⟩ := paired_zip pr
      have sr := entry (N := fn.N) ok nd trk hN
      have lenE : (ownPos 0 sl).length = (ioA sl vs).length := by
        have e1 := congrArg List.length z1
        rw [List.length_map, List.length_zip] at e1
        have aux : ∀ {α β : Type} {R : α → β → Prop} {xs : List α} {ys : List β}, Paired R xs ys → xs.length = ys.length := fun {α β R xs ys} h => by
          induction h with
          | nil => rfl
          | cons _ _ ih => simp [ih]
        exact aux pr
      rw [← hio.1] at z
      refine ⟨_, L, _, _, by rw [hio.2]; exact z1, sr, ?_⟩
      have kpE : ∀ {L' M' : Ads} {μ' : Mu} {σ' : St} {H' : Hp}, Sr K ⟨H, L, (ownPos 0 sl).zip (ioA sl vs), []⟩ L' M' μ' σ' H' → ∀ a o, H a = some o → a ∉ ioA sl vs → H' a = some o := fun S' a o e n => S'.keep a o e fun ⟨p, hp, e2⟩ => n (by rw [← e2]; exact (List.of_mem_zip hp).2)
      rw [hio.2] at z
      generalize execs (sem fns Wn k) Wn fn.body (sl ++ List.replicate (fn.N.length - sl.length) .no) = r at z ⊢
      cases r with
      | st => exact z
      | ex x μ' =>
        intro L' M' σ' H' S' _ cls d hx
        simp only at z
        cases ho : outsOf (ownPos 0 sl) μ' with
        | none => rw [ho] at z; exact z.elim
        | some outs =>
          rw [ho] at z
          exact z cls d H' (kpE S') hx (outs_ok S' S'.l0 (fun p hp => hp) lenE ho)
      | ok fl μ' =>
        simp only at z
        cases ho : outsOf (ownPos 0 sl) μ' with
        | none => rw [ho] at z; exact z.elim
        | some outs =>
          rw [ho] at z
          simp only at z
          cases fl with
          | nx => exact fun L' M' σ' H' S' _ => z .non H' (kpE S') .non (outs_ok S' S'.l0 (fun p hp => hp) lenE ho)
          | rt d => exact fun v L' M' σ' H' S' _ dv => z v H' (kpE S') (dv.anti S'.l0) (outs_ok S' S'.l0 (fun p hp => hp) lenE ho)
          | rf d =>
            intro a L' M' σ' H' S' S2 _ nL n0 f
            have na : H a = none := by
              rcases n0 with n0 | n0
              · exact n0
              · obtain ⟨p, hp, e⟩ := n0
                exfalso
                have hio2 := S'.io p hp
                obtain ⟨e1, s2, e3, e4⟩ := hio2
                cases s2 with
                | no => cases e4
                | val _ => cases e4
                | own d2 =>
                  obtain ⟨a2, g1, _, g3⟩ := S'.own _ _ e3
                  rw [e1] at g1; cases g1
                  exact nL (by rw [← e]; exact S'.ml _ g3)
                | lck d2 =>
                  obtain ⟨a2, g1, _, g3⟩ := S'.lck _ _ e3
                  simp at g3
            have sub : ∀ b, plusA L a b → plusA L' a b := fun b h => h.imp_left (S'.l0 b)
            have ow : OwnAt K H' (plusA L' a) d a := f
            exact z a H' (kpE S') na (ow.anti sub) (outs_ok S2 sub (fun p hp => hp) lenE ho)
    · rw [if_neg hio] at z; exact z.elim
end
end Mn
set_option Elab.async false
set_option linter.all false
set_option maxRecDepth 100000
set_option autoImplicit false
set_option maxHeartbeats 1000000
namespace Mn
open PySem PySem.Spec L2 PyProof.Rows
/-! ## the law's own call -/
section
variable {P : Program} {w : World} {K : PySem.W.Frag} {mg mb : Str → Option Value} {k : Nat} {fa a : Addr} {fd : FuncData} {x : Str} {sp : Sp} {s₁ : Shared} {vs : List Value} {ns : List Int}
/-- from a heap that tracks the script at most -/
theorem call_at {H : Hp} (KX : K.In s₁.heap) (hns : s₁.heap.Ns mainGlobals mg) (hb : s₁.heap.Ns builtinsNs mb) (hbb : ∀ x : Str, x ≠ "__name__" → mb x = bootBuiltins x) (hlim : s₁.heap.NoLimit) (hgen : s₁.gens = #[])
    (ha : s₁.heap.get? a = some { cls := .type "list", data := .seq vs.toArray }) (hr : Room k callerA) (hF : ∀ base : Heap, FnG P w K mg base (L2.CX P w) k fa fd [x] sp) (hbind : BindsTo s₁ fd ⟨[.ref a], []⟩ [(x, .ref a)])
    (only : Only H) (one : ∀ b, H b ≠ none → b = a) (off : H a ≠ none → K.lookup a = none) (ok : HOk P w H s₁.heap) (hsp : sp [.ref a] H (fun v _ => v = .bl true) fun _ _ _ => False)
    (hCX : ∀ H e s', L2.CX P w [] H s₁ (fun _ _ _ => False) e s' → False) :
    codeAny (model P w) callerA (.call (.ref fa) ⟨[.ref a], []⟩) (fun r s' => r = .ok (.ret (.bool true)) ∧ OldK s₁.heap s'.heap ∧ s'.os = s₁.os ∧ AllBare s'.gens) s₁ := by
  have free : ∀ {b : Addr} {o : Obj}, s₁.heap.get? b = some o → (∀ u n, o.data ≠ .seq u n) → H b = none := fun {b o} e nd => by
    by_cases z : H b = none
    · exact z
    · have := one b z
      rw [this, ha] at e
      exact absurd rfl ((Option.some.inj e) ▸ nd vs.toArray _)
  have ns_in : ∀ {b : Addr} {m : Str → Option Value}, s₁.heap.Ns b m → (hidT s₁.heap H).Ns b m := by
    rintro b m ⟨o, es, ep, e, d, r⟩
    exact ⟨o, es, ep, hidT_get e (free e fun u n z => by rw [d] at z; cases z), d, r⟩
  have k_in : K.In (hidT s₁.heap H) := fun b o e => hidT_get (KX b o e) (by
    by_cases z : H b = none
    · exact z
    · have eb := one b z
      subst eb
      rw [off z] at e; cases e)
  obtain ⟨mc, c1, c2⟩ := hlim
  have md : Mod K mg (hidT s₁.heap H) := ⟨k_in, ns_in hns, ⟨mb, ns_in hb, hbb⟩, ⟨mc, ns_in c1, c2⟩⟩
  have start : Env0 P w K mg (hidT s₁.heap H) callerA [] s₁ H := ⟨rfl, md, fun b o e => of_hidT e, Nat.le_of_eq (hidT_size _ _), trivial, (fun b hb => by cases hb), ok, .of_eq hgen⟩
  have run := (hF (hidT s₁.heap H)).run callerA [] s₁ H ⟨[.ref a], []⟩ [.ref a] [.ref a] (fun v _ => v = .bl true) (fun _ _ _ => False) hr rfl start hbind (.cons rfl .nil) hsp
  refine codeAny_mono run fun r s' h => ?_
  rcases r with e | fl
  · exact (hCX H e s' h).elim
  · rcases fl with _ | _ | _ | u
    all_goals first | exact h.elim | skip
    obtain ⟨v, H', os, bare, un, ok', r', q⟩ := h
    cases (show v = .bl true from q)
    cases (show _ = Value.bool true from r')
    refine ⟨rfl, OldK.of_keep fun b o e => ?_, os, bare⟩
    rcases only b with z | ⟨ob, xs, z⟩
    · exact un.keep b o e z (fun y => by cases y) (by simp)
    · obtain ⟨e1, _⟩ := ok b _ z
      obtain ⟨e2, _⟩ := ok' b _ (un.frzs b ob _ z)
      rw [e] at e1; cases e1; exact e2
/-- the script as data -/
theorem law_run {xr : XRl} {fns : List Fn} {Wn li : Nat} (KX : K.In s₁.heap) (hns : s₁.heap.Ns mainGlobals mg) (hb : s₁.heap.Ns builtinsNs mb) (hbb : ∀ x : Str, x ≠ "__name__" → mb x = bootBuiltins x) (hlim : s₁.heap.NoLimit) (hgen : s₁.gens = #[])
    (ha : s₁.heap.get? a = some { cls := .type "list", data := .seq vs.toArray }) (hi : IntsAre vs ns) (hl : ns.length ≤ sizeLine) (hr : Room (k + 2) callerA)
    (hF : ∀ base : Heap, FnG P w K mg base (L2.CX P w) (k + 2) fa fd [x] (spF K xr 1 (sem fns Wn k li))) (hbind : BindsTo s₁ fd ⟨[.ref a], []⟩ [(x, .ref a)])
    (hsem : sem fns Wn k li [.val (.list (ns.map .int))] = .ok (.bool true) [])
    (hCX : ∀ H e s', L2.CX P w [] H s₁ (fun _ _ _ => False) e s' → False) :
    codeAny (model P w) callerA (.call (.ref fa) ⟨[.ref a], []⟩) (fun r s' => r = .ok (.ret (.bool true)) ∧ OldK s₁.heap s'.heap ∧ s'.os = s₁.os ∧ AllBare s'.gens) s₁ := by
  have rv := vals_ints hi
  have lv := hi.length
  have prom : ∀ H : Hp, Dv K H (fun _ => False) (.list (ns.map .int)) (.ref a) → spF K xr 1 (sem fns Wn k li) [.ref a] H (fun v _ => v = .bl true) fun _ _ _ => False := fun H d => by
    refine ⟨fun _ => False, [.val (.list (ns.map .int))], .val d .nil, rfl, List.nodup_nil, (fun _ h => h.elim), ?_⟩
    rw [hsem]
    intro v H' _ dv _
    exact dv.bool_inv
  cases hk : K.lookup a with
  | some o =>
    have e := KX a o hk
    rw [ha] at e
    have e := Option.some.inj e
    subst e
    refine call_at (H := fun _ => none) KX hns hb hbb hlim hgen ha hr hF hbind (fun _ => .inl rfl) (fun b z => absurd rfl z) (fun z => absurd rfl z) (fun b u z => by cases z) (prom _ (.lstK ⟨vs.toArray, _, hk, ?_, ?_⟩ (Dvs.ofInts ns))) hCX
    · rw [List.size_toArray, lv]; exact hl
    · exact rv
  | none =>
    refine call_at (H := fun b => if b = a then some (.frz { cls := .type "list", data := .seq vs.toArray } (.lst (ns.map V.int))) else none) KX hns hb hbb hlim hgen ha hr hF hbind (fun b => ?_) (fun b z => ?_) (fun _ => hk) (fun b u z => ?_) (prom _ (.lst (fun h => h) (.inr ⟨{ cls := .type "list", data := .seq vs.toArray }, if_pos rfl⟩) (Dvs.ofInts ns))) hCX
    · by_cases q : b = a
      · exact .inr ⟨_, _, if_pos q⟩
      · exact .inl (if_neg q)
    · by_cases q : b = a
      · exact q
      · simp only [q, if_false] at z; exact absurd rfl z
    · by_cases q : b = a
      · simp only [q, if_true, Option.some.injEq] at z
        subst z q
        exact ⟨ha, by rw [List.length_map]; exact hl, vs, _, rv, ha⟩
      · simp only [q, if_false] at z; cases z
end
theorem no_exc {P : Program} {w : World} {H : Hp} {s s' : Shared} {e : Value} (h : L2.CX P w [] H s (fun _ _ _ => False) e s') : False := by
  obtain ⟨_, _, _, _, _, _, _, _, _, _, _, _, z⟩ := h
  exact z
/-- the goal that k_head leaves -/
theorem walk_mn {l : PySem.W.OpenLaw} {n k : Nat} {q : Program} {loose : List Str} {XP : (Str → Option Value) → Heap → Prop} {YP : World → Heap → Prop} {d : DefRec} {K : Params → PySem.W.Frag} {fns : List Fn} {gls : List (Str × D)} {Wn li : Nat} {fn : Fn} {x : Str}
    (hn : l.most = some n) (hn2 : n ≤ sizeLine) (hdf : d.params.defaults = []) (hr : Room (k + 2) callerA) (hY : ∀ (w : World) (h : Heap), YP w h → (K w.params).In h) (hf : fns[li]? = some fn) (hnm : fn.nm = d.name) (hps : fn.ps = [x])
    (G : ∀ (w : World) (mg : Str → Option Value) (h : Heap), (K w.params).In h → h.Ns mainGlobals mg → Prg l.prog w (K w.params) mg fns gls)
    (hsem : ∀ ns : List Int, ns.length ≤ n → sem fns Wn k li [.val (.list (ns.map .int))] = .ok (.bool true) []) :
    PySem.W.WalkO q loose XP YP l.row.toRowW d [] (fun f vs => PySem.call f vs) := by
  refine Att.attach_call hn hdf fun w s₀ s₁ mg mb fa o pm cd doc a vs ns T Y ho hd hcd hmg hobj hints hlen hgen => ?_
  have KX := hY w _ Y
  have pg := G w mg _ KX T.T.g
  obtain ⟨st, fa', fd, F, m, b, c⟩ := pg.fns li fn hf
  have e : fa' = fa := by rw [hnm, hmg] at m; cases m; rfl
  subst e
  have FG : ∀ base : Heap, FnG l.prog w (K w.params) mg base (L2.CX l.prog w) (k + 2) fa' fd [x] (spF (K w.params) (xrG mg gls) 1 (sem fns Wn k li)) := fun base => by
    have := fn_level (base := base) (Wn := Wn) (xr := xrG mg gls) rfl pg k li fn st fa' fd hf F c
    rw [hps] at this
    exact this
  have bt : BindsTo s₁ fd ⟨[.ref a], []⟩ [(x, .ref a)] := by
    have := b s₁ [.ref a] KX (by rw [hps]; rfl)
    rwa [hps] at this
  exact law_run KX T.T.g T.T.b T.T.builtins T.T.nolimit hgen hobj hints (Nat.le_trans hlen hn2) hr FG bt (hsem ns hlen) fun H e s' => no_exc
end Mn
set_option Elab.async false
set_option linter.all false
set_option maxRecDepth 100000
set_option autoImplicit false
namespace Mn
open PySem PySem.Spec
/-! ## steps, as rules for simp -/
section
variable {F : Nat → List Sl → FR} {W : Nat}
@[simp] theorem ev_var (i : Nat) (μ : Mu) : ev F (.var i) μ = Rs.opt (look μ i) μ := rfl
@[simp] theorem ev_int (i : Int) (μ : Mu) : ev F (.int i) μ = .ok (.int i) μ := rfl
@[simp] theorem ev_bl (i : Bool) (μ : Mu) : ev F (.bl i) μ = .ok (.bool i) μ := rfl
@[simp] theorem ev_str (i : Str) (μ : Mu) : ev F (.str i) μ = .ok (.str i) μ := rfl
@[simp] theorem ev_non (μ : Mu) : ev F .non μ = .ok .none μ := rfl
@[simp] theorem ev_glob (x : Str) (d : D) (μ : Mu) : ev F (.glob x d) μ = .ok d μ := rfl
@[simp] theorem ev_bin (op : BOp) (a b : E) (μ : Mu) : ev F (.bin op a b) μ = (ev F a μ).bind fun x μ1 => (ev F b μ1).bind fun y μ2 => Rs.opt (binD op x y) μ2 := rfl
@[simp] theorem ev_neg (a : E) (μ : Mu) : ev F (.neg a) μ = (ev F a μ).bind fun x μ1 => Rs.opt ((toI x).map fun i => .int (-i)) μ1 := rfl
@[simp] theorem ev_cmp (op : COp) (a b : P) (μ : Mu) : ev F (.cmp op a b) μ = (evP F a μ).bind fun x μ1 => (evP F b μ1).bind fun y μ2 => Rs.opt ((look2 a x μ2).bind fun x' => (cmpD op x' y).map .bool) μ2 := rfl
@[simp] theorem ev_and (es : Es) (μ : Mu) : ev F (.and es) μ = evAnd F es μ := rfl
@[simp] theorem ev_or (es : Es) (μ : Mu) : ev F (.or es) μ = evOr F es μ := rfl
@[simp] theorem ev_not (a : E) (μ : Mu) : ev F (.not a) μ = (bitOf (ev F a μ)).bind fun b μ1 => .ok (.bool (!b)) μ1 := rfl
@[simp] theorem ev_tup (es : Es) (μ : Mu) : ev F (.tup es) μ = (evs F es μ).bind fun xs μ1 => .ok (.tuple xs) μ1 := rfl
@[simp] theorem ev_ix (a : P) (b : E) (μ : Mu) : ev F (.ix a b) μ = (evP F a μ).bind fun x μ1 => (ev F b μ1).bind fun y μ2 => Rs.opt ((look2 a x μ2).bind fun x' => ixD x' y) μ2 := rfl
@[simp] theorem ev_sl (a : P) (lo hi : O) (μ : Mu) : ev F (.sl a lo hi) μ = (evP F a μ).bind fun x μ1 => (evO F lo μ1).bind fun l μ2 => (evO F hi μ2).bind fun h μ3 => Rs.opt ((look2 a x μ3).bind fun x' => slD x' l h) μ3 := rfl
@[simp] theorem ev_fre (f : FE) (μ : Mu) : ev F (.fre f) μ = evF F f μ := rfl
@[simp] theorem ev_call (f : Nat) (as : As) (μ : Mu) : ev F (.call f as) μ = (evAs F as μ).bind fun xs μ1 => callG (F f) xs μ1 := rfl
@[simp] theorem ev_b1 (b : B1) (p : P) (μ : Mu) : ev F (.b1 b p) μ = (evP F p μ).bind fun x μ1 => Rs.opt (b1D b x) μ1 := rfl
@[simp] theorem ev_b2 (b : B2) (p q : E) (μ : Mu) : ev F (.b2 b p q) μ = (ev F p μ).bind fun x μ1 => (ev F q μ1).bind fun y μ2 => Rs.opt (b2D b x y) μ2 := rfl
@[simp] theorem ev_isi (a : E) (t : Ty) (μ : Mu) : ev F (.isi a t) μ = (ev F a μ).bind fun x μ1 => Rs.opt ((isiD x t).map .bool) μ1 := rfl
@[simp] theorem ev_pop (i : Nat) (b : E) (μ : Mu) : ev F (.pop i b) μ = if ownsL i μ then (ev F b μ).bind fun y μ1 => popE i y μ1 else .st := rfl
@[simp] theorem ev_slSt (a : E) (c : Int) (μ : Mu) : ev F (.slSt a c) μ = (ev F a μ).bind fun x μ1 => Rs.opt (slStD c x) μ1 := rfl
@[simp] theorem ev_dix (p : P) (k : E) (μ : Mu) : ev F (.dix p k) μ = (evP F p μ).bind fun x μ1 => (ev F k μ1).bind fun y μ2 => dixE p x y μ2 := rfl
@[simp] theorem ev_get (p : P) (k d : E) (μ : Mu) : ev F (.get p k d) μ = (evP F p μ).bind fun x μ1 => if isDict x then (ev F k μ1).bind fun y μ2 => (ev F d μ2).bind fun z μ3 => getE p x y z μ3 else .st := rfl
@[simp] theorem evs_nil (μ : Mu) : evs F .nil μ = .ok [] μ := rfl
@[simp] theorem evs_cons (e : E) (es : Es) (μ : Mu) : evs F (.cons e es) μ = (ev F e μ).bind fun x μ1 => (evs F es μ1).bind fun xs μ2 => .ok (x :: xs) μ2 := rfl
@[simp] theorem evAnd_one (e : E) (μ : Mu) : evAnd F (.cons e .nil) μ = (bitOf (ev F e μ)).bind fun b μ1 => .ok (.bool b) μ1 := rfl
@[simp] theorem evOr_one (e : E) (μ : Mu) : evOr F (.cons e .nil) μ = (bitOf (ev F e μ)).bind fun b μ1 => .ok (.bool b) μ1 := rfl
def andB (r : Mu → Rs D) (b : Bool) (μ : Mu) : Rs D := match b with
  | true => r μ
  | false => .ok (.bool false) μ
def orB (r : Mu → Rs D) (b : Bool) (μ : Mu) : Rs D := match b with
  | true => .ok (.bool true) μ
  | false => r μ
def ifB {α : Type} (r s : Mu → Rs α) (b : Bool) (μ : Mu) : Rs α := match b with
  | true => r μ
  | false => s μ
@[simp] theorem andB_t (r : Mu → Rs D) (μ : Mu) : andB r true μ = r μ := rfl
@[simp] theorem andB_f (r : Mu → Rs D) (μ : Mu) : andB r false μ = .ok (.bool false) μ := rfl
@[simp] theorem orB_t (r : Mu → Rs D) (μ : Mu) : orB r true μ = .ok (.bool true) μ := rfl
@[simp] theorem orB_f (r : Mu → Rs D) (μ : Mu) : orB r false μ = r μ := rfl
@[simp] theorem ifB_t {α : Type} (r s : Mu → Rs α) (μ : Mu) : ifB r s true μ = r μ := rfl
@[simp] theorem ifB_f {α : Type} (r s : Mu → Rs α) (μ : Mu) : ifB r s false μ = s μ := rfl
@[simp] theorem evAnd_cons (e e2 : E) (es : Es) (μ : Mu) : evAnd F (.cons e (.cons e2 es)) μ = (bitOf (ev F e μ)).bind (andB (evAnd F (.cons e2 es))) := rfl
@[simp] theorem evOr_cons (e e2 : E) (es : Es) (μ : Mu) : evOr F (.cons e (.cons e2 es)) μ = (bitOf (ev F e μ)).bind (orB (evOr F (.cons e2 es))) := rfl
@[simp] theorem ev_ife (c a b : E) (μ : Mu) : ev F (.ife c a b) μ = (bitOf (ev F c μ)).bind (ifB (ev F a) (ev F b)) := rfl
@[simp] theorem evP_e (e : E) (μ : Mu) : evP F (.e e) μ = ev F e μ := rfl
@[simp] theorem evP_pk (i : Nat) (μ : Mu) : evP F (.pk i) μ = Rs.opt (peek μ i) μ := rfl
@[simp] theorem look2_e (e : E) (x : D) (μ : Mu) : look2 (.e e) x μ = some x := rfl
@[simp] theorem look2_pk (i : Nat) (x : D) (μ : Mu) : look2 (.pk i) x μ = peek μ i := rfl
@[simp] theorem evO_none (μ : Mu) : evO F .none μ = .ok none μ := rfl
@[simp] theorem evO_some (e : E) (μ : Mu) : evO F (.some e) μ = (ev F e μ).bind fun x μ1 => Rs.opt ((toI x).map some) μ1 := rfl
@[simp] theorem evA_v (e : E) (μ : Mu) : evA F (.v e) μ = (ev F e μ).bind fun d μ1 => .ok (.v d) μ1 := rfl
def ioA1 (i : Nat) (μ : Mu) (o : Option D) : Rs Ag := match o with
  | some _ => .ok (.io i) μ
  | none => .st
@[simp] theorem ioA1_some (i : Nat) (μ : Mu) (d : D) : ioA1 i μ (some d) = .ok (.io i) μ := rfl
@[simp] theorem evA_io (i : Nat) (μ : Mu) : evA F (.io i) μ = ioA1 i μ (owned μ i) := rfl
@[simp] theorem evAs_nil (μ : Mu) : evAs F .nil μ = .ok [] μ := rfl
@[simp] theorem evAs_cons (a : A) (as : As) (μ : Mu) : evAs F (.cons a as) μ = (evA F a μ).bind fun x μ1 => (evAs F as μ1).bind fun xs μ2 => .ok (x :: xs) μ2 := rfl
@[simp] theorem evF_disp (es : Es) (μ : Mu) : evF F (.disp es) μ = (evs F es μ).bind fun xs μ1 => .ok (.list xs) μ1 := rfl
@[simp] theorem evF_comp (elt : E) (t : List Nat) (tup : Bool) (it : I) (c : O) (μ : Mu) : evF F (.comp elt t tup it c) μ = (evI F it μ).bind fun xs μ1 => (compL (turnR t tup (ev F elt) (rcOf F c)) xs [] (lockM (pks it) μ1)).bind fun ys μ2 => .ok (.list ys) (unlockM (pks it) μ1 μ2) := by cases c <;> rfl
@[simp] theorem evF_listOf (a : E) (μ : Mu) : evF F (.listOf (.rng1 a)) μ = (evI F (.rng1 a) μ).bind fun xs μ1 => .ok (.list xs) μ1 := rfl
@[simp] theorem evF_listSeq (p : P) (μ : Mu) : evF F (.listOf (.seq p)) μ = ((evP F p μ).bind fun x μ1 => Rs.opt (seqD0 x) μ1).bind fun xs μ1 => .ok (.list xs) μ1 := rfl
@[simp] theorem evF_split (o a : E) (μ : Mu) : evF F (.split o a) μ = (ev F o μ).bind fun x μ1 => if isStrD x then (ev F a μ1).bind fun y μ2 => Rs.opt (splitD x y) μ2 else .st := rfl
@[simp] theorem ev_jn (s : E) (p : P) (μ : Mu) : ev F (.jn s p) μ = (ev F s μ).bind fun x μ1 => if isStrD x then (evP F p μ1).bind fun y μ2 => Rs.opt (joinD x y) μ2 else .st := rfl
@[simp] theorem ev_find (o a : E) (μ : Mu) : ev F (.find o a) μ = (ev F o μ).bind fun x μ1 => if isStrD x then (ev F a μ1).bind fun y μ2 => Rs.opt (findD x y) μ2 else .st := rfl
@[simp] theorem ev_upper (o : E) (μ : Mu) : ev F (.upper o) μ = (ev F o μ).bind fun x μ1 => Rs.opt (upperD x) μ1 := rfl
@[simp] theorem ev_mkX (x : Str) (fl : List Str) (es : Es) (μ : Mu) : ev F (.mkX x fl es) μ = (evs F es μ).bind fun ds μ1 => Rs.opt (mkXD x fl ds) μ1 := rfl
@[simp] theorem ev_isX (a : E) (y : Str) (tab : List (Str × Bool)) (μ : Mu) : ev F (.isX a y tab) μ = (ev F a μ).bind fun x μ1 => Rs.opt (isXD tab x) μ1 := rfl
@[simp] theorem ev_fldX (a : E) (f : Str) (μ : Mu) : ev F (.fldX a f) μ = (ev F a μ).bind fun x μ1 => Rs.opt (fldXD f x) μ1 := rfl
@[simp] theorem isStrD_str (x : Str) : isStrD (.str x) = true := rfl
@[simp] theorem evF_cat (a b : P) (μ : Mu) : evF F (.cat a b) μ = (evH F a μ).bind fun x μ1 => (evH F b μ1).bind fun y μ2 => catE a b x y μ2 := rfl
@[simp] theorem evF_rep (a : P) (b : E) (μ : Mu) : evF F (.rep a b) μ = (evH F a μ).bind fun x μ1 => (ev F b μ1).bind fun y μ2 => repE a x y μ2 := rfl
@[simp] theorem evF_sortedRev (p : P) (μ : Mu) : evF F (.sortedRev p) μ = (evP F p μ).bind fun x μ1 => Rs.opt (sortD x) μ1 := rfl
@[simp] theorem evF_dict0 (μ : Mu) : evF F .dict0 μ = .ok (.dict []) μ := rfl
@[simp] theorem evF_dict2 (a b c d : E) (μ : Mu) : evF F (.dict2 a b c d) μ = (ev F a μ).bind fun x μ1 => (ev F b μ1).bind fun y μ2 => (ev F c μ2).bind fun z μ3 => (ev F d μ3).bind fun w μ4 => dict2E x y z w μ4 := rfl
@[simp] theorem evF_dictOf (a : E) (μ : Mu) : evF F (.dictOf a) μ = (ev F a μ).bind fun x μ1 => Rs.opt (dictOfD x) μ1 := rfl
@[simp] theorem evF_call (f : Nat) (as : As) (μ : Mu) : evF F (.call f as) μ = (evAs F as μ).bind fun xs μ1 => callH (F f) xs μ1 := rfl
@[simp] theorem evH_fre (f : FE) (μ : Mu) : evH F (.e (.fre f)) μ = evF F f μ := rfl
@[simp] theorem evH_pk (i : Nat) (μ : Mu) : evH F (.pk i) μ = Rs.opt (heldD μ i) μ := rfl
@[simp] theorem evI_seq (p : P) (μ : Mu) : evI F (.seq p) μ = (evP F p μ).bind fun x μ1 => Rs.opt (seqD x) μ1 := rfl
def rng1D (x : D) (μ : Mu) : Rs (List D) := match x with
  | .int j => if smallI j && sizeOkN j.toNat then .ok (rangeD 0 j.toNat) μ else .st
  | _ => .st
def rng2D (x y : D) (μ : Mu) : Rs (List D) := match x, y with
  | .int i, .int j => if smallI i && smallI j && sizeOkN (j - i).toNat then .ok (rangeD i (j - i).toNat) μ else .st
  | _, _ => .st
def zip2D (x y : D) (μ : Mu) : Rs (List D) := match seqD x, seqD y with
  | some xs, some ys => .ok (zipD xs ys) μ
  | _, _ => .st
@[simp] theorem evI_rng1 (a : E) (μ : Mu) : evI F (.rng1 a) μ = (ev F a μ).bind rng1D := rfl
@[simp] theorem evI_rng2 (a b : E) (μ : Mu) : evI F (.rng2 a b) μ = (ev F a μ).bind fun x μ1 => (ev F b μ1).bind (rng2D x) := rfl
@[simp] theorem evI_zip (a b : E) (μ : Mu) : evI F (.zip a b) μ = (ev F a μ).bind fun x μ1 => (ev F b μ1).bind (zip2D x) := rfl
@[simp] theorem pks_seq (p : P) : pks (.seq p) = pksP p := rfl
@[simp] theorem pksP_e (e : E) : pksP (.e e) = none := rfl
@[simp] theorem pksP_pk (i : Nat) : pksP (.pk i) = some i := rfl
@[simp] theorem pks_rng1 (a : E) : pks (.rng1 a) = none := rfl
@[simp] theorem pks_rng2 (a b : E) : pks (.rng2 a b) = none := rfl
@[simp] theorem pks_zip (a b : E) : pks (.zip a b) = none := rfl
@[simp] theorem lockM_none (μ : Mu) : lockM none μ = μ := rfl
@[simp] theorem unlockM_none (μ0 μ : Mu) : unlockM none μ0 μ = μ := rfl
@[simp] theorem rcOf_none : rcOf F .none = none := rfl
@[simp] theorem isDict_dict (es : List (D × D)) : isDict (.dict es) = !isExc es := rfl
@[simp] theorem isExc_nil : isExc [] = false := rfl
def dixD (o : Option D) (y : D) (μ2 : Mu) : Rs D := match o with
  | some (.dict es) => if isKey y then Rs.opt (dget es y) μ2 else .st
  | _ => .st
def getD2 (o : Option D) (y z : D) (μ3 : Mu) : Rs D := match o with
  | some (.dict es) => if isKey y && !isExc es then .ok ((dget es y).getD z) μ3 else .st
  | _ => .st
@[simp] theorem dixE_at (p : P) (x y : D) (μ : Mu) : dixE p x y μ = dixD (look2 p x μ) y μ := rfl
@[simp] theorem getE_at (p : P) (x y z : D) (μ : Mu) : getE p x y z μ = getD2 (look2 p x μ) y z μ := rfl
@[simp] theorem dixD_at (es : List (D × D)) (y : D) (μ : Mu) : dixD (some (.dict es)) y μ = if isKey y then Rs.opt (dget es y) μ else .st := rfl
@[simp] theorem getD2_at (es : List (D × D)) (y z : D) (μ : Mu) : getD2 (some (.dict es)) y z μ = if isKey y && !isExc es then .ok ((dget es y).getD z) μ else .st := rfl
/-! results -/
@[simp] theorem bind_ok {α β : Type} (a : α) (μ : Mu) (k : α → Mu → Rs β) : (Rs.ok a μ).bind k = k a μ := rfl
@[simp] theorem bind_st {α β : Type} (k : α → Mu → Rs β) : (Rs.st : Rs α).bind k = .st := rfl
@[simp] theorem opt_some {α : Type} (a : α) (μ : Mu) : Rs.opt (some a) μ = .ok a μ := rfl
@[simp] theorem opt_none {α : Type} (μ : Mu) : Rs.opt (none : Option α) μ = .st := rfl
@[simp] theorem bitOf_ok (b : Bool) (μ : Mu) : bitOf (.ok (.bool b) μ) = .ok b μ := rfl
@[simp] theorem toI_int (i : Int) : toI (.int i) = some i := rfl
@[simp] theorem nx_some (μ : Mu) : Rs.nx (some μ) = .ok .nx μ := rfl
@[simp] theorem mu_ok {α : Type} (g : Mu → Mu) (a : α) (μ : Mu) : Rs.mu g (.ok a μ) = .ok a (g μ) := rfl
/-! statements -/
/-- a test -/
def testB (F : Nat → List Sl → FR) (e : E) (m : Mu) : Rs Bool := bitOf (ev F e m)
@[simp] theorem testB_at (e : E) (m : Mu) : testB F e m = bitOf (ev F e m) := rfl
def asgB (i : Nat) (d : D) (μ : Mu) : Rs Fl := Rs.nx (setAll [i] [d] μ)
@[simp] theorem exec_asg (i : Nat) (e : E) (μ : Mu) : exec F W (.asg i e) μ = (ev F e μ).bind (asgB i) := by
  show (ev F e μ).bind _ = _
  congr 1
@[simp] theorem exec_own (i : Nat) (f : FE) (μ : Mu) : exec F W (.own i f) μ = (evF F f μ).bind fun d μ1 => if isLck μ1 i then .st else .ok .nx (μ1.set i (.own d)) := rfl
@[simp] theorem exec_par (i j : Nat) (a b : E) (μ : Mu) : exec F W (.par i j a b) μ = (ev F a μ).bind fun x μ1 => (ev F b μ1).bind fun y μ2 => Rs.nx (setAll [i, j] [x, y] μ2) := by
  show (ev F a μ).bind _ = _
  congr 1
@[simp] theorem exec_rse (c : Nat) (x : Str) (fs : List D) (μ : Mu) : exec F W (.rse c x fs) μ = .ex ⟨c, fs⟩ μ := rfl
@[simp] theorem exec_tryC (b : Ss) (cn : Str) (j : Nat) (v : D) (tab : List Bool) (μ : Mu) : exec F W (.tryC b cn j v tab) μ = catchC j v tab (execs F W b μ) := rfl
@[simp] theorem exec_tryL (b : Ss) (cn : Str) (j : Nat) (tab : List Bool) (μ : Mu) : exec F W (.tryL b cn j tab) μ = catchC j (.list []) tab (execs F W b μ) := rfl
@[simp] theorem exec_tryX (b : Ss) (h : Hd) (μ : Mu) : exec F W (.tryX b h) μ = catchR h (execs F W b μ) := rfl
@[simp] theorem exec_unpL (is : List Nat) (e : E) (μ : Mu) : exec F W (.unpL is e) μ = (ev F e μ).bind fun d μ1 => Rs.nx (setL is d μ1) := rfl
@[simp] theorem setL_list (is : List Nat) (xs : List D) (μ : Mu) : setL is (.list xs) μ = setAll is xs μ := rfl
@[simp] theorem exec_unp (is : List Nat) (e : E) (μ : Mu) : exec F W (.unp is e) μ = (ev F e μ).bind fun d μ1 => Rs.nx (setT is true d μ1) := by
  show (ev F e μ).bind _ = _
  congr 1
@[simp] theorem exec_seti (i : Nat) (k e : E) (μ : Mu) : exec F W (.seti i k e) μ = (ev F e μ).bind fun v μ1 => if ownsA i μ1 then (ev F k μ1).bind fun y μ2 => Rs.nx (setE i y v μ2) else .st := rfl
@[simp] theorem exec_app (i : Nat) (e : E) (μ : Mu) : exec F W (.app i e) μ = if ownsL i μ then (ev F e μ).bind fun v μ1 => Rs.nx (appE i v μ1) else .st := rfl
@[simp] theorem exec_dset (i : Nat) (k e : E) (μ : Mu) : exec F W (.dset i k e) μ = (ev F e μ).bind fun v μ1 => if ownsA i μ1 then (ev F k μ1).bind fun y μ2 => Rs.nx (dsetE i y v μ2) else .st := rfl
@[simp] theorem exec_ext (i : Nat) (e : E) (μ : Mu) : exec F W (.ext i e) μ = if ownsL i μ then (ev F e μ).bind fun v μ1 => Rs.nx (extE i v μ1) else .st := rfl
@[simp] theorem exec_ex (e : E) (μ : Mu) : exec F W (.ex e) μ = (ev F e μ).bind fun _ μ1 => .ok .nx μ1 := rfl
@[simp] theorem exec_ife (c : E) (a b : Ss) (μ : Mu) : exec F W (.ife c a b) μ = (bitOf (ev F c μ)).bind (ifB (execs F W a) (execs F W b)) := rfl
@[simp] theorem exec_whl (c : E) (b : Ss) (μ : Mu) : exec F W (.whl c b) μ = whlL (testB F c) (execs F W b) W μ := rfl
def turnS (t : List Nat) (tup : Bool) (r : Mu → Rs Fl) (d : D) (m : Mu) : Rs Fl := match setT t tup d m with
  | some m1 => r m1
  | none => .st
@[simp] theorem exec_for (t : List Nat) (tup : Bool) (it : I) (b : Ss) (μ : Mu) : exec F W (.for_ t tup it b) μ = (evI F it μ).bind fun xs μ1 => Rs.mu (unlockM (pks it) μ1) (forL (turnS t tup (execs F W b)) xs (lockM (pks it) μ1)) := rfl
@[simp] theorem exec_ret (e : E) (μ : Mu) : exec F W (.ret e) μ = (ev F e μ).bind fun d μ1 => .ok (.rt d) μ1 := rfl
@[simp] theorem exec_retF (f : FE) (μ : Mu) : exec F W (.retF f) μ = (evF F f μ).bind fun d μ1 => .ok (.rf d) μ1 := rfl
@[simp] theorem exec_pass (μ : Mu) : exec F W .pass μ = .ok .nx μ := rfl
@[simp] theorem execs_nil (μ : Mu) : execs F W .nil μ = .ok .nx μ := rfl
def thenB (r : Mu → Rs Fl) (fl : Fl) (μ : Mu) : Rs Fl := match fl with
  | .nx => r μ
  | fl => .ok fl μ
@[simp] theorem thenB_nx (r : Mu → Rs Fl) (μ : Mu) : thenB r .nx μ = r μ := rfl
@[simp] theorem thenB_rt (r : Mu → Rs Fl) (d : D) (μ : Mu) : thenB r (.rt d) μ = .ok (.rt d) μ := rfl
@[simp] theorem thenB_rf (r : Mu → Rs Fl) (d : D) (μ : Mu) : thenB r (.rf d) μ = .ok (.rf d) μ := rfl
@[simp] theorem execs_cons (s : S) (r : Ss) (μ : Mu) : execs F W (.cons s r) μ = (exec F W s μ).bind (thenB (execs F W r)) := rfl
end
/-! calls -/
theorem sem_at (P : List Fn) (W k f : Nat) (args : List Sl) {fn : Fn} (h : P[f]? = some fn) : sem P W (k + 1) f args = runFn (sem P W k) W fn args := by
  unfold sem; rw [h]
def outR (fl : Fl) (o : Option (List D)) : FR := match o with
  | some outs => (match fl with
    | .nx => .ok .none outs
    | .rt d => .ok d outs
    | .rf d => .fr d outs)
  | none => .st
def endR (io : List Nat) (r : Rs Fl) : FR := match r with
  | .ok fl μ => outR fl (outsOf io μ)
  | .ex x μ => (match outsOf io μ with
    | some outs => .ex x outs
    | none => .st)
  | .st => .st
theorem runFn_at {F : Nat → List Sl → FR} {W : Nat} {fn : Fn} {args : List Sl} (h1 : args.length = fn.ps.length) (h2 : fn.io = ownPos 0 args) : runFn F W fn args = endR fn.io (execs F W fn.body (args ++ List.replicate (fn.N.length - fn.ps.length) .no)) := by
  unfold runFn
  rw [if_pos (by rw [Bool.and_eq_true, decide_eq_true_eq, decide_eq_true_eq]; exact ⟨h1, h2⟩)]
  rfl
@[simp] theorem endR_ok (io : List Nat) (fl : Fl) (μ : Mu) : endR io (.ok fl μ) = outR fl (outsOf io μ) := rfl
@[simp] theorem outR_rt (d : D) (outs : List D) : outR (.rt d) (some outs) = .ok d outs := rfl
@[simp] theorem outR_rf (d : D) (outs : List D) : outR (.rf d) (some outs) = .fr d outs := rfl
@[simp] theorem outR_nx (outs : List D) : outR .nx (some outs) = .ok .none outs := rfl
/-! data -/
@[simp] theorem binD_add : binD .add = addD := rfl
@[simp] theorem binD_sub : binD .sub = subD := rfl
@[simp] theorem binD_mul : binD .mul = mulD := rfl
@[simp] theorem binD_fdiv : binD .fdiv = fdivD := rfl
@[simp] theorem binD_mod : binD .mod = modD := rfl
@[simp] theorem binD_pow : binD .pow = powD := rfl
@[simp] theorem addD_int (i j : Int) : addD (.int i) (.int j) = some (.int (i + j)) := rfl
@[simp] theorem subD_int (i j : Int) : subD (.int i) (.int j) = some (.int (i - j)) := rfl
theorem mulD_int {i j : Int} (h : mulOk i j = true) : mulD (.int i) (.int j) = some (.int (i * j)) := if_pos h
theorem fdivD_int {i j : Int} (h : divOk j = true) : fdivD (.int i) (.int j) = some (.int (i.fdiv j)) := if_pos h
theorem modD_int {i j : Int} (h : j ≠ 0) : modD (.int i) (.int j) = some (.int (i.fmod j)) := if_pos (decide_eq_true h)
@[simp] theorem eqD_int (i j : Int) : eqD (.int i) (.int j) = some (decide (i = j)) := by
  have : eqD (.int i) (.int j) = some (i == j) := by exact (if_pos rfl).trans (congrArg some (by rw [PyData.eqv]))
  rw [this]; rfl
@[simp] theorem eqD_bool (i j : Bool) : eqD (.bool i) (.bool j) = some (i == j) := by
  exact (if_pos rfl).trans (congrArg some (by rw [PyData.eqv]))
@[simp] theorem eqD_str (i j : Str) : eqD (.str i) (.str j) = some (i == j) := by
  exact (if_pos rfl).trans (congrArg some (by rw [PyData.eqv]))
@[simp] theorem ltD_int (i j : Int) : ltD (.int i) (.int j) = some (decide (i < j)) := by
  unfold ltD; rw [if_pos (show ltOk (.int i) (.int j) = true from rfl), PySem.W.dataLt_int]
@[simp] theorem gtD_int (i j : Int) : gtD (.int i) (.int j) = some (decide (j < i)) := by
  unfold gtD; rw [if_pos (show ltOk (.int i) (.int j) = true from rfl), PySem.W.dataLt_int]
@[simp] theorem leD_int (i j : Int) : leD (.int i) (.int j) = some (decide (i ≤ j)) := by
  unfold leD; rw [if_pos (show ltOk (.int i) (.int j) = true from rfl), PySem.W.dataLt_int]
  congr 1
  rw [← decide_not]; exact decide_eq_decide.mpr Int.not_lt
@[simp] theorem geD_int (i j : Int) : geD (.int i) (.int j) = some (decide (j ≤ i)) := by
  unfold geD; rw [if_pos (show ltOk (.int i) (.int j) = true from rfl), PySem.W.dataLt_int]
  congr 1
  rw [← decide_not]; exact decide_eq_decide.mpr Int.not_lt
@[simp] theorem cmpD_eq : cmpD .eq = eqD := rfl
@[simp] theorem cmpD_ne (x y : D) : cmpD .ne x y = (eqD x y).map (!·) := rfl
@[simp] theorem cmpD_lt : cmpD .lt = ltD := rfl
@[simp] theorem cmpD_gt : cmpD .gt = gtD := rfl
@[simp] theorem cmpD_le : cmpD .le = leD := rfl
@[simp] theorem cmpD_ge : cmpD .ge = geD := rfl
@[simp] theorem cmpD_isn : cmpD .isn = isD := rfl
@[simp] theorem cmpD_isnot (x y : D) : cmpD .isnot x y = (isD x y).map (!·) := rfl
@[simp] theorem cmpD_isin : cmpD .isin = inD := rfl
@[simp] theorem cmpD_notin (x y : D) : cmpD .notin x y = (inD x y).map (!·) := rfl
@[simp] theorem b1_len : b1D .len = lenD := rfl
@[simp] theorem b1_abs : b1D .abs = absD := rfl
@[simp] theorem b1_all : b1D .all = allD := rfl
@[simp] theorem b1_any : b1D .any = anyD := rfl
@[simp] theorem b1_sum : b1D .sum = sumD := rfl
@[simp] theorem b1_max : b1D .max = maxD := rfl
@[simp] theorem b1_min : b1D .min = minD := rfl
@[simp] theorem b1_tuple : b1D .tuple = tupD := rfl
@[simp] theorem b1_repr : b1D .repr = reprD := rfl
@[simp] theorem b1_str : b1D .str = strD := rfl
@[simp] theorem b1_int : b1D .int = intD := rfl
@[simp] theorem lenD_list (xs : List D) : lenD (.list xs) = some (.int xs.length) := rfl
@[simp] theorem lenD_tuple (xs : List D) : lenD (.tuple xs) = some (.int xs.length) := rfl
@[simp] theorem absD_int (i : Int) : absD (.int i) = some (.int i.natAbs) := rfl
@[simp] theorem tupD_list (xs : List D) : tupD (.list xs) = some (.tuple xs) := rfl
@[simp] theorem tupD_tuple (xs : List D) : tupD (.tuple xs) = some (.tuple xs) := rfl
@[simp] theorem seqD0_list (xs : List D) : seqD0 (.list xs) = some xs := rfl
@[simp] theorem seqD0_tuple (xs : List D) : seqD0 (.tuple xs) = some xs := rfl
@[simp] theorem seqD_list (xs : List D) : seqD (.list xs) = some xs := rfl
@[simp] theorem seqD_tuple (xs : List D) : seqD (.tuple xs) = some xs := rfl
@[simp] theorem ixD_list (xs : List D) (i : Int) : ixD (.list xs) (.int i) = L2.atI xs i := rfl
@[simp] theorem ixD_tuple (xs : List D) (i : Int) : ixD (.tuple xs) (.int i) = L2.atI xs i := rfl
@[simp] theorem boolsOf_map (bs : List Bool) : boolsOf (bs.map .bool) = some bs := by
  induction bs with
  | nil => rfl
  | cons b bs ih => show (boolsOf (bs.map .bool)).map (b :: ·) = _; rw [ih]; rfl
@[simp] theorem intsOf_map (bs : List Int) : intsOf (bs.map .int) = some bs := by
  induction bs with
  | nil => rfl
  | cons b bs ih => show (intsOf (bs.map .int)).map (b :: ·) = _; rw [ih]; rfl
@[simp] theorem allD_map (bs : List Bool) : allD (.list (bs.map .bool)) = some (.bool (bs.all id)) := by
  show (boolsOf (bs.map .bool)).map _ = _; rw [boolsOf_map]; rfl
@[simp] theorem sumD_map (bs : List Int) : sumD (.list (bs.map .int)) = some (.int bs.sum) := by
  show (intsOf (bs.map .int)).map _ = _; rw [intsOf_map]; rfl
theorem atI_nat {xs : List D} {i : Int} {d : D} (h0 : 0 ≤ i) (h : xs[i.toNat]? = some d) : L2.atI xs i = some d := by
  have hl : i.toNat < xs.length := (List.getElem?_eq_some_iff.mp h).1
  unfold L2.atI L2.ixN
  rw [if_pos h0, if_pos (by omega)]
  exact h
theorem plainInts (xs : List Int) : PyData.plainAll (xs.map .int) = true := by
  induction xs with
  | nil => rfl
  | cons x xs ih => show (PyData.plain (.int x) && PyData.plainAll (xs.map .int)) = true; rw [ih]; rfl
theorem depthInts (xs : List Int) : PyData.depthAll (xs.map .int) = 0 := by
  induction xs with
  | nil => rfl
  | cons x xs ih => show max (PyData.depth (.int x)) (PyData.depthAll (xs.map .int)) = 0; rw [ih]; rfl
theorem eqvInts : ∀ (xs ys : List Int), PyData.eqvAll (xs.map .int) (ys.map .int) = decide (xs = ys)
  | [], [] => rfl
  | x :: xs, y :: ys => by
    show (PyData.eqv (.int x) (.int y) && PyData.eqvAll (xs.map .int) (ys.map .int)) = _
    rw [eqvInts xs ys, PyData.eqv]
    by_cases h : x = y
    · subst h; simp
    · simp [h]
  | [], _ :: _ => by simp [PyData.eqvAll]
  | _ :: _, [] => by simp [PyData.eqvAll]
theorem alikeInts : ∀ (xs ys : List Int), PySem.W.alikeAll (xs.map .int) (ys.map .int) = true
  | [], _ => by simp [PySem.W.alikeAll]
  | x :: xs, [] => by simp [PySem.W.alikeAll]
  | x :: xs, y :: ys => by
    show (PySem.W.alike (.int x) (.int y) && PySem.W.alikeAll (xs.map .int) (ys.map .int)) = true
    rw [alikeInts xs ys]; rfl
@[simp] theorem eqD_tupI (xs ys : List Int) : eqD (.tuple (xs.map .int)) (.tuple (ys.map .int)) = some (decide (xs = ys)) := by
  unfold eqD
  rw [if_pos]
  · rw [PyData.eqv, eqvInts]
  · simp [PyData.plain, plainInts, PyData.depth, depthInts]
@[simp] theorem eqD_listI (xs ys : List Int) : eqD (.list (xs.map .int)) (.list (ys.map .int)) = some (decide (xs = ys)) := by
  unfold eqD
  rw [if_pos]
  · rw [PyData.eqv, eqvInts]
  · simp [PyData.plain, plainInts, PyData.depth, depthInts]
theorem ltOkL (xs ys : List Int) : ltOk (.list (xs.map .int)) (.list (ys.map .int)) = true := by
  simp [ltOk, PyData.plain, plainInts, PyData.depth, depthInts, PySem.W.alike, alikeInts, isNone]
theorem ltOkT (xs ys : List Int) : ltOk (.tuple (xs.map .int)) (.tuple (ys.map .int)) = true := by
  simp [ltOk, PyData.plain, plainInts, PyData.depth, depthInts, PySem.W.alike, alikeInts, isNone]
@[simp] theorem gtD_listI (xs ys : List Int) : gtD (.list (xs.map .int)) (.list (ys.map .int)) = some (decide (ys < xs)) := by
  unfold gtD; rw [if_pos (ltOkL xs ys), PySem.W.dataLt_list]; exact congrArg some (PySem.W.dataLt_ints ys xs)
@[simp] theorem gtD_tupI (xs ys : List Int) : gtD (.tuple (xs.map .int)) (.tuple (ys.map .int)) = some (decide (ys < xs)) := by
  unfold gtD; rw [if_pos (ltOkT xs ys), PySem.W.dataLt_tuple]; exact congrArg some (PySem.W.dataLt_ints ys xs)
/-! loops -/
theorem compL_pure {f : D → Mu → Rs (Option D)} {μ : Mu} (g : D → Option D) : ∀ (ds acc : List D), (∀ d ∈ ds, f d μ = .ok (g d) μ) → compL f ds acc μ = .ok (acc ++ ds.filterMap g) μ
  | [], acc, _ => by rw [List.filterMap_nil, List.append_nil]; rfl
  | d :: ds, acc, h => by
    have ih := fun acc => compL_pure (μ := μ) g ds acc fun e he => h e (List.mem_cons_of_mem _ he)
    show (f d μ).bind _ = _
    rw [h d List.mem_cons_self, List.filterMap_cons]
    cases g d with
    | none => exact ih acc
    | some x =>
      show compL f ds (acc ++ [x]) μ = _
      rw [ih, List.append_assoc]; rfl
theorem compL_map {f : D → Mu → Rs (Option D)} {μ : Mu} (g : D → D) (ds acc : List D) (h : ∀ d ∈ ds, f d μ = .ok (some (g d)) μ) : compL f ds acc μ = .ok (acc ++ ds.map g) μ := by
  rw [compL_pure (fun d => some (g d)) ds acc h]
  congr 2
  exact congrFun List.filterMap_eq_map ds
end Mn
set_option Elab.async false
set_option linter.all false
set_option maxRecDepth 100000
set_option autoImplicit false
set_option maxHeartbeats 1000000
namespace Mn
open PySem PySem.Spec
/-! ## the tape -/
def fDraw : Fn := ⟨"_law_draw", ["_law_tape_here", "_law_many"], ["_law_tape_here", "_law_many", "_law_script", "_law_spot", "_law_cell", "_law_mixed", "_law_left"], [0],
(.cons (.asg 2 (.ix (.pk 0) (.int 0)))
(.cons (.asg 3 (.ix (.pk 0) (.int 1)))
(.cons (.seti 0 (.int 1) (.bin .add (.var 3) (.int 1)))
(.cons (.whl (.and (.cons (.cmp .eq (.e (.ix (.pk 0) (.int 2))) (.e (.int 0))) (.cons (.cmp .lt (.e (.ix (.pk 0) (.int 3))) (.e (.b1 .len (.e (.var 2))))) .nil)))
(.cons (.ife (.cmp .ge (.e (.b1 .abs (.e (.ix (.e (.var 2)) (.ix (.pk 0) (.int 3)))))) (.e (.bin .pow (.int 10) (.int 18))))
(.cons (.seti 0 (.int 2) (.b1 .abs (.e (.ix (.e (.var 2)) (.ix (.pk 0) (.int 3))))))
.nil)
.nil)
(.cons (.seti 0 (.int 3) (.bin .add (.ix (.pk 0) (.int 3)) (.int 1)))
.nil)))
(.cons (.ife (.cmp .gt (.e (.ix (.pk 0) (.int 2))) (.e (.int 0)))
(.cons (.asg 6 (.ix (.pk 0) (.int 2)))
(.cons (.seti 0 (.int 2) (.bin .fdiv (.var 6) (.var 1)))
(.cons (.ret (.bin .mod (.var 6) (.var 1)))
.nil)))
.nil)
(.cons (.asg 4 (.int 0))
(.cons (.ife (.cmp .gt (.e (.b1 .len (.e (.var 2)))) (.e (.int 0)))
(.cons (.asg 4 (.ix (.e (.var 2)) (.bin .mod (.var 3) (.b1 .len (.e (.var 2))))))
.nil)
.nil)
(.cons (.asg 5 (.bin .mod (.bin .mul (.bin .add (.bin .mod (.var 4) (.int 1000003)) (.int 1)) (.bin .add (.bin .add (.bin .mul (.bin .mod (.var 3) (.int 997)) (.int 7919)) (.int 104729)) (.var 3))) (.int 1000033)))
(.cons (.asg 5 (.bin .mod (.bin .add (.bin .add (.bin .mul (.var 5) (.var 5)) (.bin .mul (.int 3) (.var 5))) (.var 3)) (.int 999983)))
(.cons (.ret (.bin .mod (.bin .mod (.bin .mul (.var 5) (.int 48271)) (.int 65537)) (.var 1)))
.nil))))))))))⟩

def fTape : Fn := ⟨"_law_tape", ["_law_script"], ["_law_script"], [],
(.cons (.retF (.disp (.cons (.sl (.e (.var 0)) .none (.some (.int 63))) (.cons (.int 0) (.cons (.int 0) (.cons (.int 0) .nil))))))
.nil)⟩

def tapeD (s : List Int) (spot left at_ : Int) : D := .list [.list (s.map .int), .int spot, .int left, .int at_]
def TapeB (n : Nat) (T : D) : Prop := ∃ (s : List Int) (spot left at_ : Int), T = tapeD s spot left at_ ∧ s.length ≤ 63 ∧ 0 ≤ spot ∧ spot ≤ n ∧ 0 ≤ left ∧ 0 ≤ at_
theorem TapeB.mono {n m : Nat} {T : D} (h : TapeB n T) (l : n ≤ m) : TapeB m T := by
  obtain ⟨s, p, f, a, h1, h2, h3, h4, h5, h6⟩ := h
  exact ⟨s, p, f, a, h1, h2, h3, by omega, h5, h6⟩
/-- the frame of a draw -/
def mD (s : List Int) (many spot left at_ : Int) : Mu := [.own (tapeD s (spot + 1) left at_), .val (.int many), .val (.list (s.map .int)), .val (.int spot), .no, .no, .no]
theorem tape_ix2 {s : List Int} {spot left at_ : Int} : L2.atI [PyData.list (s.map .int), .int spot, .int left, .int at_] 2 = some (.int left) := rfl
theorem tape_ix3 {s : List Int} {spot left at_ : Int} : L2.atI [PyData.list (s.map .int), .int spot, .int left, .int at_] 3 = some (.int at_) := rfl
theorem draw_whl (F : Nat → List Sl → FR) (W : Nat) (c : E) (b : Ss) (hc : c = (.and (.cons (.cmp .eq (.e (.ix (.pk 0) (.int 2))) (.e (.int 0))) (.cons (.cmp .lt (.e (.ix (.pk 0) (.int 3))) (.e (.b1 .len (.e (.var 2))))) .nil))))
    (hb : b = (.cons (.ife (.cmp .ge (.e (.b1 .abs (.e (.ix (.e (.var 2)) (.ix (.pk 0) (.int 3)))))) (.e (.bin .pow (.int 10) (.int 18))))
      (.cons (.seti 0 (.int 2) (.b1 .abs (.e (.ix (.e (.var 2)) (.ix (.pk 0) (.int 3)))))) .nil) .nil)
      (.cons (.seti 0 (.int 3) (.bin .add (.ix (.pk 0) (.int 3)) (.int 1))) .nil)))
    (s : List Int) (many spot : Int) : ∀ (m n : Nat) (left at_ : Int), m < n → (s.length : Int) - at_ ≤ m → 0 ≤ left → 0 ≤ at_ →
    ∃ left' at', whlL (fun m => bitOf (ev F c m)) (fun m => execs F W b m) n (mD s many spot left at_) = .ok .nx (mD s many spot left' at') ∧ 0 ≤ left' ∧ 0 ≤ at' := by
  intro m
  induction m with
  | zero =>
    intro n left at_ hn hm hl ha
    obtain ⟨n, rfl⟩ : ∃ k, n = k + 1 := ⟨n - 1, by omega⟩
    refine ⟨left, at_, ?_, hl, ha⟩
    unfold whlL
    have : ev F c (mD s many spot left at_) = .ok (.bool false) (mD s many spot left at_) := by
      subst hc
      by_cases h0 : left = 0
      · simp [mD, peek, tapeD, tape_ix2, tape_ix3, look, h0]; omega
      · simp [mD, peek, tapeD, tape_ix2, tape_ix3, look, h0]
    rw [this]; rfl
  | succ m ih =>
    intro n left at_ hn hm hl ha
    obtain ⟨n, rfl⟩ : ∃ k, n = k + 1 := ⟨n - 1, by omega⟩
    unfold whlL
    by_cases h0 : left = 0
    · by_cases h1 : at_ < s.length
      · have e1 : ev F c (mD s many spot left at_) = .ok (.bool true) (mD s many spot left at_) := by
          subst hc
          simp [mD, peek, tapeD, tape_ix2, tape_ix3, look, h0, h1]
        have hx : ∃ v, s[at_.toNat]? = some v := ⟨_, List.getElem?_eq_getElem (by omega)⟩
        obtain ⟨v, hv⟩ := hx
        have e2 : ∃ left', execs F W b (mD s many spot left at_) = .ok .nx (mD s many spot left' (at_ + 1)) ∧ 0 ≤ left' := by
          subst hb
          have hat : L2.atI (s.map PyData.int) at_ = some (.int v) := atI_nat ha (by rw [List.getElem?_map, hv]; rfl)
          have hpow : powD (.int 10) (.int 18) = some (.int (10 ^ 18)) := by rfl
          by_cases hbig : (1000000000000000000 : Int) ≤ (v.natAbs : Int)
          · refine ⟨v.natAbs, ?_, by omega⟩
            simp only [execs_cons, exec_ife, ev_cmp, evP_e, ev_b1, ev_ix, evP_pk, ev_int, ev_var, ev_bin, mD, peek, tapeD, look]
            simp [tape_ix2, tape_ix3, hat, hpow, hbig, peek, look, ownsA, owned, setE, L2.ixN]
          · refine ⟨left, ?_, hl⟩
            simp only [execs_cons, exec_ife, ev_cmp, evP_e, ev_b1, ev_ix, evP_pk, ev_int, ev_var, ev_bin, mD, peek, tapeD, look]
            simp [tape_ix2, tape_ix3, hat, hpow, hbig, peek, look, ownsA, owned, setE, L2.ixN]
        obtain ⟨left', e2, hl'⟩ := e2
        obtain ⟨l2, a2, e3, h3, h4⟩ := ih n left' (at_ + 1) (by omega) (by omega) hl' (by omega)
        refine ⟨l2, a2, ?_, h3, h4⟩
        rw [e1]
        simp only [bitOf_ok, bind_ok, e2]
        exact e3
      · refine ⟨left, at_, ?_, hl, ha⟩
        have : ev F c (mD s many spot left at_) = .ok (.bool false) (mD s many spot left at_) := by
          subst hc
          simp [mD, peek, tapeD, tape_ix2, tape_ix3, look, h0]; omega
        rw [this]; rfl
    · refine ⟨left, at_, ?_, hl, ha⟩
      have : ev F c (mD s many spot left at_) = .ok (.bool false) (mD s many spot left at_) := by
        subst hc
        simp [mD, peek, tapeD, tape_ix2, tape_ix3, look, h0]
      rw [this]; rfl
theorem mulOk_small {i j : Int} (hi : i.natAbs < 2 ^ 400000) (hj : j.natAbs < 2 ^ 400000) : mulOk i j = true := by
  have log : ∀ {n : Nat}, n < 2 ^ 400000 → n.log2 < 400001 := fun {n} h => by
    by_cases z : n = 0
    · subst z; decide
    · exact Nat.lt_succ_of_lt ((Nat.log2_lt z).mpr h)
  unfold mulOk
  have := log hi
  have := log hj
  exact decide_eq_true (by omega)
theorem pow_big {n : Nat} (h : n < 2 ^ 200) : n < 2 ^ 400000 := Nat.lt_of_lt_of_le h (Nat.pow_le_pow_right (by decide) (by decide))
theorem mulOk_200 {i j : Int} (hi : i.natAbs < 2 ^ 200) (hj : j.natAbs < 2 ^ 200) : mulOk i j = true := mulOk_small (pow_big hi) (pow_big hj)
theorem divOk_64 {j : Int} (h0 : 0 < j) (h : j < 2 ^ 64) : divOk j = true := by
  unfold divOk
  have : j.natAbs.log2 < 64 := (Nat.log2_lt (by omega)).mpr (by omega)
  rw [Bool.and_eq_true, decide_eq_true_eq, decide_eq_true_eq]
  exact ⟨by omega, by omega⟩
theorem fmod_lo {a b : Int} (h : 0 < b) : 0 ≤ a.fmod b := Int.fmod_nonneg_of_pos a h
theorem fmod_hi {a b : Int} (h : 0 < b) : a.fmod b < b := Int.fmod_lt_of_pos a h
theorem draw_ok (F : Nat → List Sl → FR) (W : Nat) (hW : 64 < W) {n : Nat} {T : D} {many : Int} (h : TapeB n T) (hn : n ≤ 1000000000000) (hm : 0 < many) (hm2 : many < 2 ^ 64) :
    ∃ r T', runFn F W fDraw [.own T, .val (.int many)] = .ok (.int r) [T'] ∧ 0 ≤ r ∧ r < many ∧ TapeB (n + 1) T' := by
  obtain ⟨s, spot, left, at_, rfl, hs, h1, h2, h3, h4⟩ := h
  rw [runFn_at rfl rfl]
  obtain ⟨l2, a2, ew, hl2, ha2⟩ := draw_whl F W _ _ rfl rfl s many spot 64 W left at_ hW (by omega) h3 h4
  have head : execs F W fDraw.body ([.own (tapeD s spot left at_), .val (.int many)] ++ List.replicate (fDraw.N.length - fDraw.ps.length) .no) =
      (whlL (fun m => bitOf (ev F _ m)) (fun m => execs F W _ m) W (mD s many spot left at_)).bind (thenB (execs F W _)) := rfl
  rw [head, ew]
  clear head ew
  simp only [bind_ok, thenB_nx]
  have io : fDraw.io = [0] := rfl
  rw [io]
  by_cases hpos : 0 < l2
  · refine ⟨l2.fmod many, tapeD s (spot + 1) (l2.fdiv many) a2, ?_, fmod_lo hm, fmod_hi hm, s, spot + 1, l2.fdiv many, a2, rfl, hs, by omega, by omega, ?_, ha2⟩
    · simp only [execs_cons, exec_ife, ev_cmp, evP_e, ev_b1, ev_ix, evP_pk, ev_int, ev_var, ev_bin, mD, peek, tapeD, look]
      simp [tape_ix2, tape_ix3, hpos, peek, look, ownsA, owned, setE, L2.ixN, asgB, setAll, isLck, setN, fdivD_int (divOk_64 hm hm2), modD_int (show many ≠ 0 by omega), outsOf]
    · exact Int.fdiv_nonneg hl2 (by omega)
  · -- the number in the cell
    have cell : ∃ c : Int, ∀ (r : Mu → Rs Fl), (exec F W (.asg 4 (.int 0)) (mD s many spot l2 a2)).bind (thenB fun μ => (exec F W (.ife (.cmp .gt (.e (.b1 .len (.e (.var 2)))) (.e (.int 0))) (.cons (.asg 4 (.ix (.e (.var 2)) (.bin .mod (.var 3) (.b1 .len (.e (.var 2)))))) .nil) .nil) μ).bind (thenB r)) =
        r [.own (tapeD s (spot + 1) l2 a2), .val (.int many), .val (.list (s.map .int)), .val (.int spot), .val (.int c), .no, .no] := by
      by_cases hz : s.length = 0
      · exact ⟨0, fun r => by
          obtain rfl := List.length_eq_zero_iff.mp hz
          simp [mD, look, asgB, setAll, isLck, setN]⟩
      · have hp : (0 : Int) < s.length := by omega
        have lo := fmod_lo (a := spot) hp
        have hi := fmod_hi (a := spot) hp
        obtain ⟨v, hv⟩ : ∃ v, s[(spot.fmod s.length).toNat]? = some v := ⟨_, List.getElem?_eq_getElem (by omega)⟩
        have hat : L2.atI (s.map PyData.int) (spot.fmod s.length) = some (.int v) := atI_nat lo (by rw [List.getElem?_map, hv]; rfl)
        refine ⟨v, fun r => ?_⟩
        have hm0 : modD (.int spot) (.int s.length) = some (.int (spot.fmod s.length)) := modD_int (by omega)
        have hgt : (0 : Int) < s.length := hp
        have hpn : 0 < s.length := by omega
        simp [mD, look, asgB, setAll, isLck, setN, hm0, hat, hpn]
    obtain ⟨c, hc⟩ := cell
    have e1 := fmod_lo (a := c) (b := 1000003) (by decide)
    have e2 := fmod_hi (a := c) (b := 1000003) (by decide)
    have e3 := fmod_lo (a := spot) (b := 997) (by decide)
    have e4 := fmod_hi (a := spot) (b := 997) (by decide)
    obtain ⟨u, hu⟩ : ∃ u, u = ((c.fmod 1000003 + 1) * (spot.fmod 997 * 7919 + 104729 + spot)).fmod 1000033 := ⟨_, rfl⟩
    obtain ⟨u2, hu2⟩ : ∃ u2, u2 = (u * u + 3 * u + spot).fmod 999983 := ⟨_, rfl⟩
    have u0 : 0 ≤ u := by rw [hu]; exact fmod_lo (by decide)
    have u1 : u < 1000033 := by rw [hu]; exact fmod_hi (by decide)
    have v0 : 0 ≤ u2 := by rw [hu2]; exact fmod_lo (by decide)
    have v1 : u2 < 999983 := by rw [hu2]; exact fmod_hi (by decide)
    have m1 : modD (.int c) (.int 1000003) = some (.int (c.fmod 1000003)) := modD_int (by decide)
    have m2 : modD (.int spot) (.int 997) = some (.int (spot.fmod 997)) := modD_int (by decide)
    have m3 : mulD (.int (spot.fmod 997)) (.int 7919) = some (.int (spot.fmod 997 * 7919)) := mulD_int (mulOk_200 (by omega) (by omega))
    have m4 : mulD (.int (c.fmod 1000003 + 1)) (.int (spot.fmod 997 * 7919 + 104729 + spot)) = some (.int ((c.fmod 1000003 + 1) * (spot.fmod 997 * 7919 + 104729 + spot))) := mulD_int (mulOk_200 (by omega) (by omega))
    have m5 : modD (.int ((c.fmod 1000003 + 1) * (spot.fmod 997 * 7919 + 104729 + spot))) (.int 1000033) = some (.int u) := by rw [hu]; exact modD_int (by decide)
    have m6 : mulD (.int u) (.int u) = some (.int (u * u)) := mulD_int (mulOk_200 (by omega) (by omega))
    have m7 : mulD (.int 3) (.int u) = some (.int (3 * u)) := mulD_int (mulOk_200 (by omega) (by omega))
    have m8 : modD (.int (u * u + 3 * u + spot)) (.int 999983) = some (.int u2) := by rw [hu2]; exact modD_int (by decide)
    have m9 : mulD (.int u2) (.int 48271) = some (.int (u2 * 48271)) := mulD_int (mulOk_200 (by omega) (by omega))
    have m10 : modD (.int (u2 * 48271)) (.int 65537) = some (.int ((u2 * 48271).fmod 65537)) := modD_int (by decide)
    have m11 : modD (.int ((u2 * 48271).fmod 65537)) (.int many) = some (.int (((u2 * 48271).fmod 65537).fmod many)) := modD_int (by omega)
    refine ⟨((u2 * 48271).fmod 65537).fmod many, tapeD s (spot + 1) l2 a2, ?_, fmod_lo hm, fmod_hi hm, s, spot + 1, l2, a2, rfl, hs, by omega, by omega, hl2, ha2⟩
    have skip : exec F W (.ife (.cmp .gt (.e (.ix (.pk 0) (.int 2))) (.e (.int 0))) (.cons (.asg 6 (.ix (.pk 0) (.int 2))) (.cons (.seti 0 (.int 2) (.bin .fdiv (.var 6) (.var 1))) (.cons (.ret (.bin .mod (.var 6) (.var 1))) .nil))) .nil) (mD s many spot l2 a2) = .ok .nx (mD s many spot l2 a2) := by
      simp [mD, peek, tapeD, tape_ix2, look, hpos]
    rw [execs_cons, skip, bind_ok, thenB_nx, execs_cons]
    have hc' := hc (execs F W (.cons (.asg 5 (.bin .mod (.bin .mul (.bin .add (.bin .mod (.var 4) (.int 1000003)) (.int 1)) (.bin .add (.bin .add (.bin .mul (.bin .mod (.var 3) (.int 997)) (.int 7919)) (.int 104729)) (.var 3))) (.int 1000033)))
      (.cons (.asg 5 (.bin .mod (.bin .add (.bin .add (.bin .mul (.var 5) (.var 5)) (.bin .mul (.int 3) (.var 5))) (.var 3)) (.int 999983)))
      (.cons (.ret (.bin .mod (.bin .mod (.bin .mul (.var 5) (.int 48271)) (.int 65537)) (.var 1))) .nil))))
    refine (congrArg (endR [0]) hc').trans ?_
    simp [look, asgB, setAll, isLck, setN, m1, m2, m3, m4, m5, m6, m7, m8, m9, m10, m11, outsOf, owned]
end Mn
set_option Elab.async false
set_option linter.all false
set_option maxRecDepth 100000
set_option autoImplicit false
set_option maxHeartbeats 1000000
namespace Mn
open PySem PySem.Spec
/-! ## powers and orders -/
def fJoined : Fn := ⟨"joined_powers", ["one", "other"], ["one", "other", "here", "there"], [],
(.cons (.ret (.b1 .tuple (.e (.fre (.comp (.bin .add (.var 2) (.var 3)) [2, 3] true (.zip (.var 0) (.var 1)) .none)))))
.nil)⟩
def fOver : Fn := ⟨"over_powers", ["one", "other"], ["one", "other", "here", "there"], [],
(.cons (.ret (.b1 .tuple (.e (.fre (.comp (.bin .sub (.var 2) (.var 3)) [2, 3] true (.zip (.var 0) (.var 1)) .none)))))
.nil)⟩
def fJoint : Fn := ⟨"joint", ["one", "other"], ["one", "other", "here", "there"], [],
(.cons (.ret (.b1 .tuple (.e (.fre (.comp (.b2 .max (.var 2) (.var 3)) [2, 3] true (.zip (.var 0) (.var 1)) .none)))))
.nil)⟩
def fDivides : Fn := ⟨"divides", ["one", "other"], ["one", "other", "here", "there"], [],
(.cons (.ret (.b1 .all (.e (.fre (.comp (.cmp .le (.e (.var 2)) (.e (.var 3))) [2, 3] true (.zip (.var 0) (.var 1)) .none)))))
.nil)⟩
def fAhead : Fn := ⟨"is_ahead", ["order", "one", "other"], ["order", "one", "other", "first", "second", "letter"], [],
(.cons (.asg 3 (.fre (.comp (.ix (.e (.var 1)) (.var 5)) [5] false (.seq (.e (.ix (.e (.var 0)) (.int 1)))) .none)))
(.cons (.asg 4 (.fre (.comp (.ix (.e (.var 2)) (.var 5)) [5] false (.seq (.e (.ix (.e (.var 0)) (.int 1)))) .none)))
(.cons (.ife (.and (.cons (.cmp .eq (.e (.ix (.e (.var 0)) (.int 0))) (.e (.str "total"))) (.cons (.cmp .ne (.e (.b1 .sum (.e (.var 3)))) (.e (.b1 .sum (.e (.var 4))))) .nil)))
(.cons (.ret (.cmp .gt (.e (.b1 .sum (.e (.var 3)))) (.e (.b1 .sum (.e (.var 4))))))
.nil)
.nil)
(.cons (.ret (.cmp .gt (.e (.var 3)) (.e (.var 4))))
.nil))))⟩
theorem compL_on {β : Type} {f : D → Mu → Rs (Option D)} {μ : Mu} (h g : β → D) (l : List β) (acc : List D) (hf : ∀ b ∈ l, f (h b) μ = .ok (some (g b)) μ) : compL f (l.map h) acc μ = .ok (acc ++ l.map g) μ := by
  induction l generalizing acc with
  | nil => simp [compL]
  | cons b l ih =>
    rw [List.map_cons]
    show (f (h b) μ).bind _ = _
    rw [hf b List.mem_cons_self]
    show compL f (l.map h) (acc ++ [g b]) μ = _
    rw [ih _ fun c hc => hf c (List.mem_cons_of_mem _ hc), List.append_assoc]; rfl
theorem zip_ints : ∀ (xs ys : List Int), zipD (xs.map .int) (ys.map .int) = (xs.zip ys).map fun p => pairD (.int p.1) (.int p.2)
  | [], _ => rfl
  | _ :: _, [] => rfl
  | x :: xs, y :: ys => by
    have := zip_ints xs ys
    unfold zipD at this ⊢
    simp only [List.map_cons, List.zip_cons_cons]
    rw [this]
theorem zip2_tup (xs ys : List D) (μ : Mu) : zip2D (.tuple xs) (.tuple ys) μ = .ok (zipD xs ys) μ := rfl
section
variable (F : Nat → List Sl → FR) (W : Nat)
def tupI (xs : List Int) : D := .tuple (xs.map .int)
def joinP (xs ys : List Int) : List Int := (xs.zip ys).map fun p => p.1 + p.2
def overP (xs ys : List Int) : List Int := (xs.zip ys).map fun p => p.1 - p.2
def jointP (xs ys : List Int) : List Int := (xs.zip ys).map fun p => if p.1 < p.2 then p.2 else p.1
def divP (xs ys : List Int) : Bool := (xs.zip ys).all fun p => decide (p.1 ≤ p.2)
theorem map_ints {α : Type} (l : List α) (g : α → Int) : l.map (fun p => PyData.int (g p)) = (l.map g).map .int := by rw [List.map_map]; rfl
theorem map_bools {α : Type} (l : List α) (g : α → Bool) : l.map (fun p => PyData.bool (g p)) = (l.map g).map .bool := by rw [List.map_map]; rfl
theorem joined_ok (xs ys : List Int) : runFn F W fJoined [.val (tupI xs), .val (tupI ys)] = .ok (tupI (joinP xs ys)) [] := by
  rw [runFn_at rfl rfl]
  have e : compL (turnR [2, 3] true (ev F (.bin .add (.var 2) (.var 3))) none) ((xs.zip ys).map fun p => pairD (.int p.1) (.int p.2)) [] [.val (tupI xs), .val (tupI ys), .no, .no] = .ok ([] ++ (xs.zip ys).map fun p => .int (p.1 + p.2)) [.val (tupI xs), .val (tupI ys), .no, .no] := by
    refine compL_on _ _ _ _ fun p hp => ?_
    simp [turnR, wipeM, freeAll, wipeL, setT, pairD, isPair, setAll, isLck, setN, look, Sl.held, backL, Rs.nox]
  simp only [tupI] at e
  simp [fJoined, tupI, look, zip2_tup, zip_ints, e, outsOf, joinP]
theorem over_ok (xs ys : List Int) : runFn F W fOver [.val (tupI xs), .val (tupI ys)] = .ok (tupI (overP xs ys)) [] := by
  rw [runFn_at rfl rfl]
  have e : compL (turnR [2, 3] true (ev F (.bin .sub (.var 2) (.var 3))) none) ((xs.zip ys).map fun p => pairD (.int p.1) (.int p.2)) [] [.val (tupI xs), .val (tupI ys), .no, .no] = .ok ([] ++ (xs.zip ys).map fun p => .int (p.1 - p.2)) [.val (tupI xs), .val (tupI ys), .no, .no] := by
    refine compL_on _ _ _ _ fun p hp => ?_
    simp [turnR, wipeM, freeAll, wipeL, setT, pairD, isPair, setAll, isLck, setN, look, Sl.held, backL, Rs.nox]
  simp only [tupI] at e
  simp [fOver, tupI, look, zip2_tup, zip_ints, e, outsOf, overP]
theorem joint_ok (xs ys : List Int) : runFn F W fJoint [.val (tupI xs), .val (tupI ys)] = .ok (tupI (jointP xs ys)) [] := by
  rw [runFn_at rfl rfl]
  have e : compL (turnR [2, 3] true (ev F (.b2 .max (.var 2) (.var 3))) none) ((xs.zip ys).map fun p => pairD (.int p.1) (.int p.2)) [] [.val (tupI xs), .val (tupI ys), .no, .no] = .ok ([] ++ (xs.zip ys).map fun p => .int (if p.1 < p.2 then p.2 else p.1)) [.val (tupI xs), .val (tupI ys), .no, .no] := by
    refine compL_on _ _ _ _ fun p hp => ?_
    simp [turnR, wipeM, freeAll, wipeL, setT, pairD, isPair, setAll, isLck, setN, look, Sl.held, backL, Rs.nox, b2D]
  simp only [tupI] at e
  simp [fJoint, tupI, look, zip2_tup, zip_ints, e, outsOf, jointP]
theorem divides_ok (xs ys : List Int) : runFn F W fDivides [.val (tupI xs), .val (tupI ys)] = .ok (.bool (divP xs ys)) [] := by
  rw [runFn_at rfl rfl]
  have e : compL (turnR [2, 3] true (ev F (.cmp .le (.e (.var 2)) (.e (.var 3)))) none) ((xs.zip ys).map fun p => pairD (.int p.1) (.int p.2)) [] [.val (tupI xs), .val (tupI ys), .no, .no] = .ok ([] ++ (xs.zip ys).map fun p => .bool (decide (p.1 ≤ p.2))) [.val (tupI xs), .val (tupI ys), .no, .no] := by
    refine compL_on _ _ _ _ fun p hp => ?_
    simp [turnR, wipeM, freeAll, wipeL, setT, pairD, isPair, setAll, isLck, setN, look, Sl.held, backL, Rs.nox]
  simp only [tupI] at e
  rw [map_bools] at e
  simp only [fDivides, execs_cons, exec_ret, ev_b1, evP_e, ev_fre, evF_comp, evI_zip, ev_var]
  simp [tupI, look, zip2_tup, zip_ints, e, outsOf, -List.map_map, divP]
/-- the powers in an order's letters -/
def pickP (ls xs : List Int) : List Int := ls.map fun l => xs.getD l.toNat 0
def ordD (kind : Str) (ls : List Int) : D := .tuple [.str kind, tupI ls]
def aheadB (kind : Str) (ls xs ys : List Int) : Bool := if kind = "total" ∧ (pickP ls xs).sum ≠ (pickP ls ys).sum then decide ((pickP ls ys).sum < (pickP ls xs).sum) else decide (pickP ls ys < pickP ls xs)
theorem ahead_ok (kind : Str) (ls xs ys : List Int) (hx : ∀ l ∈ ls, 0 ≤ l ∧ l < xs.length) (hy : ∀ l ∈ ls, 0 ≤ l ∧ l < ys.length) : runFn F W fAhead [.val (ordD kind ls), .val (tupI xs), .val (tupI ys)] = .ok (.bool (aheadB kind ls xs ys)) [] := by
  rw [runFn_at rfl rfl]
  have e1 : compL (turnR [5] false (ev F (.ix (.e (.var 1)) (.var 5))) none) (ls.map .int) [] [.val (ordD kind ls), .val (tupI xs), .val (tupI ys), .no, .no, .no] = .ok ([] ++ ls.map fun l => .int (xs.getD l.toNat 0)) [.val (ordD kind ls), .val (tupI xs), .val (tupI ys), .no, .no, .no] := by
    refine compL_on _ _ _ _ fun l hl => ?_
    have hat : L2.atI (xs.map PyData.int) l = some (.int (xs.getD l.toNat 0)) := by
      obtain ⟨h1, h2⟩ := hx l hl
      refine atI_nat h1 ?_
      rw [List.getElem?_map, List.getElem?_eq_getElem (by omega)]
      simp [List.getD, List.getElem?_eq_getElem (show l.toNat < xs.length by omega)]
    simp [turnR, wipeM, freeAll, wipeL, setT, pairD, isPair, setAll, isLck, setN, look, Sl.held, backL, Rs.nox, tupI, hat]
  have e2 : compL (turnR [5] false (ev F (.ix (.e (.var 2)) (.var 5))) none) (ls.map .int) [] [.val (ordD kind ls), .val (tupI xs), .val (tupI ys), .val (.list ((pickP ls xs).map .int)), .no, .no] = .ok ([] ++ ls.map fun l => .int (ys.getD l.toNat 0)) [.val (ordD kind ls), .val (tupI xs), .val (tupI ys), .val (.list ((pickP ls xs).map .int)), .no, .no] := by
    refine compL_on _ _ _ _ fun l hl => ?_
    have hat : L2.atI (ys.map PyData.int) l = some (.int (ys.getD l.toNat 0)) := by
      obtain ⟨h1, h2⟩ := hy l hl
      refine atI_nat h1 ?_
      rw [List.getElem?_map, List.getElem?_eq_getElem (by omega)]
      simp [List.getD, List.getElem?_eq_getElem (show l.toNat < ys.length by omega)]
    simp [turnR, wipeM, freeAll, wipeL, setT, pairD, isPair, setAll, isLck, setN, look, Sl.held, backL, Rs.nox, tupI, hat]
  rw [map_ints ls fun l => xs.getD l.toNat 0] at e1
  rw [map_ints ls fun l => ys.getD l.toNat 0] at e2
  have e1 : compL (turnR [5] false (ev F (.ix (.e (.var 1)) (.var 5))) none) (ls.map .int) [] [.val (ordD kind ls), .val (tupI xs), .val (tupI ys), .no, .no, .no] = .ok ((pickP ls xs).map .int) [.val (ordD kind ls), .val (tupI xs), .val (tupI ys), .no, .no, .no] := e1
  have e2 : compL (turnR [5] false (ev F (.ix (.e (.var 2)) (.var 5))) none) (ls.map .int) [] [.val (ordD kind ls), .val (tupI xs), .val (tupI ys), .val (.list ((pickP ls xs).map .int)), .no, .no] = .ok ((pickP ls ys).map .int) [.val (ordD kind ls), .val (tupI xs), .val (tupI ys), .val (.list ((pickP ls xs).map .int)), .no, .no] := e2
  have i1 : L2.atI [PyData.str kind, tupI ls] 1 = some (tupI ls) := rfl
  have i0 : L2.atI [PyData.str kind, tupI ls] 0 = some (.str kind) := rfl
  generalize hA : pickP ls xs = A at *
  generalize hB : pickP ls ys = B at *
  simp only [fAhead, execs_cons, exec_asg, ev_fre, evF_comp, evI_seq, evP_e, ev_ix, ev_var, ev_int, ordD, tupI] at *
  simp [look, i1, e1, e2, asgB, setAll, isLck, setN]
  unfold aheadB
  rw [hA, hB]
  by_cases hk : kind = "total"
  · subst hk
    by_cases hs : A.sum = B.sum
    · simp [i0, hs, look, outsOf]
    · simp [i0, hs, look, outsOf]
  · have hk' : (kind == ("total" : Str)) = false := by rw [Bool.eq_false_iff]; intro z; exact hk (eq_of_beq z)
    simp [i0, hk', hk, look, outsOf]
end
end Mn
set_option Elab.async false
set_option linter.all false
set_option autoImplicit false
namespace Mn
open PySem PySem.Spec
/-! ## the order of lists of numbers -/
theorem lex_irr : ∀ xs : List Int, ¬ xs < xs
  | [] => by simp
  | x :: xs => by
    rw [List.cons_lt_cons_iff]
    have := lex_irr xs
    rintro (h | ⟨_, h⟩)
    · omega
    · exact this h
theorem lex_tri : ∀ xs ys : List Int, xs < ys ∨ xs = ys ∨ ys < xs
  | [], [] => .inr (.inl rfl)
  | [], _ :: _ => .inl (List.nil_lt_cons _ _)
  | _ :: _, [] => .inr (.inr (List.nil_lt_cons _ _))
  | x :: xs, y :: ys => by
    rw [List.cons_lt_cons_iff, List.cons_lt_cons_iff]
    rcases lex_tri xs ys with h | h | h
    · by_cases e : x = y
      · exact .inl (.inr ⟨e, h⟩)
      · rcases Int.lt_or_gt_of_ne e with q | q
        · exact .inl (.inl q)
        · exact .inr (.inr (.inl q))
    · subst h
      by_cases e : x = y
      · subst e; exact .inr (.inl rfl)
      · rcases Int.lt_or_gt_of_ne e with q | q
        · exact .inl (.inl q)
        · exact .inr (.inr (.inl q))
    · by_cases e : x = y
      · exact .inr (.inr (.inr ⟨e.symm, h⟩))
      · rcases Int.lt_or_gt_of_ne e with q | q
        · exact .inl (.inl q)
        · exact .inr (.inr (.inl q))
theorem lex_trans : ∀ {xs ys zs : List Int}, xs < ys → ys < zs → xs < zs
  | xs, ys, [], h1, h2 => by simp at h2
  | [], ys, z :: zs, h1, h2 => List.nil_lt_cons _ _
  | x :: xs, [], z :: zs, h1, h2 => by simp at h1
  | x :: xs, y :: ys, z :: zs, h1, h2 => by
    rw [List.cons_lt_cons_iff] at *
    rcases h1 with h1 | ⟨e1, h1⟩
    · rcases h2 with h2 | ⟨e2, h2⟩
      · exact .inl (by omega)
      · exact .inl (by omega)
    · rcases h2 with h2 | ⟨e2, h2⟩
      · exact .inl (by omega)
      · exact .inr ⟨by omega, lex_trans h1 h2⟩
theorem lex_asym {xs ys : List Int} (h1 : xs < ys) (h2 : ys < xs) : False := lex_irr xs (lex_trans h1 h2)
/-- place by place sums -/
def addL : List Int → List Int → List Int
  | x :: xs, y :: ys => (x + y) :: addL xs ys
  | _, _ => []
theorem lex_add : ∀ {xs ys zs : List Int}, xs.length = ys.length → ys.length = zs.length → (addL xs zs < addL ys zs ↔ xs < ys)
  | [], [], [], _, _ => by simp [addL]
  | x :: xs, y :: ys, z :: zs, h1, h2 => by
    have ih := lex_add (xs := xs) (ys := ys) (zs := zs) (by simpa using h1) (by simpa using h2)
    show (x + z) :: addL xs zs < (y + z) :: addL ys zs ↔ _
    rw [List.cons_lt_cons_iff, List.cons_lt_cons_iff, ih]
    constructor
    · rintro (h | ⟨h, q⟩)
      · exact .inl (by omega)
      · exact .inr ⟨by omega, q⟩
    · rintro (h | ⟨h, q⟩)
      · exact .inl (by omega)
      · exact .inr ⟨by omega, q⟩
  | [], _ :: _, _, h, _ => by simp at h
  | _ :: _, [], _, h, _ => by simp at h
  | [], [], _ :: _, _, h => by simp at h
  | _ :: _, _ :: _, [], _, h => by simp at h
/-- place by place not above -/
theorem lex_le : ∀ {xs ys : List Int}, xs.length = ys.length → (∀ i : Nat, xs.getD i 0 ≤ ys.getD i 0) → ¬ ys < xs
  | [], [], _, _ => by simp
  | x :: xs, y :: ys, h, hp => by
    have ih := lex_le (xs := xs) (ys := ys) (by simpa using h) fun i => by simpa using hp (i + 1)
    have h0 : x ≤ y := by simpa using hp 0
    rw [List.cons_lt_cons_iff]
    rintro (q | ⟨_, q⟩)
    · omega
    · exact ih q
  | [], _ :: _, h, _ => by simp at h
  | _ :: _, [], h, _ => by simp at h
def keyL (kind : Str) (p : List Int) : List Int := if kind = "total" then p.sum :: p else p
theorem ahead_key (kind : Str) (ls xs ys : List Int) : aheadB kind ls xs ys = decide (keyL kind (pickP ls ys) < keyL kind (pickP ls xs)) := by
  unfold aheadB keyL
  by_cases hk : kind = "total"
  · simp only [hk, true_and, if_true]
    by_cases hs : (pickP ls xs).sum = (pickP ls ys).sum
    · rw [if_neg (by simpa using hs)]
      apply decide_eq_decide.mpr
      rw [List.cons_lt_cons_iff, hs]
      constructor
      · exact fun h => .inr ⟨rfl, h⟩
      · rintro (h | ⟨_, h⟩)
        · omega
        · exact h
    · rw [if_pos hs]
      apply decide_eq_decide.mpr
      rw [List.cons_lt_cons_iff]
      constructor
      · exact fun h => .inl h
      · rintro (h | ⟨h, _⟩)
        · exact h
        · exact absurd h.symm hs
  · simp only [hk, false_and, if_false]
end Mn
set_option Elab.async false
set_option linter.all false
set_option autoImplicit false
namespace Mn
open PySem PySem.Spec
/-- the letters are all of 0 .. n - 1 -/
structure OrdOk (n : Nat) (ls : List Int) : Prop where
  lo : ∀ l ∈ ls, 0 ≤ l ∧ l < n
  all : ∀ i : Nat, i < n → (i : Int) ∈ ls
section
variable {n : Nat} {ls xs ys zs : List Int} {kind : Str}
theorem pick_len (ls xs : List Int) : (pickP ls xs).length = ls.length := by unfold pickP; rw [List.length_map]
theorem pick_inj (o : OrdOk n ls) (hx : xs.length = n) (hy : ys.length = n) (h : pickP ls xs = pickP ls ys) : xs = ys := by
  apply List.ext_getElem (by rw [hx, hy])
  intro i h1 h2
  have hm := o.all i (by omega)
  unfold pickP at h
  have := (List.map_inj_left.mp h) (i : Int) hm
  simpa [List.getD, h1, h2] using this
theorem join_len (hx : xs.length = n) (hy : ys.length = n) : (joinP xs ys).length = n := by unfold joinP; rw [List.length_map, List.length_zip, hx, hy, Nat.min_self]
theorem pick_join (o : ∀ l ∈ ls, 0 ≤ l ∧ l < (n : Int)) (hx : xs.length = n) (hy : ys.length = n) : pickP ls (joinP xs ys) = addL (pickP ls xs) (pickP ls ys) := by
  induction ls with
  | nil => rfl
  | cons l ls ih =>
    have ih := ih fun m hm => o m (List.mem_cons_of_mem _ hm)
    obtain ⟨h0, h1⟩ := o l List.mem_cons_self
    show (joinP xs ys).getD l.toNat 0 :: pickP ls (joinP xs ys) = (xs.getD l.toNat 0 + ys.getD l.toNat 0) :: addL (pickP ls xs) (pickP ls ys)
    rw [ih]
    congr 1
    have a1 : l.toNat < xs.length := by omega
    have a2 : l.toNat < ys.length := by omega
    have a3 : l.toNat < (joinP xs ys).length := by rw [join_len hx hy]; omega
    simp [List.getD, a1, a2, joinP, List.getElem?_zip_eq_some]
    simp [List.zip, List.getElem?_zipWith, a1, a2]
theorem sum_add : ∀ {a b : List Int}, a.length = b.length → (addL a b).sum = a.sum + b.sum
  | [], [], _ => rfl
  | x :: a, y :: b, h => by
    show ((x + y) :: addL a b).sum = _
    rw [List.sum_cons, List.sum_cons, List.sum_cons, sum_add (by simpa using h)]; omega
  | [], _ :: _, h => by simp at h
  | _ :: _, [], h => by simp at h
theorem key_add {a b : List Int} (h : a.length = b.length) : keyL kind (addL a b) = addL (keyL kind a) (keyL kind b) := by
  unfold keyL
  split
  · rw [sum_add h]; rfl
  · rfl
theorem key_len {a b : List Int} (h : a.length = b.length) : (keyL kind a).length = (keyL kind b).length := by
  unfold keyL
  split
  · simp [h]
  · exact h
theorem ahead_asym : (aheadB kind ls xs ys && aheadB kind ls ys xs) = false := by
  rw [ahead_key, ahead_key, Bool.and_eq_false_iff]
  by_cases h : keyL kind (pickP ls ys) < keyL kind (pickP ls xs)
  · exact .inr (decide_eq_false fun q => lex_asym h q)
  · exact .inl (decide_eq_false h)
theorem key_inj {a b : List Int} (h : keyL kind a = keyL kind b) : a = b := by
  unfold keyL at h
  split at h
  · exact (List.cons.inj h).2
  · exact h
theorem ahead_total (o : OrdOk n ls) (hx : xs.length = n) (hy : ys.length = n) : (decide (xs = ys) == (aheadB kind ls xs ys || aheadB kind ls ys xs)) = false := by
  rw [ahead_key, ahead_key]
  rcases lex_tri (keyL kind (pickP ls xs)) (keyL kind (pickP ls ys)) with h | h | h
  · have : xs ≠ ys := fun z => by subst z; exact lex_irr _ h
    simp [h, this]
  · have : xs = ys := pick_inj o hx hy (key_inj h)
    subst this
    simp [lex_irr]
  · have : xs ≠ ys := fun z => by subst z; exact lex_irr _ h
    simp [h, this]
theorem ahead_trans (h1 : aheadB kind ls xs ys = true) (h2 : aheadB kind ls ys zs = true) : aheadB kind ls xs zs = true := by
  rw [ahead_key, decide_eq_true_eq] at *
  exact lex_trans h2 h1
theorem ahead_add (o : OrdOk n ls) (hx : xs.length = n) (hy : ys.length = n) (hz : zs.length = n) : aheadB kind ls (joinP xs zs) (joinP ys zs) = aheadB kind ls xs ys := by
  rw [ahead_key, ahead_key, pick_join o.lo hx hz, pick_join o.lo hy hz, key_add (by rw [pick_len, pick_len]), key_add (by rw [pick_len, pick_len])]
  apply decide_eq_decide.mpr
  exact lex_add (key_len (by rw [pick_len, pick_len])) (key_len (by rw [pick_len, pick_len]))
theorem sum_le : ∀ {a b : List Int}, a.length = b.length → (∀ i : Nat, a.getD i 0 ≤ b.getD i 0) → a.sum ≤ b.sum
  | [], [], _, _ => Int.le_refl _
  | x :: a, y :: b, h, hp => by
    have := sum_le (a := a) (b := b) (by simpa using h) fun i => by simpa using hp (i + 1)
    have h0 : x ≤ y := by simpa using hp 0
    rw [List.sum_cons, List.sum_cons]; omega
  | [], _ :: _, h, _ => by simp at h
  | _ :: _, [], h, _ => by simp at h
theorem ahead_le (hp : ∀ i : Nat, (pickP ls xs).getD i 0 ≤ (pickP ls ys).getD i 0) : aheadB kind ls xs ys = false := by
  rw [ahead_key]
  apply decide_eq_false
  have hl : (pickP ls xs).length = (pickP ls ys).length := by rw [pick_len, pick_len]
  refine lex_le (key_len hl) fun i => ?_
  unfold keyL
  split
  · cases i with
    | zero => simpa using sum_le hl hp
    | succ i => simpa using hp i
  · exact hp i
theorem pick_get (ls xs : List Int) (i : Nat) : (pickP ls xs).getD i 0 = match ls[i]? with
    | some l => xs.getD l.toNat 0
    | none => 0 := by
  unfold pickP
  rw [List.getD, List.getElem?_map]
  cases ls[i]? <;> rfl
theorem div_get (hx : xs.length = n) (hy : ys.length = n) (h : divP xs ys = true) (i : Nat) : xs.getD i 0 ≤ ys.getD i 0 := by
  unfold divP at h
  rw [List.all_eq_true] at h
  by_cases hi : i < n
  · have h1 : i < xs.length := by omega
    have h2 : i < ys.length := by omega
    have := h (xs[i], ys[i]) (by
      rw [List.mem_iff_getElem?]
      exact ⟨i, by simp [List.zip, List.getElem?_zipWith, h1, h2]⟩)
    simpa [List.getD, h1, h2] using this
  · simp [List.getD, List.getElem?_eq_none (show xs.length ≤ i by omega), List.getElem?_eq_none (show ys.length ≤ i by omega)]
theorem ahead_div (hx : xs.length = n) (hy : ys.length = n) (h : divP xs ys = true) : aheadB kind ls xs ys = false := by
  refine ahead_le fun i => ?_
  rw [pick_get, pick_get]
  cases ls[i]? with
  | none => exact Int.le_refl _
  | some l => exact div_get hx hy h _
theorem ahead_zero (hy : ∀ y ∈ ys, 0 ≤ y) : aheadB kind ls (List.replicate n 0) ys = false := by
  refine ahead_le fun i => ?_
  rw [pick_get, pick_get]
  cases ls[i]? with
  | none => exact Int.le_refl _
  | some l =>
    have e : (List.replicate n (0 : Int)).getD l.toNat 0 = 0 := by
      rw [List.getD, List.getElem?_replicate]; split <;> rfl
    show (List.replicate n (0 : Int)).getD l.toNat 0 ≤ ys.getD l.toNat 0
    rw [e]
    rw [List.getD]
    cases q : ys[l.toNat]? with
    | none => exact Int.le_refl _
    | some y => exact hy y (List.mem_of_getElem? q)
end
end Mn
set_option Elab.async false
set_option linter.all false
set_option autoImplicit false
namespace Mn
open PySem PySem.Spec
/-! ## loops by an invariant -/
theorem forL_inv {f : D → Mu → Rs Fl} (I : Nat → Mu → Prop) : ∀ (ds : List D) (j : Nat) (μ : Mu), (∀ i d μ, ds[i]? = some d → I (j + i) μ → ∃ μ', f d μ = .ok .nx μ' ∧ I (j + i + 1) μ') → I j μ → ∃ μ', forL f ds μ = .ok .nx μ' ∧ I (j + ds.length) μ'
  | [], j, μ, _, h => ⟨μ, rfl, h⟩
  | d :: ds, j, μ, hs, h => by
    obtain ⟨μ1, e1, h1⟩ := hs 0 d μ rfl h
    obtain ⟨μ2, e2, h2⟩ := forL_inv I ds (j + 1) μ1 (fun i d' μ' hd hi => by
      have := hs (i + 1) d' μ' (by simpa using hd) (by rw [show j + (i + 1) = j + 1 + i by omega]; exact hi)
      rw [show j + (i + 1) + 1 = j + 1 + i + 1 by omega] at this
      exact this) h1
    refine ⟨μ2, ?_, by rw [List.length_cons, show j + (ds.length + 1) = j + 1 + ds.length by omega]; exact h2⟩
    show (f d μ).bind _ = _
    rw [e1]
    exact e2
theorem compL_inv {f : D → Mu → Rs (Option D)} (I : Nat → List D → Mu → Prop) : ∀ (ds : List D) (j : Nat) (acc : List D) (μ : Mu), (∀ i d acc μ, ds[i]? = some d → I (j + i) acc μ → ∃ y μ', f d μ = .ok (some y) μ' ∧ I (j + i + 1) (acc ++ [y]) μ') → I j acc μ → ∃ ys μ', compL f ds acc μ = .ok ys μ' ∧ I (j + ds.length) ys μ'
  | [], j, acc, μ, _, h => ⟨acc, μ, rfl, h⟩
  | d :: ds, j, acc, μ, hs, h => by
    obtain ⟨y, μ1, e1, h1⟩ := hs 0 d acc μ rfl h
    obtain ⟨ys, μ2, e2, h2⟩ := compL_inv I ds (j + 1) (acc ++ [y]) μ1 (fun i d' a' μ' hd hi => by
      have := hs (i + 1) d' a' μ' (by simpa using hd) (by rw [show j + (i + 1) = j + 1 + i by omega]; exact hi)
      rw [show j + (i + 1) + 1 = j + 1 + i + 1 by omega] at this
      exact this) h1
    refine ⟨ys, μ2, ?_, by rw [List.length_cons, show j + (ds.length + 1) = j + 1 + ds.length by omega]; exact h2⟩
    show (f d μ).bind _ = _
    rw [e1]
    exact e2
theorem rangeD_len (lo : Int) (n : Nat) : (rangeD lo n).length = n := by unfold rangeD; rw [List.length_map, List.length_range]
theorem rng1_ok {j : Int} {μ : Mu} (h0 : 0 ≤ j) (h1 : j ≤ 1000) : rng1D (.int j) μ = .ok (rangeD 0 j.toNat) μ := by
  refine if_pos ?_
  unfold smallI sizeOkN
  simp only [Bool.and_eq_true, decide_eq_true_eq]
  omega
/-- a draw within a frame -/
theorem call_draw {G : List Sl → FR} {W : Nat} {F : Nat → List Sl → FR} (hG : G = runFn F W fDraw) (hW : 64 < W) {n : Nat} {T : D} {many : Int} {i : Nat} {μ : Mu} (ho : owned μ i = some T) (h : TapeB n T) (hn : n ≤ 1000000000000) (hm : 0 < many) (hm2 : many < 2 ^ 64) :
    ∃ r T', callG G [.io i, .v (.int many)] μ = .ok (.int r) (μ.set i (.own T')) ∧ 0 ≤ r ∧ r < many ∧ TapeB (n + 1) T' := by
  obtain ⟨r, T', e, h1, h2, h3⟩ := draw_ok F W hW h hn hm hm2
  refine ⟨r, T', ?_, h1, h2, h3⟩
  simp [callG, ioNd, argSl, ho, hG, e, outM]
end Mn
set_option Elab.async false
set_option linter.all false
set_option maxRecDepth 100000
set_option autoImplicit false
namespace Mn
open PySem PySem.Spec
/-! ## what a run promises -/
inductive Rs.wp {α : Type} : Rs α → (α → Mu → Prop) → Prop
  | mk {a : α} {μ : Mu} {Q : α → Mu → Prop} (h : Q a μ) : Rs.wp (.ok a μ) Q
inductive FR.wp : FR → (D → List D → Prop) → Prop
  | mk {d : D} {o : List D} {Q : D → List D → Prop} (h : Q d o) : FR.wp (.ok d o) Q
theorem Rs.bind_cong {α β : Type} {r r' : Rs α} {k : α → Mu → Rs β} (h : r = r') : r.bind k = r'.bind k := by rw [h]
theorem Rs.wp_cong {α : Type} {r r' : Rs α} {Q : α → Mu → Prop} (h : r = r') : r.wp Q = r'.wp Q := by rw [h]
theorem FR.wp_cong {r r' : FR} {Q : D → List D → Prop} (h : r = r') : r.wp Q = r'.wp Q := by rw [h]
theorem bitOf_cong {r r' : Rs D} (h : r = r') : bitOf r = bitOf r' := by rw [h]
@[simp] theorem wp_ok {α : Type} (a : α) (μ : Mu) (Q : α → Mu → Prop) : (Rs.ok a μ).wp Q = Q a μ := propext ⟨fun ⟨h⟩ => h, .mk⟩
@[simp] theorem fwp_ok (d : D) (o : List D) (Q : D → List D → Prop) : (FR.ok d o).wp Q = Q d o := propext ⟨fun ⟨h⟩ => h, .mk⟩
theorem wp_ex {α : Type} (x : Xc) (μ : Mu) (Q : α → Mu → Prop) : (Rs.ex x μ).wp Q = False := propext ⟨fun h => (nomatch h), False.elim⟩
theorem wp_st {α : Type} (Q : α → Mu → Prop) : (Rs.st : Rs α).wp Q = False := propext ⟨fun h => (nomatch h), False.elim⟩
theorem fwp_ex (x : Xc) (o : List D) (Q : D → List D → Prop) : (FR.ex x o).wp Q = False := propext ⟨fun h => (nomatch h), False.elim⟩
theorem fwp_st (Q : D → List D → Prop) : FR.st.wp Q = False := propext ⟨fun h => (nomatch h), False.elim⟩
theorem fwp_fr (d : D) (o : List D) (Q : D → List D → Prop) : (FR.fr d o).wp Q = False := propext ⟨fun h => (nomatch h), False.elim⟩
@[simp] theorem wp_bind {α β : Type} (r : Rs α) (k : α → Mu → Rs β) (Q : β → Mu → Prop) : (r.bind k).wp Q = r.wp fun a μ => (k a μ).wp Q := by
  cases r with
  | ok a μ => rw [bind_ok, wp_ok]
  | ex x μ => rw [wp_ex]; exact wp_ex x μ Q
  | st => rw [wp_st]; exact wp_st Q
@[simp] theorem bind_bind {α β γ : Type} (r : Rs α) (k : α → Mu → Rs β) (l : β → Mu → Rs γ) : (r.bind k).bind l = r.bind fun a μ => (k a μ).bind l := by
  cases r <;> rfl
@[simp] theorem wp_mu {α : Type} (g : Mu → Mu) (r : Rs α) (Q : α → Mu → Prop) : (Rs.mu g r).wp Q = r.wp fun a μ => Q a (g μ) := by
  cases r with
  | ok a μ => rw [mu_ok, wp_ok, wp_ok]
  | ex x μ => rw [wp_ex]; exact wp_ex x (g μ) Q
  | st => rw [wp_st]; exact wp_st Q
@[simp] theorem bitOf_bind {α : Type} (r : Rs α) (k : α → Mu → Rs D) : bitOf (r.bind k) = r.bind fun a μ => bitOf (k a μ) := by
  cases r <;> rfl
def outQ (io : List Nat) (Q : D → List D → Prop) (fl : Fl) (μ : Mu) : Prop := (outR fl (outsOf io μ)).wp Q
@[simp] theorem wp_endR (io : List Nat) (r : Rs Fl) (Q : D → List D → Prop) : (endR io r).wp Q = r.wp (outQ io Q) := by
  cases r with
  | ok a μ => rw [wp_ok]; rfl
  | ex x μ =>
    rw [wp_ex]
    show (match outsOf io μ with | some outs => FR.ex x outs | none => FR.st).wp Q = False
    cases outsOf io μ with
    | none => exact fwp_st Q
    | some o => exact fwp_ex x o Q
  | st => rw [wp_st]; exact fwp_st Q
@[simp] theorem outQ_at (io : List Nat) (Q : D → List D → Prop) (fl : Fl) (μ : Mu) : outQ io Q fl μ = (outR fl (outsOf io μ)).wp Q := rfl
theorem Rs.wp_mono {α : Type} {r : Rs α} {Q Q' : α → Mu → Prop} (h : r.wp Q) (q : ∀ a μ, Q a μ → Q' a μ) : r.wp Q' := by
  cases h with
  | mk h => exact .mk (q _ _ h)
theorem FR.wp_mono {r : FR} {Q Q' : D → List D → Prop} (h : r.wp Q) (q : ∀ a μ, Q a μ → Q' a μ) : r.wp Q' := by
  cases h with
  | mk h => exact .mk (q _ _ h)
theorem Rs.wp_elim {α : Type} {r : Rs α} {Q : α → Mu → Prop} (h : r.wp Q) : ∃ a μ, r = .ok a μ ∧ Q a μ := by
  cases h with
  | mk h => exact ⟨_, _, rfl, h⟩
theorem FR.wp_elim {r : FR} {Q : D → List D → Prop} (h : r.wp Q) : ∃ a μ, r = .ok a μ ∧ Q a μ := by
  cases h with
  | mk h => exact ⟨_, _, rfl, h⟩
/-- by what is so in between -/
theorem Rs.wp_mid {α : Type} {r : Rs α} {K : α → Mu → Prop} (R : α → Mu → Prop) (h1 : ∀ Q' : α → Mu → Prop, (∀ a μ, R a μ → Q' a μ) → r.wp Q') (h2 : ∀ a μ, R a μ → K a μ) : r.wp K := h1 K h2
theorem wp_run {F : Nat → List Sl → FR} {W : Nat} {fn : Fn} {args : List Sl} {Q : D → List D → Prop} (h1 : args.length = fn.ps.length) (h2 : fn.io = ownPos 0 args)
    (h : (execs F W fn.body (args ++ List.replicate (fn.N.length - fn.ps.length) .no)).wp (outQ fn.io Q)) : (runFn F W fn args).wp Q := by
  rw [runFn_at h1 h2, wp_endR]; exact h
/-! calls -/
def pureR (r : FR) (μ : Mu) : Rs D := match r with
  | .ok d [] => .ok d μ
  | .ex x [] => .ex x μ
  | _ => .st
@[simp] theorem pureR_ok (d : D) (μ : Mu) : pureR (.ok d []) μ = .ok d μ := rfl
theorem pureR_cong {r r' : FR} {μ : Mu} (h : r = r') : pureR r μ = pureR r' μ := by rw [h]
theorem callG_pure (G : List Sl → FR) (ds : List D) (μ : Mu) : callG G (ds.map .v) μ = pureR (G (ds.map .val)) μ := by
  have h1 : ioNd (ds.map .v) = [] := by
    induction ds with
    | nil => rfl
    | cons d ds ih => exact ih
  have h2 : argSl μ (ds.map .v) = some (ds.map .val) := by
    clear h1
    induction ds with
    | nil => rfl
    | cons d ds ih => show (argSl μ (ds.map .v)).map _ = _; rw [ih]; rfl
  unfold callG
  rw [if_pos (by rw [h1]; exact List.nodup_nil), h2, h1]
  show (match G (ds.map .val) with | .ok d outs => _ | .ex x outs => _ | _ => _) = pureR (G (ds.map .val)) μ
  cases G (ds.map .val) with
  | ok d o => cases o <;> rfl
  | fr d o => rfl
  | ex x o => cases o <;> rfl
  | st => rfl
@[simp] theorem callG_v1 (G : List Sl → FR) (a : D) (μ : Mu) : callG G [.v a] μ = pureR (G [.val a]) μ := callG_pure G [a] μ
@[simp] theorem callG_v2 (G : List Sl → FR) (a b : D) (μ : Mu) : callG G [.v a, .v b] μ = pureR (G [.val a, .val b]) μ := callG_pure G [a, b] μ
@[simp] theorem callG_v3 (G : List Sl → FR) (a b c : D) (μ : Mu) : callG G [.v a, .v b, .v c] μ = pureR (G [.val a, .val b, .val c]) μ := callG_pure G [a, b, c] μ
@[simp] theorem callG_v4 (G : List Sl → FR) (a b c d : D) (μ : Mu) : callG G [.v a, .v b, .v c, .v d] μ = pureR (G [.val a, .val b, .val c, .val d]) μ := callG_pure G [a, b, c, d] μ
@[simp] theorem callG_v5 (G : List Sl → FR) (a b c d e : D) (μ : Mu) : callG G [.v a, .v b, .v c, .v d, .v e] μ = pureR (G [.val a, .val b, .val c, .val d, .val e]) μ := callG_pure G [a, b, c, d, e] μ
/-- one object lent, the first argument -/
def ioR (i : Nat) (r : FR) (μ : Mu) : Rs D := match r with
  | .ok d [T] => .ok d (μ.set i (.own T))
  | .ex x [T] => .ex x (μ.set i (.own T))
  | _ => .st
@[simp] theorem ioR_ok (i : Nat) (d T : D) (μ : Mu) : ioR i (.ok d [T]) μ = .ok d (μ.set i (.own T)) := rfl
theorem ioR_cong {i : Nat} {r r' : FR} {μ : Mu} (h : r = r') : ioR i r μ = ioR i r' μ := by rw [h]
def ioC (G : List Sl → FR) (i : Nat) (o : Option D) (as : List Sl) (μ : Mu) : Rs D := match o with
  | some T => ioR i (G (.own T :: as)) μ
  | none => .st
@[simp] theorem ioC_some (G : List Sl → FR) (i : Nat) (T : D) (as : List Sl) (μ : Mu) : ioC G i (some T) as μ = ioR i (G (.own T :: as)) μ := rfl
theorem callG_io (G : List Sl → FR) (i : Nat) (ds : List D) (μ : Mu) : callG G (.io i :: ds.map .v) μ = ioC G i (owned μ i) (ds.map .val) μ := by
  have h1 : ioNd (ds.map .v) = [] := by
    induction ds with
    | nil => rfl
    | cons d ds ih => exact ih
  have h1' : ioNd (.io i :: ds.map .v) = [i] := by show i :: ioNd _ = _; rw [h1]
  have h2 : argSl μ (ds.map .v) = some (ds.map .val) := by
    clear h1 h1'
    induction ds with
    | nil => rfl
    | cons d ds ih => show (argSl μ (ds.map .v)).map _ = _; rw [ih]; rfl
  have h3 : argSl μ (.io i :: ds.map .v) = (owned μ i).map fun d => Sl.own d :: ds.map .val := by
    unfold argSl
    cases owned μ i with
    | none => rfl
    | some T => show (argSl μ (ds.map .v)).map _ = _; rw [h2]; rfl
  unfold callG
  rw [if_pos (by rw [h1']; simp), h1', h3]
  cases owned μ i with
  | none => rfl
  | some T =>
    show (match G (Sl.own T :: ds.map .val) with | .ok d outs => _ | .ex x outs => _ | _ => _) = ioR i (G (Sl.own T :: ds.map .val)) μ
    cases G (Sl.own T :: ds.map .val) with
    | ok d o => cases o with
      | nil => rfl
      | cons a o => cases o <;> rfl
    | fr d o => rfl
    | ex x o => cases o with
      | nil => rfl
      | cons a o => cases o <;> rfl
    | st => rfl
@[simp] theorem callG_io0 (G : List Sl → FR) (i : Nat) (μ : Mu) : callG G [.io i] μ = ioC G i (owned μ i) [] μ := callG_io G i [] μ
@[simp] theorem callG_io1 (G : List Sl → FR) (i : Nat) (a : D) (μ : Mu) : callG G [.io i, .v a] μ = ioC G i (owned μ i) [.val a] μ := callG_io G i [a] μ
@[simp] theorem callG_io2 (G : List Sl → FR) (i : Nat) (a b : D) (μ : Mu) : callG G [.io i, .v a, .v b] μ = ioC G i (owned μ i) [.val a, .val b] μ := callG_io G i [a, b] μ
@[simp] theorem callG_io3 (G : List Sl → FR) (i : Nat) (a b c : D) (μ : Mu) : callG G [.io i, .v a, .v b, .v c] μ = ioC G i (owned μ i) [.val a, .val b, .val c] μ := callG_io G i [a, b, c] μ
@[simp] theorem callG_io4 (G : List Sl → FR) (i : Nat) (a b c d : D) (μ : Mu) : callG G [.io i, .v a, .v b, .v c, .v d] μ = ioC G i (owned μ i) [.val a, .val b, .val c, .val d] μ := callG_io G i [a, b, c, d] μ
/-- a call that gives a new object -/
def freshR (r : FR) (μ : Mu) : Rs D := match r with
  | .fr d [] => .ok d μ
  | .ex x [] => .ex x μ
  | _ => .st
@[simp] theorem freshR_fr (d : D) (μ : Mu) : freshR (.fr d []) μ = .ok d μ := rfl
theorem freshR_cong {r r' : FR} {μ : Mu} (h : r = r') : freshR r μ = freshR r' μ := by rw [h]
theorem callH_pure (G : List Sl → FR) (ds : List D) (μ : Mu) : callH G (ds.map .v) μ = freshR (G (ds.map .val)) μ := by
  have h1 : ioNd (ds.map .v) = [] := by
    induction ds with
    | nil => rfl
    | cons d ds ih => exact ih
  have h2 : argSl μ (ds.map .v) = some (ds.map .val) := by
    clear h1
    induction ds with
    | nil => rfl
    | cons d ds ih => show (argSl μ (ds.map .v)).map _ = _; rw [ih]; rfl
  unfold callH
  rw [if_pos (by rw [h1]; exact List.nodup_nil), h2, h1]
  show (match G (ds.map .val) with | .fr d outs => _ | .ex x outs => _ | _ => _) = freshR (G (ds.map .val)) μ
  cases G (ds.map .val) with
  | fr d o => cases o <;> rfl
  | ok d o => rfl
  | ex x o => cases o <;> rfl
  | st => rfl
@[simp] theorem callH_v1 (G : List Sl → FR) (a : D) (μ : Mu) : callH G [.v a] μ = freshR (G [.val a]) μ := callH_pure G [a] μ
@[simp] theorem callH_v2 (G : List Sl → FR) (a b : D) (μ : Mu) : callH G [.v a, .v b] μ = freshR (G [.val a, .val b]) μ := callH_pure G [a, b] μ
@[simp] theorem callH_v3 (G : List Sl → FR) (a b c : D) (μ : Mu) : callH G [.v a, .v b, .v c] μ = freshR (G [.val a, .val b, .val c]) μ := callH_pure G [a, b, c] μ
/-! slots -/
@[simp] theorem look_s (s : Sl) (μ : Mu) (i : Nat) : look (s :: μ) (i + 1) = look μ i := rfl
@[simp] theorem look_v (d : D) (μ : Mu) : look (.val d :: μ) 0 = some d := rfl
@[simp] theorem peek_s (s : Sl) (μ : Mu) (i : Nat) : peek (s :: μ) (i + 1) = peek μ i := rfl
@[simp] theorem peek_v (d : D) (μ : Mu) : peek (.val d :: μ) 0 = some d := rfl
@[simp] theorem peek_o (d : D) (μ : Mu) : peek (.own d :: μ) 0 = some d := rfl
@[simp] theorem peek_l (d : D) (μ : Mu) : peek (.lck d :: μ) 0 = some d := rfl
@[simp] theorem owned_s (s : Sl) (μ : Mu) (i : Nat) : owned (s :: μ) (i + 1) = owned μ i := rfl
@[simp] theorem owned_o (d : D) (μ : Mu) : owned (.own d :: μ) 0 = some d := rfl
@[simp] theorem heldD_s (s : Sl) (μ : Mu) (i : Nat) : heldD (s :: μ) (i + 1) = heldD μ i := rfl
@[simp] theorem heldD_o (d : D) (μ : Mu) : heldD (.own d :: μ) 0 = some d := rfl
@[simp] theorem heldD_l (d : D) (μ : Mu) : heldD (.lck d :: μ) 0 = some d := rfl
@[simp] theorem isLck_s (s : Sl) (μ : Mu) (i : Nat) : isLck (s :: μ) (i + 1) = isLck μ i := rfl
@[simp] theorem isLck_v (d : D) (μ : Mu) : isLck (.val d :: μ) 0 = false := rfl
@[simp] theorem isLck_o (d : D) (μ : Mu) : isLck (.own d :: μ) 0 = false := rfl
@[simp] theorem isLck_n (μ : Mu) : isLck (.no :: μ) 0 = false := rfl
/-- a slot that may be written -/
def FrS (s : Sl) : Prop := s.held = false
@[simp] theorem frS_no : FrS .no := rfl
@[simp] theorem frS_val (d : D) : FrS (.val d) := rfl
theorem isLck_f {s : Sl} (h : FrS s) (μ : Mu) : isLck (s :: μ) 0 = false := by
  cases s with
  | lck _ => cases h
  | _ => rfl
@[simp] theorem ownsL_s (s : Sl) (μ : Mu) (i : Nat) : ownsL (i + 1) (s :: μ) = ownsL i μ := rfl
@[simp] theorem ownsL_o (xs : List D) (μ : Mu) : ownsL 0 (.own (.list xs) :: μ) = true := rfl
@[simp] theorem ownsA_s (s : Sl) (μ : Mu) (i : Nat) : ownsA (i + 1) (s :: μ) = ownsA i μ := rfl
@[simp] theorem ownsA_o (d : D) (μ : Mu) : ownsA 0 (.own d :: μ) = true := rfl
@[simp] theorem setAll_nil (μ : Mu) : setAll [] [] μ = some μ := rfl
def setOne (b : Bool) (r : Option Mu) : Option Mu := if b then none else r
@[simp] theorem setOne_f (r : Option Mu) : setOne false r = r := rfl
theorem setOne_cong {b b' : Bool} {r : Option Mu} (h : b = b') : setOne b r = setOne b' r := by rw [h]
@[simp] theorem setAll_cons (i : Nat) (is : List Nat) (d : D) (ds : List D) (μ : Mu) : setAll (i :: is) (d :: ds) μ = setOne (isLck μ i) (setAll is ds (μ.set i (.val d))) := rfl
def setF (b : Bool) (r : Option Mu) : Option Mu := if b then none else r
@[simp] theorem setF_f (r : Option Mu) : setF false r = r := rfl
@[simp] theorem setT_f (i : Nat) (d : D) (μ : Mu) : setT [i] false d μ = setF (isPair d) (setAll [i] [d] μ) := rfl
@[simp] theorem isPair_int (i : Int) : isPair (.int i) = false := rfl
@[simp] theorem isPair_tuple (xs : List D) : isPair (.tuple xs) = false := rfl
@[simp] theorem isPair_list (xs : List D) : isPair (.list xs) = false := rfl
@[simp] theorem isPair_str (x : Str) : isPair (.str x) = false := rfl
@[simp] theorem isPair_tupI (xs : List Int) : isPair (tupI xs) = false := rfl
@[simp] theorem setT_p (is : List Nat) (x y : D) (μ : Mu) : setT is true (pairD x y) μ = setAll is [x, y] μ := rfl
@[simp] theorem setT_t (is : List Nat) (ds : List D) (μ : Mu) : setT is true (.tuple ds) μ = setAll is ds μ := rfl
@[simp] theorem asgB_at (i : Nat) (d : D) (μ : Mu) : asgB i d μ = Rs.nx (setAll [i] [d] μ) := rfl
def turnS1 (r : Mu → Rs Fl) (o : Option Mu) : Rs Fl := match o with
  | some m1 => r m1
  | none => .st
@[simp] theorem turnS1_some (r : Mu → Rs Fl) (m : Mu) : turnS1 r (some m) = r m := rfl
@[simp] theorem turnS_at (t : List Nat) (tup : Bool) (r : Mu → Rs Fl) (d : D) (m : Mu) : turnS t tup r d m = turnS1 r (setT t tup d m) := rfl
/-- one turn of a comprehension -/
def turnR1 (t : List Nat) (re : Mu → Rs D) (rc : Option (Mu → Rs Bool)) (m : Mu) (o : Option Mu) : Rs (Option D) := Rs.nox (match o with
  | none => .st
  | some m1 => match rc with
    | none => (re m1).bind fun y m2 => .ok (some y) (backL m m2 t)
    | some r => (r m1).bind (ifB (fun m2 => (re m2).bind fun y m3 => .ok (some y) (backL m m3 t)) (fun m2 => .ok none (backL m m2 t))))
@[simp] theorem turnR_at (t : List Nat) (tup : Bool) (re : Mu → Rs D) (rc : Option (Mu → Rs Bool)) (d : D) (m : Mu) : turnR t tup re rc d m = turnR1 t re rc m ((wipeM t m).bind (setT t tup d)) := by
  unfold turnR turnR1
  cases (wipeM t m).bind (setT t tup d) with
  | none => rfl
  | some m1 => cases rc with
    | none => rfl
    | some r =>
      show Rs.nox ((r m1).bind _) = Rs.nox ((r m1).bind _)
      congr 2
@[simp] theorem turnR1_n (t : List Nat) (re : Mu → Rs D) (m m1 : Mu) : turnR1 t re none m (some m1) = Rs.nox ((re m1).bind fun y m2 => .ok (some y) (backL m m2 t)) := rfl
@[simp] theorem turnR1_c (t : List Nat) (re : Mu → Rs D) (r : Mu → Rs Bool) (m m1 : Mu) : turnR1 t re (some r) m (some m1) = Rs.nox ((r m1).bind (ifB (fun m2 => (re m2).bind fun y m3 => .ok (some y) (backL m m3 t)) (fun m2 => .ok none (backL m m2 t)))) := rfl
@[simp] theorem nox_ok {α : Type} (a : α) (μ : Mu) : Rs.nox (.ok a μ) = .ok a μ := rfl
@[simp] theorem wp_nox {α : Type} (r : Rs α) (Q : α → Mu → Prop) : (Rs.nox r).wp Q = r.wp Q := by
  cases r with
  | ok a μ => rfl
  | ex x μ => rw [wp_ex]; exact wp_st Q
  | st => rfl
theorem nox_cong {α : Type} {r r' : Rs α} (h : r = r') : Rs.nox r = Rs.nox r' := by rw [h]
@[simp] theorem rcOf_some {F : Nat → List Sl → FR} (e : E) : rcOf F (.some e) = some (testB F e) := rfl
@[simp] theorem backL_nil (m m1 : Mu) : backL m m1 [] = m1 := rfl
@[simp] theorem backL_cons (m m1 : Mu) (v : Nat) (vs : List Nat) : backL m m1 (v :: vs) = (backL m m1 vs).set v (m.getD v .no) := rfl
def freeS (s : Option Sl) : Bool := match s with
  | some s => !s.held
  | none => false
@[simp] theorem freeS_no : freeS (some .no) = true := rfl
@[simp] theorem freeS_val (d : D) : freeS (some (.val d)) = true := rfl
theorem freeS_f {s : Sl} (h : FrS s) : freeS (some s) = true := by show (!s.held) = true; rw [show s.held = false from h]; rfl
def wipe1 (b : Bool) (m : Mu) : Option Mu := if b then some m else none
@[simp] theorem wipe1_t (m : Mu) : wipe1 true m = some m := rfl
@[simp] theorem wipeM_1 (i : Nat) (μ : Mu) : wipeM [i] μ = wipe1 (freeS μ[i]?) (μ.set i .no) := by
  unfold wipeM freeAll wipe1 wipeL wipeL freeS
  first
    | (simp only [List.all_cons, List.all_nil, Bool.and_true]; done)
    | (simp only [List.all_cons, List.all_nil, Bool.and_true]; rfl)
@[simp] theorem wipeM_2 (i j : Nat) (μ : Mu) : wipeM [i, j] μ = wipe1 (freeS μ[i]? && freeS μ[j]?) ((μ.set j .no).set i .no) := by
  unfold wipeM freeAll wipe1 wipeL wipeL wipeL freeS
  first
    | (simp only [List.all_cons, List.all_nil, Bool.and_true]; done)
    | (simp only [List.all_cons, List.all_nil, Bool.and_true]; rfl)
@[simp] theorem wipeM_3 (i j k : Nat) (μ : Mu) : wipeM [i, j, k] μ = wipe1 (freeS μ[i]? && (freeS μ[j]? && freeS μ[k]?)) (((μ.set k .no).set j .no).set i .no) := by
  unfold wipeM freeAll wipe1 wipeL wipeL wipeL wipeL freeS
  first
    | (simp only [List.all_cons, List.all_nil, Bool.and_true]; done)
    | (simp only [List.all_cons, List.all_nil, Bool.and_true]; rfl)
/-! loops -/
theorem wp_forL {f : D → Mu → Rs Fl} {Q : Fl → Mu → Prop} (I : Nat → Mu → Prop) (ds : List D) (μ : Mu) (h0 : I 0 μ)
    (hs : ∀ i d μ (Q' : Fl → Mu → Prop), ds[i]? = some d → I i μ → (∀ μ', I (i + 1) μ' → Q' .nx μ') → (f d μ).wp Q') (hq : ∀ μ', I ds.length μ' → Q .nx μ') : (forL f ds μ).wp Q := by
  obtain ⟨μ', e, h⟩ := forL_inv I ds 0 μ (fun i d μ hd hi => by
    rw [Nat.zero_add] at *
    obtain ⟨a, μ', e, rfl, h⟩ := Rs.wp_elim (hs i d μ (fun fl μ' => fl = .nx ∧ I (i + 1) μ') hd hi fun μ' h => ⟨rfl, h⟩)
    exact ⟨μ', e, h⟩) h0
  rw [e]
  rw [Nat.zero_add] at h
  exact .mk (hq _ h)
/-- with filter -/
theorem wp_compLj {f : D → Mu → Rs (Option D)} {Q : List D → Mu → Prop} (I : Nat → List D → Mu → Prop) : ∀ (ds : List D) (j : Nat) (acc : List D) (μ : Mu), I j acc μ →
    (∀ i d acc μ (Q' : Option D → Mu → Prop), ds[i]? = some d → I (j + i) acc μ → (∀ o μ', I (j + i + 1) (acc ++ o.toList) μ' → Q' o μ') → (f d μ).wp Q') → (∀ acc μ', I (j + ds.length) acc μ' → Q acc μ') → (compL f ds acc μ).wp Q
  | [], j, acc, μ, h, _, hq => .mk (hq acc μ h)
  | d :: ds, j, acc, μ, h, hs, hq => by
    show ((f d μ).bind _).wp Q
    rw [wp_bind]
    refine hs 0 d acc μ _ rfl h fun o μ1 h1 => ?_
    have next : ∀ acc', I (j + 1) acc' μ1 → (compL f ds acc' μ1).wp Q := fun acc' h1 => wp_compLj I ds (j + 1) acc' μ1 h1 (fun i d' a' μ' Q' hd hi hk => by
      refine hs (i + 1) d' a' μ' Q' (by simpa using hd) (by rw [show j + (i + 1) = j + 1 + i by omega]; exact hi) fun o μ2 h2 => hk o μ2 ?_
      rw [show j + (i + 1) + 1 = j + 1 + i + 1 by omega] at h2
      exact h2) fun acc μ' h => hq acc μ' (by rw [List.length_cons, show j + (ds.length + 1) = j + 1 + ds.length by omega]; exact h)
    cases o with
    | none => exact next acc (by simpa using h1)
    | some x => exact next (acc ++ [x]) (by simpa using h1)
theorem wp_compL {f : D → Mu → Rs (Option D)} {Q : List D → Mu → Prop} (I : Nat → List D → Mu → Prop) (ds : List D) (μ : Mu) (h0 : I 0 [] μ)
    (hs : ∀ i d acc μ (Q' : Option D → Mu → Prop), ds[i]? = some d → I i acc μ → (∀ o μ', I (i + 1) (acc ++ o.toList) μ' → Q' o μ') → (f d μ).wp Q') (hq : ∀ acc μ', I ds.length acc μ' → Q acc μ') : (compL f ds [] μ).wp Q :=
  wp_compLj I ds 0 [] μ h0 (fun i d acc μ Q' hd hi hk => by rw [Nat.zero_add] at hi hk; exact hs i d acc μ Q' hd hi hk) fun acc μ' h => by rw [Nat.zero_add] at h; exact hq acc μ' h
theorem wp_whlL {c : Mu → Rs Bool} {f : Mu → Rs Fl} {Q : Fl → Mu → Prop} (I : Mu → Prop) (m : Mu → Nat)
    (hs : ∀ μ (Q' : Bool → Mu → Prop), I μ → (∀ μ1, Q .nx μ1 → Q' false μ1) → (∀ μ1, (∀ Q2 : Fl → Mu → Prop, (∀ μ2, I μ2 → m μ2 < m μ → Q2 .nx μ2) → (f μ1).wp Q2) → Q' true μ1) → (c μ).wp Q') : ∀ (n : Nat) (μ : Mu), I μ → m μ < n → (whlL c f n μ).wp Q
  | 0, _, _, h => absurd h (Nat.not_lt_zero _)
  | n + 1, μ, h, hn => by
    show ((c μ).bind _).wp Q
    rw [wp_bind]
    refine hs μ _ h (fun μ1 h1 => .mk h1) fun μ1 h1 => ?_
    show ((f μ1).bind _).wp Q
    rw [wp_bind]
    exact h1 _ fun μ2 h2 h3 => wp_whlL I m hs n μ2 h2 (by omega)
/-! a draw -/
theorem draw_wp {F : Nat → List Sl → FR} {W : Nat} (hW : 64 < W) {n : Nat} {T : D} {many : Int} (h : TapeB n T) (hn : n ≤ 1000000000000) (hm : 0 < many) (hm2 : many < 2 ^ 64) :
    ∃ r T', runFn F W fDraw [.own T, .val (.int many)] = .ok (.int r) [T'] ∧ 0 ≤ r ∧ r < many ∧ TapeB (n + 1) T' := draw_ok F W hW h hn hm hm2
/-- an item of a list by a draw -/
theorem atI_pick {P : D → Prop} {l : List D} {r : Int} (h0 : 0 ≤ r) (h1 : r < l.length) (hP : ∀ d ∈ l, P d) : ∃ d, L2.atI l r = some d ∧ P d := by
  have hl : r.toNat < l.length := by omega
  refine ⟨l[r.toNat], atI_nat h0 (List.getElem?_eq_getElem hl), hP _ (List.getElem_mem hl)⟩
@[simp] theorem rangeD_len' (lo : Int) (n : Nat) : (rangeD lo n).length = n := rangeD_len lo n
theorem rangeD_get {lo : Int} {n i : Nat} {d : D} (h : (rangeD lo n)[i]? = some d) : i < n ∧ d = .int (lo + i) := by
  unfold rangeD at h
  rw [List.getElem?_map] at h
  by_cases hi : i < n
  · rw [List.getElem?_range hi] at h
    exact ⟨hi, (Option.some.inj h).symm⟩
  · rw [List.getElem?_eq_none (by simp; omega)] at h
    cases h
@[simp] theorem heldP_e (e : E) (x : D) (μ : Mu) : heldP (.e e) x μ = some x := rfl
@[simp] theorem heldP_pk (i : Nat) (x : D) (μ : Mu) : heldP (.pk i) x μ = heldD μ i := rfl
theorem catE_list {a b : P} {x y : D} {μ : Mu} {xs ys : List D} (hx : heldP a x μ = some (.list xs)) (hy : heldP b y μ = some (.list ys)) (h : xs.length + ys.length ≤ 1000000) : catE a b x y μ = .ok (.list (xs ++ ys)) μ := by
  unfold catE
  rw [hx, hy]
  exact if_pos (decide_eq_true (by omega))
theorem repl_flat {α : Type} (a : α) (n : Nat) : (List.replicate n [a]).flatten = List.replicate n a := by
  induction n with
  | zero => rfl
  | succ n ih => rw [List.replicate_succ, List.flatten_cons, ih]; rfl
theorem mulD_nought {n : Int} (h0 : 0 ≤ n) (h1 : n ≤ 1000) (i : Int) : mulD (.tuple [.int i]) (.int n) = some (tupI (List.replicate n.toNat i)) := by
  refine (if_pos ?_).trans ?_
  · simp [h0, h1]
  · rw [repl_flat, tupI, List.map_replicate]
@[simp] theorem catE_ee (e1 e2 : E) (xs ys : List D) (μ : Mu) : catE (.e e1) (.e e2) (.list xs) (.list ys) μ = if sizeOkN (xs.length + ys.length) then .ok (.list (xs ++ ys)) μ else .st := rfl
@[simp] theorem sizeOkN_at (n : Nat) : sizeOkN n = decide (n ≤ 16777216) := rfl
end Mn
set_option linter.all false
set_option maxRecDepth 100000
namespace Lb
open PySem Mn

def f_joined_powers : Fn := ⟨"joined_powers", ["one", "other"], ["one", "other", "here", "there"], [],
(.cons (.ret (.b1 .tuple (.e (.fre (.comp (.bin .add (.var 2) (.var 3)) [2, 3] true (.zip (.var 0) (.var 1)) .none)))))
.nil)⟩
def f_over_powers : Fn := ⟨"over_powers", ["one", "other"], ["one", "other", "here", "there"], [],
(.cons (.ret (.b1 .tuple (.e (.fre (.comp (.bin .sub (.var 2) (.var 3)) [2, 3] true (.zip (.var 0) (.var 1)) .none)))))
.nil)⟩
def f_joint : Fn := ⟨"joint", ["one", "other"], ["one", "other", "here", "there"], [],
(.cons (.ret (.b1 .tuple (.e (.fre (.comp (.b2 .max (.var 2) (.var 3)) [2, 3] true (.zip (.var 0) (.var 1)) .none)))))
.nil)⟩
def f_divides : Fn := ⟨"divides", ["one", "other"], ["one", "other", "here", "there"], [],
(.cons (.ret (.b1 .all (.e (.fre (.comp (.cmp .le (.e (.var 2)) (.e (.var 3))) [2, 3] true (.zip (.var 0) (.var 1)) .none)))))
.nil)⟩
def f_is_ahead : Fn := ⟨"is_ahead", ["order", "one", "other"], ["order", "one", "other", "first", "second", "letter"], [],
(.cons (.asg 3 (.fre (.comp (.ix (.e (.var 1)) (.var 5)) [5] false (.seq (.e (.ix (.e (.var 0)) (.int 1)))) .none)))
(.cons (.asg 4 (.fre (.comp (.ix (.e (.var 2)) (.var 5)) [5] false (.seq (.e (.ix (.e (.var 0)) (.int 1)))) .none)))
(.cons (.ife (.and (.cons (.cmp .eq (.e (.ix (.e (.var 0)) (.int 0))) (.e (.str "total"))) (.cons (.cmp .ne (.e (.b1 .sum (.e (.var 3)))) (.e (.b1 .sum (.e (.var 4))))) .nil)))
(.cons (.ret (.cmp .gt (.e (.b1 .sum (.e (.var 3)))) (.e (.b1 .sum (.e (.var 4))))))
.nil)
.nil)
(.cons (.ret (.cmp .gt (.e (.var 3)) (.e (.var 4))))
.nil))))⟩
def f_l_tape : Fn := ⟨"_law_tape", ["_law_script"], ["_law_script"], [],
(.cons (.retF (.disp (.cons (.sl (.e (.var 0)) .none (.some (.int 63))) (.cons (.int 0) (.cons (.int 0) (.cons (.int 0) .nil))))))
.nil)⟩
def f_l_draw : Fn := ⟨"_law_draw", ["_law_tape_here", "_law_many"], ["_law_tape_here", "_law_many", "_law_script", "_law_spot", "_law_cell", "_law_mixed", "_law_left"], [0],
(.cons (.asg 2 (.ix (.pk 0) (.int 0)))
(.cons (.asg 3 (.ix (.pk 0) (.int 1)))
(.cons (.seti 0 (.int 1) (.bin .add (.var 3) (.int 1)))
(.cons (.whl (.and (.cons (.cmp .eq (.e (.ix (.pk 0) (.int 2))) (.e (.int 0))) (.cons (.cmp .lt (.e (.ix (.pk 0) (.int 3))) (.e (.b1 .len (.e (.var 2))))) .nil)))
(.cons (.ife (.cmp .ge (.e (.b1 .abs (.e (.ix (.e (.var 2)) (.ix (.pk 0) (.int 3)))))) (.e (.bin .pow (.int 10) (.int 18))))
(.cons (.seti 0 (.int 2) (.b1 .abs (.e (.ix (.e (.var 2)) (.ix (.pk 0) (.int 3))))))
.nil)
.nil)
(.cons (.seti 0 (.int 3) (.bin .add (.ix (.pk 0) (.int 3)) (.int 1)))
.nil)))
(.cons (.ife (.cmp .gt (.e (.ix (.pk 0) (.int 2))) (.e (.int 0)))
(.cons (.asg 6 (.ix (.pk 0) (.int 2)))
(.cons (.seti 0 (.int 2) (.bin .fdiv (.var 6) (.var 1)))
(.cons (.ret (.bin .mod (.var 6) (.var 1)))
.nil)))
.nil)
(.cons (.asg 4 (.int 0))
(.cons (.ife (.cmp .gt (.e (.b1 .len (.e (.var 2)))) (.e (.int 0)))
(.cons (.asg 4 (.ix (.e (.var 2)) (.bin .mod (.var 3) (.b1 .len (.e (.var 2))))))
.nil)
.nil)
(.cons (.asg 5 (.bin .mod (.bin .mul (.bin .add (.bin .mod (.var 4) (.int 1000003)) (.int 1)) (.bin .add (.bin .add (.bin .mul (.bin .mod (.var 3) (.int 997)) (.int 7919)) (.int 104729)) (.var 3))) (.int 1000033)))
(.cons (.asg 5 (.bin .mod (.bin .add (.bin .add (.bin .mul (.var 5) (.var 5)) (.bin .mul (.int 3) (.var 5))) (.var 3)) (.int 999983)))
(.cons (.ret (.bin .mod (.bin .mod (.bin .mul (.var 5) (.int 48271)) (.int 65537)) (.var 1)))
.nil))))))))))⟩
def f_l_order (c_l_draw : Nat) : Fn := ⟨"_law_order", ["_law_tape_here", "_law_n"], ["_law_tape_here", "_law_n", "_law_left", "_law_found", "_law_k"], [0],
(.cons (.own 2 (.listOf (.rng1 (.var 1))))
(.cons (.own 3 (.disp .nil))
(.cons (.for_ [4] false (.rng1 (.var 1))
(.cons (.app 3 (.pop 2 (.call c_l_draw (.cons (.io 0) (.cons (.v (.b1 .len (.pk 2))) .nil)))))
.nil))
(.cons (.ret (.tup (.cons (.ix (.e (.fre (.disp (.cons (.str "plain") (.cons (.str "total") .nil))))) (.call c_l_draw (.cons (.io 0) (.cons (.v (.int 2)) .nil)))) (.cons (.b1 .tuple (.pk 3)) .nil))))
.nil))))⟩
def f_l_key : Fn := ⟨"_law_key", ["_law_order_here", "_law_powers_here"], ["_law_order_here", "_law_powers_here", "_law_own", "_law_letter"], [],
(.cons (.asg 2 (.fre (.comp (.ix (.e (.var 1)) (.var 3)) [3] false (.seq (.e (.ix (.e (.var 0)) (.int 1)))) .none)))
(.cons (.ret (.ife (.cmp .eq (.e (.ix (.e (.var 0)) (.int 0))) (.e (.str "total"))) (.bin .add (.fre (.disp (.cons (.b1 .sum (.e (.var 2))) .nil))) (.var 2)) (.var 2)))
.nil))⟩
def f_l_powers (c_l_draw : Nat) : Fn := ⟨"_law_powers", ["_law_tape_here", "_law_n"], ["_law_tape_here", "_law_n", "_law_k"], [0],
(.cons (.ret (.b1 .tuple (.e (.fre (.comp (.ix (.e (.fre (.disp (.cons (.int 0) (.cons (.int 0) (.cons (.int 1) (.cons (.int 2) (.cons (.int 3) (.cons (.int 499) (.cons (.call c_l_draw (.cons (.io 0) (.cons (.v (.int 500)) .nil))) .nil)))))))))) (.call c_l_draw (.cons (.io 0) (.cons (.v (.int 7)) .nil)))) [2] false (.rng1 (.var 1)) .none)))))
.nil)⟩
def f_l_less_by : Fn := ⟨"_law_less_by", ["_law_one", "_law_other"], ["_law_one", "_law_other", "_law_j"], [],
(.cons (.ret (.b1 .tuple (.e (.fre (.comp (.bin .sub (.ix (.e (.var 0)) (.var 2)) (.ix (.e (.var 1)) (.var 2))) [2] false (.rng1 (.b1 .len (.e (.var 0)))) .none)))))
.nil)⟩
def f_l_powers_2 (c_l_draw : Nat) : Fn := ⟨"_law_powers", ["_law_tape_here", "_law_n"], ["_law_tape_here", "_law_n", "_law_k"], [0],
(.cons (.ret (.b1 .tuple (.e (.fre (.comp (.ix (.e (.fre (.disp (.cons (.int 0) (.cons (.int 1) (.cons (.int 2) (.cons (.call c_l_draw (.cons (.io 0) (.cons (.v (.int 4)) .nil))) .nil))))))) (.call c_l_draw (.cons (.io 0) (.cons (.v (.int 4)) .nil)))) [2] false (.rng1 (.var 1)) .none)))))
.nil)⟩
end Lb
set_option Elab.async false
set_option linter.all false
set_option maxRecDepth 100000
set_option autoImplicit false
set_option maxHeartbeats 1000000
namespace Mn
open PySem PySem.Spec Lb
/-- what a draw gives -/
def DrawS (G : List Sl → FR) : Prop := ∀ (n : Nat) (T : D) (many : Int), TapeB n T → n ≤ 1000000000000 → 0 < many → many < 2 ^ 64 → ∃ r T', G [.own T, .val (.int many)] = .ok (.int r) [T'] ∧ 0 ≤ r ∧ r < many ∧ TapeB (n + 1) T'
theorem drawS (F : Nat → List Sl → FR) (W : Nat) (hW : 64 < W) : DrawS (runFn F W f_l_draw) := fun n T many h hn h1 h2 => draw_ok F W hW h hn h1 h2
def OrderS (G : List Sl → FR) : Prop := ∀ (m : Nat) (T : D) (n : Nat), TapeB m T → m ≤ 100000000000 → 1 ≤ n → n ≤ 4 → ∃ kind ls T', G [.own T, .val (.int n)] = .ok (ordD kind ls) [T'] ∧ (kind = "plain" ∨ kind = "total") ∧ OrdOk n ls ∧ ls.length = n ∧ TapeB (m + 8) T'
theorem eraseIdx_ints : ∀ (left : List Int) (k : Nat), (left.map PyData.int).eraseIdx k = (left.eraseIdx k).map PyData.int
  | [], _ => by simp
  | _ :: _, 0 => rfl
  | x :: xs, k + 1 => by simp [eraseIdx_ints xs k]
theorem orderS (F : Nat → List Sl → FR) (W c : Nat) (hd : DrawS (F c)) : OrderS (runFn F W (f_l_order c)) := by
  intro m T n h hm h0 h1
  suffices hw : ∀ Q : D → List D → Prop, (∀ (kind : Str) ls T', (kind = "plain" ∨ kind = "total") ∧ OrdOk n ls ∧ ls.length = n ∧ TapeB (m + 8) T' → Q (ordD kind ls) [T']) → (runFn F W (f_l_order c) [.own T, .val (.int n)]).wp Q by
    obtain ⟨d, o, e, kind, ls, T', rfl, rfl, r⟩ := FR.wp_elim (hw (fun d o => ∃ (kind : Str) (ls : List Int) (T' : D), d = ordD kind ls ∧ o = [T'] ∧ (kind = "plain" ∨ kind = "total") ∧ OrdOk n ls ∧ ls.length = n ∧ TapeB (m + 8) T') fun kind ls T' r => ⟨kind, ls, T', rfl, rfl, r⟩)
    exact ⟨kind, ls, T', e, r⟩
  intro Q hQ
  have n0 : (0 : Int) ≤ n := by omega
  have n1 : (n : Int) ≤ 1000 := by omega
  refine wp_run rfl rfl ?_
  simp -implicitDefEqProofs [f_l_order, rng1_ok n0 n1]
  refine wp_forL (fun i μ => ∃ (T' : D) (left found : List Int) (s : Sl), μ = [.own T', .val (.int n), .own (.list (left.map PyData.int)), .own (.list (found.map PyData.int)), s] ∧ FrS s ∧ TapeB (m + i) T' ∧ left.length + i = n ∧ found.length = i ∧ (∀ l ∈ left ++ found, 0 ≤ l ∧ l < (n : Int)) ∧ ∀ j : Nat, j < n → (j : Int) ∈ left ++ found) _ _ ?_ ?_ ?_
  · refine ⟨T, (List.range n).map fun (j : Nat) => (0 : Int) + (j : Int), [], .no, by rw [List.map_map]; rfl, rfl, by simpa using h, by simp, rfl, fun l hl => ?_, fun j hj => by simp; exact ⟨j, hj, rfl⟩⟩
    simp at hl
    obtain ⟨a, ha, rfl⟩ := hl
    omega
  · rintro i d μ Q' hd' ⟨T1, left, found, s, rfl, hs, t1, hl, hf, lo, all⟩ hk
    obtain ⟨hi, rfl⟩ := rangeD_get hd'
    have hlp : 0 < left.length := by omega
    obtain ⟨r, T2, e2, a1, a2, t2⟩ := hd _ T1 left.length t1 (by omega) (by omega) (by omega)
    have hr : r.toNat < left.length := by omega
    obtain ⟨v, hv⟩ : ∃ v, left[r.toNat]? = some v := ⟨_, List.getElem?_eq_getElem hr⟩
    have ixn : L2.ixN left.length r = some r.toNat := by unfold L2.ixN; rw [if_pos a1, if_pos a2]
    have lenE : (left.eraseIdx r.toNat).length = left.length - 1 := List.length_eraseIdx_of_lt hr
    have hvm : v ∈ left := List.mem_of_getElem? hv
    have hsz : found.length ≤ 16777215 := by omega
    simp -implicitDefEqProofs [isLck_f hs, e2, popE, ixn, hv, appE, sizeOkN, hsz, eraseIdx_ints]
    refine hk _ ⟨T2, left.eraseIdx r.toNat, found ++ [v], .val (.int i), by simp, rfl, t2, ?_, ?_, ?_, ?_⟩
    · rw [lenE]; omega
    · rw [List.length_append, hf]; simp
    · intro l hl
      rcases List.mem_append.mp hl with q | q
      · exact lo l (List.mem_append_left _ (List.mem_of_mem_eraseIdx q))
      · rcases List.mem_append.mp q with q | q
        · exact lo l (List.mem_append_right _ q)
        · rw [List.mem_singleton] at q; subst q; exact lo _ (List.mem_append_left _ hvm)
    · intro j hj
      rcases List.mem_append.mp (all j hj) with q | q
      · by_cases z : (j : Int) = v
        · rw [z]; exact List.mem_append_right _ (List.mem_append_right _ (List.mem_singleton.mpr rfl))
        · refine List.mem_append_left _ ?_
          obtain ⟨p, hp⟩ := List.mem_iff_getElem?.mp q
          have hpr : p ≠ r.toNat := fun e => by rw [e, hv] at hp; exact z (Option.some.inj hp).symm
          exact List.mem_eraseIdx_iff_getElem?.mpr ⟨p, hpr, hp⟩
      · exact List.mem_append_right _ (List.mem_append_left _ q)
  · rintro μ' ⟨T', left, found, s, rfl, hs, t, hl, hf, lo, all⟩
    rw [rangeD_len] at hl hf t
    have l0 : left = [] := List.length_eq_zero_iff.mp (by omega)
    subst l0
    obtain ⟨r, T2, e2, a1, a2, t2⟩ := hd _ T' 2 t (by omega) (by decide) (by decide)
    obtain ⟨d, hk, kind, rfl, hkind⟩ := atI_pick (P := fun d => ∃ kind : Str, d = .str kind ∧ (kind = "plain" ∨ kind = "total")) (l := [PyData.str "plain", .str "total"]) a1 a2 (by simp)
    simp -implicitDefEqProofs [e2, hk, outsOf]
    exact hQ kind found T2 ⟨hkind, ⟨fun l hl => lo l (by simpa using hl), fun i hi => by simpa using all i hi⟩, hf, t2.mono (by omega)⟩
end Mn
set_option Elab.async false
set_option linter.all false
set_option maxRecDepth 100000
set_option autoImplicit false
set_option maxHeartbeats 1000000
namespace Mn
open PySem PySem.Spec Lb
@[simp] theorem eqD_tupI' (xs ys : List Int) : eqD (tupI xs) (tupI ys) = some (decide (xs = ys)) := eqD_tupI xs ys
@[simp] theorem gtD_tupI' (xs ys : List Int) : gtD (tupI xs) (tupI ys) = some (decide (ys < xs)) := gtD_tupI xs ys
def TapeS (G : List Sl → FR) : Prop := ∀ ns : List Int, ns.length ≤ 63 → G [.val (.list (ns.map .int))] = .fr (tapeD ns 0 0 0) []
theorem tapeS (F : Nat → List Sl → FR) (W : Nat) : TapeS (runFn F W f_l_tape) := by
  intro ns hn
  rw [runFn_at rfl rfl]
  have e : slD (.list (ns.map .int)) none (some 63) = some (.list (ns.map PyData.int)) := by
    have : cutD (ns.map PyData.int) none (some 63) = ns.map PyData.int := by
      unfold cutD
      rw [HT.sIx_none, List.drop_zero, show ((63 : Int)) = ((63 : Nat) : Int) from rfl, HT.sIx_nat]
      apply List.take_of_length_le
      rw [List.length_map]; omega
    show some (PyData.list (cutD _ _ _)) = _
    rw [this]
  simp -implicitDefEqProofs [f_l_tape, e, outsOf, tapeD]
theorem tapeB0 {ns : List Int} (h : ns.length ≤ 63) : TapeB 0 (tapeD ns 0 0 0) := ⟨ns, 0, 0, 0, rfl, h, by omega, by omega, by omega, by omega⟩
def Pure2 (G : List Sl → FR) (g : List Int → List Int → D) : Prop := ∀ xs ys, G [.val (tupI xs), .val (tupI ys)] = .ok (g xs ys) []
theorem joinedS (F : Nat → List Sl → FR) (W : Nat) : Pure2 (runFn F W f_joined_powers) fun xs ys => tupI (joinP xs ys) := joined_ok F W
theorem overPS (F : Nat → List Sl → FR) (W : Nat) : Pure2 (runFn F W f_over_powers) fun xs ys => tupI (overP xs ys) := over_ok F W
theorem jointS (F : Nat → List Sl → FR) (W : Nat) : Pure2 (runFn F W f_joint) fun xs ys => tupI (jointP xs ys) := joint_ok F W
theorem dividesS (F : Nat → List Sl → FR) (W : Nat) : Pure2 (runFn F W f_divides) fun xs ys => .bool (divP xs ys) := divides_ok F W
def AheadS (G : List Sl → FR) : Prop := ∀ (kind : Str) (ls xs ys : List Int), (∀ l ∈ ls, 0 ≤ l ∧ l < xs.length) → (∀ l ∈ ls, 0 ≤ l ∧ l < ys.length) → G [.val (ordD kind ls), .val (tupI xs), .val (tupI ys)] = .ok (.bool (aheadB kind ls xs ys)) []
theorem aheadS (F : Nat → List Sl → FR) (W : Nat) : AheadS (runFn F W f_is_ahead) := ahead_ok F W
/-- powers by draws -/
def PowersS (most : Int) (G : List Sl → FR) : Prop := ∀ (m : Nat) (T : D) (n : Nat), TapeB m T → m ≤ 100000000000 → n ≤ 4 → ∃ ps T', G [.own T, .val (.int n)] = .ok (tupI ps) [T'] ∧ ps.length = n ∧ (∀ p ∈ ps, 0 ≤ p ∧ p ≤ most) ∧ TapeB (m + 8) T'
theorem powersS2 (F : Nat → List Sl → FR) (W c : Nat) (hd : DrawS (F c)) : PowersS 3 (runFn F W (f_l_powers_2 c)) := by
  intro m T n h hm h1
  suffices hw : ∀ Q : D → List D → Prop, (∀ ps T', ps.length = n ∧ (∀ p ∈ ps, 0 ≤ p ∧ p ≤ 3) ∧ TapeB (m + 8) T' → Q (tupI ps) [T']) → (runFn F W (f_l_powers_2 c) [.own T, .val (.int n)]).wp Q by
    obtain ⟨d, o, e, ps, T', rfl, rfl, r⟩ := FR.wp_elim (hw (fun d o => ∃ ps T', d = tupI ps ∧ o = [T'] ∧ ps.length = n ∧ (∀ p ∈ ps, 0 ≤ p ∧ p ≤ 3) ∧ TapeB (m + 8) T') fun ps T' r => ⟨ps, T', rfl, rfl, r⟩)
    exact ⟨ps, T', e, r⟩
  intro Q hQ
  have n0 : (0 : Int) ≤ n := by omega
  have n1 : (n : Int) ≤ 1000 := by omega
  refine wp_run rfl rfl ?_
  simp -implicitDefEqProofs [f_l_powers_2, rng1_ok n0 n1]
  refine wp_compL (fun i acc μ => ∃ (T' : D) (ps : List Int), μ = [.own T', .val (.int n), .no] ∧ TapeB (m + 2 * i) T' ∧ acc = ps.map PyData.int ∧ ps.length = i ∧ ∀ p ∈ ps, 0 ≤ p ∧ p ≤ 3) _ _ ?_ ?_ ?_
  · exact ⟨T, [], rfl, h, rfl, rfl, by simp⟩
  · rintro i d acc μ Q' hd' ⟨T1, ps, rfl, t1, rfl, hl, hp⟩ hk
    obtain ⟨hi, rfl⟩ := rangeD_get hd'
    obtain ⟨r1, T2, e2, a1, a2, t2⟩ := hd _ T1 4 t1 (by omega) (by decide) (by decide)
    obtain ⟨r2, T3, e3, b1, b2, t3⟩ := hd _ T2 4 t2 (by omega) (by decide) (by decide)
    obtain ⟨d, hv, v, rfl, v0⟩ := atI_pick (P := fun d => ∃ v : Int, d = .int v ∧ 0 ≤ v ∧ v ≤ 3) (l := [PyData.int 0, .int 1, .int 2, .int r1]) b1 b2 (by simp; omega)
    simp -implicitDefEqProofs [e2, e3, hv]
    refine hk _ _ ⟨T3, ps ++ [v], rfl, ?_, by simp, by simp [hl], ?_⟩
    · rw [show m + 2 * (i + 1) = m + 2 * i + 1 + 1 by omega]; exact t3
    · intro p hq
      rcases List.mem_append.mp hq with hq | hq
      · exact hp p hq
      · rw [List.mem_singleton] at hq; subst hq; exact v0
  · rintro acc μ' ⟨T', ps, rfl, t, rfl, hl, hp⟩
    simp -implicitDefEqProofs [outsOf]
    rw [rangeD_len] at *
    exact hQ ps T' ⟨by omega, hp, t.mono (by omega)⟩
end Mn
set_option Elab.async false
set_option linter.all false
set_option maxRecDepth 100000
set_option autoImplicit false
set_option maxHeartbeats 1000000
namespace Mn
open PySem PySem.Spec
/-! ## what repr shows -/
/-- at most L signs, at most k deep -/
structure Shw (L k : Nat) (d : D) : Prop where
  pl : d.plain = true
  sh : d.showable = true
  dp : d.depth ≤ k
  ln : d.shown.length ≤ L
theorem Shw.mono {L k L' k' : Nat} {d : D} (h : Shw L k d) (h1 : L ≤ L') (h2 : k ≤ k') : Shw L' k' d := ⟨h.pl, h.sh, Nat.le_trans h.dp h2, Nat.le_trans h.ln h1⟩
theorem reprD_ok {L k : Nat} {d : D} (h : Shw L k d) (h1 : L ≤ 16777216) (h2 : k ≤ 60) : reprD d = some (.str d.shown) := by
  unfold reprD
  refine if_pos ?_
  have := h.ln
  have := h.dp
  rw [h.pl, h.sh, decide_eq_true (show d.shown.length ≤ 16777216 by omega), decide_eq_true (show d.depth ≤ 60 by omega)]
  rfl
theorem shown_int {i : Int} {b : Nat} (hb : 0 < b) (h : i.natAbs < 2 ^ b) : (PyData.shown (.int i)).length ≤ b + 1 := by
  have e : PyData.shown (.int i) = Str.ofString (toString i) := by unfold PyData.shown; rfl
  have h10 : i.natAbs < 10 ^ b := Nat.lt_of_lt_of_le h (Nat.pow_le_pow_left (by decide) b)
  rw [e]
  by_cases h0 : 0 ≤ i
  · have := PyProof.Rows.toString_length_le h0 hb (show i < 10 ^ b by
      have : ((i.natAbs : Nat) : Int) < ((10 ^ b : Nat) : Int) := by exact_mod_cast h10
      rw [show ((i.natAbs : Nat) : Int) = i by omega] at this
      simpa using this)
    omega
  · rw [PyProof.Rows.len_text_neg (by omega)]
    have := PyProof.Rows.toString_length_le (v := 0 - i) (by omega) hb (show 0 - i < 10 ^ b by
      have : ((i.natAbs : Nat) : Int) < ((10 ^ b : Nat) : Int) := by exact_mod_cast h10
      rw [show ((i.natAbs : Nat) : Int) = 0 - i by omega] at this
      simpa using this)
    omega
theorem shw_int {i : Int} {b : Nat} (hb : 0 < b) (h9 : b ≤ 1900) (h : i.natAbs < 2 ^ b) : Shw (b + 1) 0 (.int i) := by
  refine ⟨rfl, ?_, Nat.le_refl _, shown_int hb h⟩
  unfold PyData.showable
  refine decide_eq_true ?_
  by_cases z : i.natAbs = 0
  · rw [z]; decide
  · have := (Nat.log2_lt z).mpr h
    omega
theorem shw_bool (b : Bool) : Shw 5 0 (.bool b) := by cases b <;> exact ⟨rfl, rfl, Nat.le_refl _, by decide⟩
theorem shw_none : Shw 4 0 .none := ⟨rfl, rfl, Nat.le_refl _, by decide⟩
theorem plainAll_of {xs : List D} (h : ∀ d ∈ xs, d.plain = true) : PyData.plainAll xs = true := by
  induction xs with
  | nil => rfl
  | cons x xs ih =>
    show (PyData.plain x && PyData.plainAll xs) = true
    rw [h x List.mem_cons_self, ih fun d hd => h d (List.mem_cons_of_mem _ hd)]; rfl
theorem showableAll_of {xs : List D} (h : ∀ d ∈ xs, d.showable = true) : PyData.showableAll xs = true := by
  induction xs with
  | nil => rfl
  | cons x xs ih =>
    show (PyData.showable x && PyData.showableAll xs) = true
    rw [h x List.mem_cons_self, ih fun d hd => h d (List.mem_cons_of_mem _ hd)]; rfl
theorem depthAll_of {xs : List D} {k : Nat} (h : ∀ d ∈ xs, d.depth ≤ k) : PyData.depthAll xs ≤ k := by
  induction xs with
  | nil => exact Nat.zero_le _
  | cons x xs ih =>
    show max (PyData.depth x) (PyData.depthAll xs) ≤ k
    exact Nat.max_le.mpr ⟨h x List.mem_cons_self, ih fun d hd => h d (List.mem_cons_of_mem _ hd)⟩
theorem sum_of {xs : List D} {L : Nat} (h : ∀ d ∈ xs, d.shown.length ≤ L) : ((PyData.shownAll xs).map (·.length)).sum ≤ xs.length * L ∧ (PyData.shownAll xs).length = xs.length := by
  induction xs with
  | nil => exact ⟨by simp [PyData.shownAll], rfl⟩
  | cons x xs ih =>
    obtain ⟨h1, h2⟩ := ih fun d hd => h d (List.mem_cons_of_mem _ hd)
    have h0 := h x List.mem_cons_self
    simp only [PyData.shownAll, List.map_cons, List.sum_cons, List.length_cons, Nat.add_mul, h2]
    exact ⟨by omega, trivial⟩
theorem shw_tuple {xs : List D} {L k n : Nat} (hn : xs.length ≤ n) (h : ∀ d ∈ xs, Shw L k d) : Shw (n * (L + 2) + 3) (k + 1) (.tuple xs) := by
  refine ⟨?_, ?_, ?_, ?_⟩
  · unfold PyData.plain; exact plainAll_of fun d hd => (h d hd).pl
  · unfold PyData.showable; exact showableAll_of fun d hd => (h d hd).sh
  · unfold PyData.depth; exact Nat.succ_le_succ (depthAll_of fun d hd => (h d hd).dp)
  · obtain ⟨h1, h2⟩ := sum_of fun d hd => (h d hd).ln
    have h3 := tupleText_len_le (PyData.shownAll xs)
    have h4 : xs.length * (L + 2) ≤ n * (L + 2) := Nat.mul_le_mul_right _ hn
    rw [Nat.mul_add] at h4
    unfold PyData.shown
    omega
theorem shw_list {xs : List D} {L k n : Nat} (hn : xs.length ≤ n) (h : ∀ d ∈ xs, Shw L k d) : Shw (n * (L + 2) + 3) (k + 1) (.list xs) := by
  refine ⟨?_, ?_, ?_, ?_⟩
  · unfold PyData.plain; exact plainAll_of fun d hd => (h d hd).pl
  · unfold PyData.showable; exact showableAll_of fun d hd => (h d hd).sh
  · unfold PyData.depth; exact Nat.succ_le_succ (depthAll_of fun d hd => (h d hd).dp)
  · obtain ⟨h1, h2⟩ := sum_of fun d hd => (h d hd).ln
    have h3 := listText_len_le (PyData.shownAll xs)
    have h4 : xs.length * (L + 2) ≤ n * (L + 2) := Nat.mul_le_mul_right _ hn
    rw [Nat.mul_add] at h4
    unfold PyData.shown
    omega
theorem shw_tupI {xs : List Int} {n b : Nat} (hn : xs.length ≤ n) (hb : 0 < b) (h9 : b ≤ 1900) (h : ∀ x ∈ xs, x.natAbs < 2 ^ b) : Shw (n * (b + 3) + 3) 1 (tupI xs) := by
  refine shw_tuple (by rw [List.length_map]; exact hn) fun d hd => ?_
  obtain ⟨x, hx, rfl⟩ := List.mem_map.mp hd
  exact shw_int hb h9 (h x hx)
@[simp] theorem eqD_str_self (x : Str) : eqD (.str x) (.str x) = some true := by rw [eqD_str]; simp
end Mn
set_option Elab.async false
set_option linter.all false
set_option maxRecDepth 100000
set_option autoImplicit false
set_option maxHeartbeats 1000000
namespace Mn
open PySem PySem.Spec Lb
theorem powersS1 (F : Nat → List Sl → FR) (W c : Nat) (hd : DrawS (F c)) : PowersS 499 (runFn F W (f_l_powers c)) := by
  intro m T n h hm h1
  suffices hw : ∀ Q : D → List D → Prop, (∀ ps T', ps.length = n ∧ (∀ p ∈ ps, 0 ≤ p ∧ p ≤ 499) ∧ TapeB (m + 8) T' → Q (tupI ps) [T']) → (runFn F W (f_l_powers c) [.own T, .val (.int n)]).wp Q by
    obtain ⟨d, o, e, ps, T', rfl, rfl, r⟩ := FR.wp_elim (hw (fun d o => ∃ ps T', d = tupI ps ∧ o = [T'] ∧ ps.length = n ∧ (∀ p ∈ ps, 0 ≤ p ∧ p ≤ 499) ∧ TapeB (m + 8) T') fun ps T' r => ⟨ps, T', rfl, rfl, r⟩)
    exact ⟨ps, T', e, r⟩
  intro Q hQ
  have n0 : (0 : Int) ≤ n := by omega
  have n1 : (n : Int) ≤ 1000 := by omega
  refine wp_run rfl rfl ?_
  simp -implicitDefEqProofs [f_l_powers, rng1_ok n0 n1]
  refine wp_compL (fun i acc μ => ∃ (T' : D) (ps : List Int), μ = [.own T', .val (.int n), .no] ∧ TapeB (m + 2 * i) T' ∧ acc = ps.map PyData.int ∧ ps.length = i ∧ ∀ p ∈ ps, 0 ≤ p ∧ p ≤ 499) _ _ ?_ ?_ ?_
  · exact ⟨T, [], rfl, h, rfl, rfl, by simp⟩
  · rintro i d acc μ Q' hd' ⟨T1, ps, rfl, t1, rfl, hl, hp⟩ hk
    obtain ⟨hi, rfl⟩ := rangeD_get hd'
    obtain ⟨r1, T2, e2, a1, a2, t2⟩ := hd _ T1 500 t1 (by omega) (by decide) (by decide)
    obtain ⟨r2, T3, e3, b1, b2, t3⟩ := hd _ T2 7 t2 (by omega) (by decide) (by decide)
    obtain ⟨d, hv, v, rfl, v0⟩ := atI_pick (P := fun d => ∃ v : Int, d = .int v ∧ 0 ≤ v ∧ v ≤ 499) (l := [PyData.int 0, .int 0, .int 1, .int 2, .int 3, .int 499, .int r1]) b1 b2 (by simp; omega)
    simp -implicitDefEqProofs [e2, e3, hv]
    refine hk _ _ ⟨T3, ps ++ [v], rfl, ?_, by simp, by simp [hl], ?_⟩
    · rw [show m + 2 * (i + 1) = m + 2 * i + 1 + 1 by omega]; exact t3
    · intro p hq
      rcases List.mem_append.mp hq with hq | hq
      · exact hp p hq
      · rw [List.mem_singleton] at hq; subst hq; exact v0
  · rintro acc μ' ⟨T', ps, rfl, t, rfl, hl, hp⟩
    simp -implicitDefEqProofs [outsOf]
    rw [rangeD_len] at *
    exact hQ ps T' ⟨by omega, hp, t.mono (by omega)⟩
theorem compL_filter {β : Type} {f : D → Mu → Rs (Option D)} {μ : Mu} (h g : β → D) (p : β → Bool) (l : List β) (acc : List D) (hf : ∀ b ∈ l, f (h b) μ = .ok (if p b then some (g b) else none) μ) : compL f (l.map h) acc μ = .ok (acc ++ (l.filter p).map g) μ := by
  induction l generalizing acc with
  | nil => simp [compL]
  | cons b l ih =>
    rw [List.map_cons]
    show (f (h b) μ).bind _ = _
    rw [hf b List.mem_cons_self]
    have ih := fun acc => ih acc fun c hc => hf c (List.mem_cons_of_mem _ hc)
    cases q : p b with
    | true =>
      show compL f (l.map h) (acc ++ [g b]) μ = _
      rw [ih, List.filter_cons_of_pos q, List.append_assoc]; rfl
    | false =>
      show compL f (l.map h) acc μ = _
      rw [ih, List.filter_cons_of_neg (by rw [q]; exact Bool.false_ne_true)]
theorem getD_ints {xs : List Int} {j : Nat} (h : j < xs.length) : (xs.map PyData.int)[j]? = some (.int (xs.getD j 0)) := by
  rw [List.getElem?_map, List.getElem?_eq_getElem h]
  simp [List.getD, h]
theorem atI_ints {xs : List Int} {j : Nat} (h : j < xs.length) : L2.atI (xs.map PyData.int) (j : Int) = some (.int (xs.getD j 0)) := atI_nat (by omega) (by rw [Int.toNat_natCast]; exact getD_ints h)
/-- place by place, by places -/
theorem places (g : Int → Int → Int) (xs ys : List Int) (h : xs.length = ys.length) : ((List.range xs.length).map fun j => g (xs.getD j 0) (ys.getD j 0)) = (xs.zip ys).map fun p => g p.1 p.2 := by
  apply List.ext_getElem?
  intro j
  rw [List.getElem?_map, List.getElem?_map]
  by_cases hj : j < xs.length
  · have hj' : j < ys.length := by omega
    rw [List.getElem?_range hj, List.getElem?_eq_getElem (by rw [List.length_zip]; omega)]
    simp [List.getD, hj, hj']
  · rw [List.getElem?_eq_none (by simpa using hj), List.getElem?_eq_none (by rw [List.length_zip]; omega)]
    rfl
theorem rangeD_map (n : Nat) : rangeD 0 n = (List.range n).map fun (j : Nat) => PyData.int (j : Int) := by
  unfold rangeD
  apply List.map_congr_left
  intro j _
  simp
theorem lessByS (F : Nat → List Sl → FR) (W : Nat) (xs ys : List Int) (h : xs.length = ys.length) (h1 : xs.length ≤ 1000) : runFn F W f_l_less_by [.val (tupI xs), .val (tupI ys)] = .ok (tupI (overP xs ys)) [] := by
  rw [runFn_at rfl rfl]
  have e : compL (turnR [2] false (ev F (.bin .sub (.ix (.e (.var 0)) (.var 2)) (.ix (.e (.var 1)) (.var 2)))) none) ((List.range xs.length).map fun (j : Nat) => PyData.int (j : Int)) [] [.val (.tuple (xs.map .int)), .val (.tuple (ys.map .int)), .no] = .ok ([] ++ (List.range xs.length).map fun j => PyData.int (xs.getD j 0 - ys.getD j 0)) [.val (.tuple (xs.map .int)), .val (.tuple (ys.map .int)), .no] := by
    refine compL_on _ _ _ _ fun j hj => ?_
    have hj := List.mem_range.mp hj
    simp -implicitDefEqProofs [atI_ints hj, atI_ints (show j < ys.length by omega)]
  rw [map_ints _ fun j => xs.getD j 0 - ys.getD j 0, places (· - ·) xs ys h] at e
  have r0 : rng1D (.int (xs.length : Int)) [.val (.tuple (xs.map .int)), .val (.tuple (ys.map .int)), .no] = .ok ((List.range xs.length).map fun (j : Nat) => PyData.int (j : Int)) [.val (.tuple (xs.map .int)), .val (.tuple (ys.map .int)), .no] := by
    rw [rng1_ok (by omega) (by omega), Int.toNat_natCast, rangeD_map]
  simp only [List.nil_append] at e
  simp -implicitDefEqProofs [f_l_less_by, tupI, r0, e, outsOf, overP]
def KeyS (G : List Sl → FR) : Prop := ∀ (kind : Str) (ls xs : List Int), (∀ l ∈ ls, 0 ≤ l ∧ l < xs.length) → ls.length ≤ 1000 → G [.val (ordD kind ls), .val (tupI xs)] = .ok (.list ((keyL kind (pickP ls xs)).map .int)) []
theorem keyS (F : Nat → List Sl → FR) (W : Nat) : KeyS (runFn F W f_l_key) := by
  intro kind ls xs hx hlen
  rw [runFn_at rfl rfl]
  have e1 : compL (turnR [3] false (ev F (.ix (.e (.var 1)) (.var 3))) none) (ls.map .int) [] [.val (ordD kind ls), .val (tupI xs), .no, .no] = .ok ([] ++ ls.map fun l => PyData.int (xs.getD l.toNat 0)) [.val (ordD kind ls), .val (tupI xs), .no, .no] := by
    refine compL_on _ _ _ _ fun l hl => ?_
    obtain ⟨h1, h2⟩ := hx l hl
    have hat : L2.atI (xs.map PyData.int) l = some (.int (xs.getD l.toNat 0)) := atI_nat h1 (getD_ints (by omega))
    simp -implicitDefEqProofs [tupI, hat]
  rw [map_ints ls fun l => xs.getD l.toNat 0] at e1
  have e1 : compL (turnR [3] false (ev F (.ix (.e (.var 1)) (.var 3))) none) (ls.map .int) [] [.val (ordD kind ls), .val (tupI xs), .no, .no] = .ok ((pickP ls xs).map .int) [.val (ordD kind ls), .val (tupI xs), .no, .no] := e1
  have i1 : L2.atI [PyData.str kind, tupI ls] 1 = some (tupI ls) := rfl
  have i0 : L2.atI [PyData.str kind, tupI ls] 0 = some (.str kind) := rfl
  have sq : seqD (tupI ls) = some (ls.map .int) := rfl
  have hl : (pickP ls xs).length = ls.length := pick_len ls xs
  generalize pickP ls xs = A at *
  have sh : sumD (.list (A.map .int)) = some (.int A.sum) := sumD_map A
  unfold keyL
  have hA : ((A.map PyData.int).length + 1 ≤ 16777216) := by rw [List.length_map]; omega
  simp only [ordD] at *
  by_cases hk : kind = "total"
  · subst hk
    have cat : addD (.list [.int A.sum]) (.list (A.map .int)) = some (.list ((A.sum :: A).map .int)) := by
      show (if sizeOkN ([PyData.int A.sum].length + (A.map PyData.int).length) then _ else _) = _
      refine if_pos (decide_eq_true ?_)
      simp at hA ⊢; omega
    simp -implicitDefEqProofs [f_l_key, i1, i0, sq, e1, sh, cat, outsOf, -List.map_cons]
  · have hk' : (kind == ("total" : Str)) = false := by rw [Bool.eq_false_iff]; intro z; exact hk (eq_of_beq z)
    simp -implicitDefEqProofs [f_l_key, i1, i0, sq, e1, sh, outsOf, hk', hk]
end Mn
set_option linter.all false
set_option maxRecDepth 100000
namespace Lb
open PySem Mn

def f_shared : Fn := ⟨"shared", ["one", "other"], ["one", "other"], [],
(.cons (.whl (.cmp .gt (.e (.var 1)) (.e (.int 0)))
(.cons (.par 0 1 (.var 1) (.bin .mod (.var 0) (.var 1)))
.nil))
(.cons (.ret (.var 0))
.nil))⟩
def f_ratio (c_shared : Nat) : Fn := ⟨"ratio", ["top", "bottom"], ["top", "bottom", "by"], [],
(.cons (.ife (.cmp .eq (.e (.var 1)) (.e (.int 0)))
(.cons (.never)
.nil)
.nil)
(.cons (.asg 2 (.call c_shared (.cons (.v (.b1 .abs (.e (.var 0)))) (.cons (.v (.b1 .abs (.e (.var 1)))) .nil))))
(.cons (.ife (.cmp .lt (.e (.var 1)) (.e (.int 0)))
(.cons (.asg 2 (.bin .sub (.int 0) (.var 2)))
.nil)
.nil)
(.cons (.ret (.tup (.cons (.bin .fdiv (.var 0) (.var 2)) (.cons (.bin .fdiv (.var 1) (.var 2)) .nil))))
.nil))))⟩
def f_plus (c_ratio : Nat) : Fn := ⟨"plus", ["one", "other"], ["one", "other"], [],
(.cons (.ret (.call c_ratio (.cons (.v (.bin .add (.bin .mul (.ix (.e (.var 0)) (.int 0)) (.ix (.e (.var 1)) (.int 1))) (.bin .mul (.ix (.e (.var 1)) (.int 0)) (.ix (.e (.var 0)) (.int 1))))) (.cons (.v (.bin .mul (.ix (.e (.var 0)) (.int 1)) (.ix (.e (.var 1)) (.int 1)))) .nil))))
.nil)⟩
def f_minus (c_plus : Nat) : Fn := ⟨"minus", ["one", "other"], ["one", "other"], [],
(.cons (.ret (.call c_plus (.cons (.v (.var 0)) (.cons (.v (.tup (.cons (.bin .sub (.int 0) (.ix (.e (.var 1)) (.int 0))) (.cons (.ix (.e (.var 1)) (.int 1)) .nil)))) .nil))))
.nil)⟩
def f_times (c_ratio : Nat) : Fn := ⟨"times", ["one", "other"], ["one", "other"], [],
(.cons (.ret (.call c_ratio (.cons (.v (.bin .mul (.ix (.e (.var 0)) (.int 0)) (.ix (.e (.var 1)) (.int 0)))) (.cons (.v (.bin .mul (.ix (.e (.var 0)) (.int 1)) (.ix (.e (.var 1)) (.int 1)))) .nil))))
.nil)⟩
def f_gathered (c_plus : Nat) : Fn := ⟨"gathered", ["terms"], ["terms", "table", "powers", "number"], [],
(.cons (.own 1 .dict0)
(.cons (.for_ [2, 3] true (.seq (.e (.var 0)))
(.cons (.dset 1 (.var 2) (.call c_plus (.cons (.v (.get (.pk 1) (.var 2) (.glob "NOUGHT" (.tuple [.int 0, .int 1])))) (.cons (.v (.var 3)) .nil))))
.nil))
(.cons (.ret (.b1 .tuple (.e (.fre (.comp (.tup (.cons (.var 2) (.cons (.dix (.pk 1) (.var 2)) .nil))) [2] false (.seq (.e (.fre (.sortedRev (.pk 1))))) (.some (.cmp .ne (.e (.dix (.pk 1) (.var 2))) (.e (.glob "NOUGHT" (.tuple [.int 0, .int 1]))))))))))
.nil)))⟩
def f_added (c_gathered : Nat) : Fn := ⟨"added", ["one", "other"], ["one", "other"], [],
(.cons (.ret (.call c_gathered (.cons (.v (.bin .add (.var 0) (.var 1))) .nil)))
.nil)⟩
def f_by_term (c_times c_joined_powers : Nat) : Fn := ⟨"by_term", ["poly", "term"], ["poly", "term", "powers", "number"], [],
(.cons (.ret (.b1 .tuple (.e (.fre (.comp (.tup (.cons (.call c_joined_powers (.cons (.v (.var 2)) (.cons (.v (.ix (.e (.var 1)) (.int 0))) .nil))) (.cons (.call c_times (.cons (.v (.var 3)) (.cons (.v (.ix (.e (.var 1)) (.int 1))) .nil))) .nil))) [2, 3] true (.seq (.e (.var 0))) .none)))))
.nil)⟩
def f_lessened (c_gathered c_minus : Nat) : Fn := ⟨"lessened", ["one", "other"], ["one", "other", "powers", "number"], [],
(.cons (.ret (.call c_gathered (.cons (.v (.bin .add (.var 0) (.b1 .tuple (.e (.fre (.comp (.tup (.cons (.var 2) (.cons (.call c_minus (.cons (.v (.glob "NOUGHT" (.tuple [.int 0, .int 1]))) (.cons (.v (.var 3)) .nil))) .nil))) [2, 3] true (.seq (.e (.var 1))) .none)))))) .nil)))
.nil)⟩
def f_product (c_by_term c_gathered : Nat) : Fn := ⟨"product", ["one", "other"], ["one", "other", "found", "term"], [],
(.cons (.own 2 (.disp .nil))
(.cons (.for_ [3] false (.seq (.e (.var 1)))
(.cons (.ext 2 (.call c_by_term (.cons (.v (.var 0)) (.cons (.v (.var 3)) .nil))))
.nil))
(.frz 2
(.cons (.ret (.call c_gathered (.cons (.v (.var 2)) .nil)))
.nil))))⟩
def f_l_gcd : Fn := ⟨"_law_gcd", ["_law_one", "_law_other"], ["_law_one", "_law_other"], [],
(.cons (.whl (.cmp .ne (.e (.var 1)) (.e (.int 0)))
(.cons (.par 0 1 (.var 1) (.bin .mod (.var 0) (.var 1)))
.nil))
(.cons (.ret (.var 0))
.nil))⟩
def f_l_ratio (c_l_gcd : Nat) : Fn := ⟨"_law_ratio", ["_law_top", "_law_bottom"], ["_law_top", "_law_bottom", "_law_by"], [],
(.cons (.asg 2 (.call c_l_gcd (.cons (.v (.b1 .abs (.e (.var 0)))) (.cons (.v (.b1 .abs (.e (.var 1)))) .nil))))
(.cons (.ife (.cmp .lt (.e (.var 1)) (.e (.int 0)))
(.cons (.asg 2 (.neg (.var 2)))
.nil)
.nil)
(.cons (.ret (.tup (.cons (.bin .fdiv (.var 0) (.var 2)) (.cons (.bin .fdiv (.var 1) (.var 2)) .nil))))
.nil)))⟩
def f_l_plus (c_l_ratio : Nat) : Fn := ⟨"_law_plus", ["_law_one", "_law_other"], ["_law_one", "_law_other"], [],
(.cons (.ret (.call c_l_ratio (.cons (.v (.bin .add (.bin .mul (.ix (.e (.var 0)) (.int 0)) (.ix (.e (.var 1)) (.int 1))) (.bin .mul (.ix (.e (.var 1)) (.int 0)) (.ix (.e (.var 0)) (.int 1))))) (.cons (.v (.bin .mul (.ix (.e (.var 0)) (.int 1)) (.ix (.e (.var 1)) (.int 1)))) .nil))))
.nil)⟩
def f_l_times (c_l_ratio : Nat) : Fn := ⟨"_law_times", ["_law_one", "_law_other"], ["_law_one", "_law_other"], [],
(.cons (.ret (.call c_l_ratio (.cons (.v (.bin .mul (.ix (.e (.var 0)) (.int 0)) (.ix (.e (.var 1)) (.int 0)))) (.cons (.v (.bin .mul (.ix (.e (.var 0)) (.int 1)) (.ix (.e (.var 1)) (.int 1)))) .nil))))
.nil)⟩
def f_l_number (c_l_draw c_l_ratio : Nat) : Fn := ⟨"_law_number", ["_law_tape_here"], ["_law_tape_here", "_law_top", "_law_bottom"], [0],
(.cons (.asg 1 (.ix (.e (.fre (.disp (.cons (.int 1) (.cons (.int 1) (.cons (.int 2) (.cons (.int 3) (.cons (.int 5) (.cons (.bin .add (.int 1) (.call c_l_draw (.cons (.io 0) (.cons (.v (.int 40)) .nil)))) (.cons (.bin .add (.bin .pow (.int 10) (.int 20)) (.int 39)) .nil)))))))))) (.call c_l_draw (.cons (.io 0) (.cons (.v (.int 7)) .nil)))))
(.cons (.asg 2 (.ix (.e (.fre (.disp (.cons (.int 1) (.cons (.int 1) (.cons (.int 1) (.cons (.int 1) (.cons (.int 2) (.cons (.int 3) (.cons (.bin .add (.int 1) (.call c_l_draw (.cons (.io 0) (.cons (.v (.int 30)) .nil)))) .nil)))))))))) (.call c_l_draw (.cons (.io 0) (.cons (.v (.int 7)) .nil)))))
(.cons (.ret (.call c_l_ratio (.cons (.v (.ix (.e (.fre (.disp (.cons (.var 1) (.cons (.bin .sub (.int 0) (.var 1)) .nil))))) (.call c_l_draw (.cons (.io 0) (.cons (.v (.int 2)) .nil))))) (.cons (.v (.var 2)) .nil))))
.nil)))⟩
def f_l_poly (c_l_draw c_l_number c_l_gathered : Nat) : Fn := ⟨"_law_poly", ["_law_tape_here", "_law_n", "_law_many", "_law_most"], ["_law_tape_here", "_law_n", "_law_many", "_law_most", "_law_table", "_law_k", "_law_powers", "_law_letter"], [0],
(.cons (.own 4 .dict0)
(.cons (.for_ [5] false (.rng1 (.call c_l_draw (.cons (.io 0) (.cons (.v (.bin .add (.var 2) (.int 1))) .nil))))
(.cons (.asg 6 (.b1 .tuple (.e (.fre (.comp (.call c_l_draw (.cons (.io 0) (.cons (.v (.bin .add (.var 3) (.int 1))) .nil))) [7] false (.rng1 (.var 1)) .none)))))
(.cons (.ife (.cmp .eq (.e (.call c_l_draw (.cons (.io 0) (.cons (.v (.int 3)) .nil)))) (.e (.int 0)))
(.cons (.asg 6 (.bin .mul (.tup (.cons (.int 0) .nil)) (.var 1)))
.nil)
.nil)
(.cons (.dset 4 (.var 6) (.call c_l_number (.cons (.io 0) .nil)))
.nil))))
(.frz 4
(.cons (.ret (.call c_l_gathered (.cons (.v (.var 4)) .nil)))
.nil))))⟩
def f_l_gathered : Fn := ⟨"_law_gathered", ["_law_table"], ["_law_table", "_law_powers"], [],
(.cons (.ret (.b1 .tuple (.e (.fre (.comp (.tup (.cons (.var 1) (.cons (.dix (.e (.var 0)) (.var 1)) .nil))) [1] false (.seq (.e (.fre (.sortedRev (.e (.var 0)))))) (.some (.cmp .ne (.e (.ix (.e (.dix (.e (.var 0)) (.var 1))) (.int 0))) (.e (.int 0)))))))))
.nil)⟩
def f_l_added (c_l_plus c_l_gathered : Nat) : Fn := ⟨"_law_added", ["_law_one", "_law_other"], ["_law_one", "_law_other", "_law_table", "_law_powers", "_law_number_here"], [],
(.cons (.own 2 (.dictOf (.var 0)))
(.cons (.for_ [3, 4] true (.seq (.e (.var 1)))
(.cons (.dset 2 (.var 3) (.call c_l_plus (.cons (.v (.get (.pk 2) (.var 3) (.tup (.cons (.int 0) (.cons (.int 1) .nil))))) (.cons (.v (.var 4)) .nil))))
.nil))
(.frz 2
(.cons (.ret (.call c_l_gathered (.cons (.v (.var 2)) .nil)))
.nil))))⟩
def f_l_product (c_l_times c_l_added : Nat) : Fn := ⟨"_law_product", ["_law_one", "_law_other"], ["_law_one", "_law_other", "_law_found", "_law_powers", "_law_number_here", "_law_part", "_law_own", "_law_more", "_law_a", "_law_b"], [],
(.cons (.asg 2 (.tup .nil))
(.cons (.for_ [3, 4] true (.seq (.e (.var 0)))
(.cons (.asg 5 (.fre (.comp (.tup (.cons (.b1 .tuple (.e (.fre (.comp (.bin .add (.var 8) (.var 9)) [8, 9] true (.zip (.var 3) (.var 6)) .none)))) (.cons (.call c_l_times (.cons (.v (.var 4)) (.cons (.v (.var 7)) .nil))) .nil))) [6, 7] true (.seq (.e (.var 1))) .none)))
(.cons (.asg 2 (.call c_l_added (.cons (.v (.var 2)) (.cons (.v (.var 5)) .nil))))
.nil)))
(.cons (.ret (.var 2))
.nil)))⟩
def f_l_turned : Fn := ⟨"_law_turned", ["_law_poly_here"], ["_law_poly_here", "_law_powers", "_law_number_here"], [],
(.cons (.ret (.b1 .tuple (.e (.fre (.comp (.tup (.cons (.var 1) (.cons (.tup (.cons (.bin .sub (.int 0) (.ix (.e (.var 2)) (.int 0))) (.cons (.ix (.e (.var 2)) (.int 1)) .nil))) .nil))) [1, 2] true (.seq (.e (.var 0))) .none)))))
.nil)⟩
def f_to_power (c_times : Nat) : Fn := ⟨"to_power", ["number", "k"], ["number", "k", "found", "turn"], [],
(.cons (.asg 2 (.glob "ONE" (.tuple [.int 1, .int 1])))
(.cons (.for_ [3] false (.rng1 (.var 1))
(.cons (.asg 2 (.call c_times (.cons (.v (.var 2)) (.cons (.v (.var 0)) .nil))))
.nil))
(.cons (.ret (.var 2))
.nil)))⟩
def f_value (c_times c_to_power c_plus : Nat) : Fn := ⟨"value", ["poly", "point"], ["poly", "point", "found", "powers", "number", "k", "one"], [],
(.cons (.asg 2 (.glob "NOUGHT" (.tuple [.int 0, .int 1])))
(.cons (.for_ [3, 4] true (.seq (.e (.var 0)))
(.cons (.for_ [5, 6] true (.zip (.var 3) (.var 1))
(.cons (.asg 4 (.call c_times (.cons (.v (.var 4)) (.cons (.v (.call c_to_power (.cons (.v (.var 6)) (.cons (.v (.var 5)) .nil)))) .nil))))
.nil))
(.cons (.asg 2 (.call c_plus (.cons (.v (.var 2)) (.cons (.v (.var 4)) .nil))))
.nil)))
(.cons (.ret (.var 2))
.nil)))⟩
def f_lead (c_is_ahead : Nat) : Fn := ⟨"lead", ["order", "poly"], ["order", "poly", "found", "term"], [],
(.cons (.asg 2 (.ix (.e (.var 1)) (.int 0)))
(.cons (.for_ [3] false (.seq (.e (.var 1)))
(.cons (.ife (.call c_is_ahead (.cons (.v (.var 0)) (.cons (.v (.ix (.e (.var 3)) (.int 0))) (.cons (.v (.ix (.e (.var 2)) (.int 0))) .nil))))
(.cons (.asg 2 (.var 3))
.nil)
.nil)
.nil))
(.cons (.ret (.var 2))
.nil)))⟩
def f_is_free : Fn := ⟨"is_free", ["poly", "letter"], ["poly", "letter", "powers", "number"], [],
(.cons (.ret (.b1 .all (.e (.fre (.comp (.cmp .eq (.e (.ix (.e (.var 2)) (.var 1))) (.e (.int 0))) [2, 3] true (.seq (.e (.var 0))) .none)))))
.nil)⟩
def f_l_value (c_l_times c_l_plus : Nat) : Fn := ⟨"_law_value", ["_law_poly_here", "_law_point_here"], ["_law_poly_here", "_law_point_here", "_law_found", "_law_powers", "_law_number_here", "_law_k", "_law_turn"], [],
(.cons (.asg 2 (.tup (.cons (.int 0) (.cons (.int 1) .nil))))
(.cons (.for_ [3, 4] true (.seq (.e (.var 0)))
(.cons (.for_ [5] false (.rng1 (.b1 .len (.e (.var 1))))
(.cons (.for_ [6] false (.rng1 (.ix (.e (.var 3)) (.var 5)))
(.cons (.asg 4 (.call c_l_times (.cons (.v (.var 4)) (.cons (.v (.ix (.e (.var 1)) (.var 5))) .nil))))
.nil))
.nil))
(.cons (.asg 2 (.call c_l_plus (.cons (.v (.var 2)) (.cons (.v (.var 4)) .nil))))
.nil)))
(.cons (.ret (.var 2))
.nil)))⟩
def f_l_key_2 : Fn := ⟨"_law_key", ["_law_order_here", "_law_powers"], ["_law_order_here", "_law_powers", "_law_own", "_law_letter"], [],
(.cons (.asg 2 (.fre (.comp (.ix (.e (.var 1)) (.var 3)) [3] false (.seq (.e (.ix (.e (.var 0)) (.int 1)))) .none)))
(.cons (.ret (.ife (.cmp .eq (.e (.ix (.e (.var 0)) (.int 0))) (.e (.str "total"))) (.bin .add (.fre (.disp (.cons (.b1 .sum (.e (.var 2))) .nil))) (.var 2)) (.var 2)))
.nil))⟩
def f_l_point (c_l_draw : Nat) : Fn := ⟨"_law_point", ["_law_tape_here", "_law_n"], ["_law_tape_here", "_law_n", "_law_some", "_law_k"], [0],
(.cons (.asg 2 (.fre (.disp (.cons (.tup (.cons (.int 0) (.cons (.int 1) .nil))) (.cons (.tup (.cons (.int 1) (.cons (.int 1) .nil))) (.cons (.tup (.cons (.neg (.int 1)) (.cons (.int 1) .nil))) (.cons (.tup (.cons (.int 2) (.cons (.int 1) .nil))) (.cons (.tup (.cons (.int 1) (.cons (.int 2) .nil))) (.cons (.tup (.cons (.neg (.int 3)) (.cons (.int 5) .nil))) .nil)))))))))
(.cons (.ret (.b1 .tuple (.e (.fre (.comp (.ix (.e (.var 2)) (.call c_l_draw (.cons (.io 0) (.cons (.v (.int 6)) .nil)))) [3] false (.rng1 (.var 1)) .none)))))
.nil))⟩
def f_put_in (c_times c_to_power c_gathered : Nat) : Fn := ⟨"put_in", ["poly", "letter", "number"], ["poly", "letter", "number", "found", "powers", "own", "left"], [],
(.cons (.own 3 (.disp .nil))
(.cons (.for_ [4, 5] true (.seq (.e (.var 0)))
(.cons (.asg 6 (.bin .add (.bin .add (.sl (.e (.var 4)) .none (.some (.var 1))) (.tup (.cons (.int 0) .nil))) (.sl (.e (.var 4)) (.some (.bin .add (.var 1) (.int 1))) .none)))
(.cons (.app 3 (.tup (.cons (.var 6) (.cons (.call c_times (.cons (.v (.var 5)) (.cons (.v (.call c_to_power (.cons (.v (.var 2)) (.cons (.v (.ix (.e (.var 4)) (.var 1))) .nil)))) .nil))) .nil))))
.nil)))
(.frz 3
(.cons (.ret (.call c_gathered (.cons (.v (.var 3)) .nil)))
.nil))))⟩
def f_widened : Fn := ⟨"widened", ["poly"], ["poly", "powers", "number"], [],
(.cons (.ret (.b1 .tuple (.e (.fre (.comp (.tup (.cons (.bin .add (.var 1) (.tup (.cons (.int 0) .nil))) (.cons (.var 2) .nil))) [1, 2] true (.seq (.e (.var 0))) .none)))))
.nil)⟩
def f_narrowed : Fn := ⟨"narrowed", ["poly"], ["poly", "powers", "number"], [],
(.cons (.ret (.b1 .tuple (.e (.fre (.comp (.tup (.cons (.sl (.e (.var 1)) .none (.some (.neg (.int 1)))) (.cons (.var 2) .nil))) [1, 2] true (.seq (.e (.var 0))) .none)))))
.nil)⟩
def f_l_put (c_l_times c_l_plus c_l_gathered : Nat) : Fn := ⟨"_law_put", ["_law_poly_here", "_law_letter", "_law_number_here"], ["_law_poly_here", "_law_letter", "_law_number_here", "_law_table", "_law_powers", "_law_own", "_law_turn", "_law_left", "_law_k"], [],
(.cons (.own 3 .dict0)
(.cons (.for_ [4, 5] true (.seq (.e (.var 0)))
(.cons (.for_ [6] false (.rng1 (.ix (.e (.var 4)) (.var 1)))
(.cons (.asg 5 (.call c_l_times (.cons (.v (.var 5)) (.cons (.v (.var 2)) .nil))))
.nil))
(.cons (.asg 7 (.b1 .tuple (.e (.fre (.comp (.ife (.cmp .eq (.e (.var 8)) (.e (.var 1))) (.int 0) (.ix (.e (.var 4)) (.var 8))) [8] false (.rng1 (.b1 .len (.e (.var 4)))) .none)))))
(.cons (.dset 3 (.var 7) (.call c_l_plus (.cons (.v (.get (.pk 3) (.var 7) (.tup (.cons (.int 0) (.cons (.int 1) .nil))))) (.cons (.v (.var 5)) .nil))))
.nil))))
(.frz 3
(.cons (.ret (.call c_l_gathered (.cons (.v (.var 3)) .nil)))
.nil))))⟩
def f_is_count : Fn := ⟨"is_count", ["thing"], ["thing"], [],
(.cons (.ret (.and (.cons (.isi (.var 0) .int) (.cons (.not (.isi (.var 0) .bool)) .nil))))
.nil)⟩
def f_is_ratio (c_is_count c_shared : Nat) : Fn := ⟨"is_ratio", ["thing"], ["thing"], [],
(.cons (.ife (.or (.cons (.not (.isi (.var 0) .tuple)) (.cons (.cmp .ne (.e (.b1 .len (.e (.var 0)))) (.e (.int 2))) (.cons (.not (.call c_is_count (.cons (.v (.ix (.e (.var 0)) (.int 0))) .nil))) (.cons (.not (.call c_is_count (.cons (.v (.ix (.e (.var 0)) (.int 1))) .nil))) .nil)))))
(.cons (.ret (.bl false))
.nil)
.nil)
(.cons (.ret (.and (.cons (.cmp .ge (.e (.ix (.e (.var 0)) (.int 1))) (.e (.int 1))) (.cons (.cmp .eq (.e (.call c_shared (.cons (.v (.b1 .abs (.e (.ix (.e (.var 0)) (.int 0))))) (.cons (.v (.ix (.e (.var 0)) (.int 1))) .nil)))) (.e (.int 1))) .nil))))
.nil))⟩
def f_are_powers (c_is_count : Nat) : Fn := ⟨"are_powers", ["n", "thing"], ["n", "thing", "one"], [],
(.cons (.ife (.or (.cons (.not (.isi (.var 1) .tuple)) (.cons (.cmp .ne (.e (.b1 .len (.e (.var 1)))) (.e (.var 0))) .nil)))
(.cons (.ret (.bl false))
.nil)
.nil)
(.cons (.ret (.b1 .all (.e (.fre (.comp (.and (.cons (.call c_is_count (.cons (.v (.var 2)) .nil)) (.cons (.cmp .ge (.e (.var 2)) (.e (.int 0))) .nil))) [2] false (.seq (.e (.var 1))) .none)))))
.nil))⟩
def f_is_term (c_are_powers c_is_ratio : Nat) : Fn := ⟨"is_term", ["n", "thing"], ["n", "thing"], [],
(.cons (.ife (.or (.cons (.not (.isi (.var 1) .tuple)) (.cons (.cmp .ne (.e (.b1 .len (.e (.var 1)))) (.e (.int 2))) (.cons (.not (.call c_are_powers (.cons (.v (.var 0)) (.cons (.v (.ix (.e (.var 1)) (.int 0))) .nil)))) .nil))))
(.cons (.ret (.bl false))
.nil)
.nil)
(.cons (.ret (.and (.cons (.call c_is_ratio (.cons (.v (.ix (.e (.var 1)) (.int 1))) .nil)) (.cons (.cmp .ne (.e (.ix (.e (.var 1)) (.int 1))) (.e (.glob "NOUGHT" (.tuple [.int 0, .int 1])))) .nil))))
.nil))⟩
def f_is_poly (c_is_term : Nat) : Fn := ⟨"is_poly", ["n", "thing"], ["n", "thing", "k", "term"], [],
(.cons (.ife (.or (.cons (.not (.isi (.var 1) .tuple)) (.cons (.not (.b1 .all (.e (.fre (.comp (.call c_is_term (.cons (.v (.var 0)) (.cons (.v (.var 3)) .nil))) [3] false (.seq (.e (.var 1))) .none))))) .nil)))
(.cons (.ret (.bl false))
.nil)
.nil)
(.cons (.ret (.b1 .all (.e (.fre (.comp (.cmp .gt (.e (.ix (.e (.ix (.e (.var 1)) (.bin .sub (.var 2) (.int 1)))) (.int 0))) (.e (.ix (.e (.ix (.e (.var 1)) (.var 2))) (.int 0)))) [2] false (.rng2 (.int 1) (.b1 .len (.e (.var 1)))) .none)))))
.nil))⟩
def f_one_of : Fn := ⟨"one_of", ["n"], ["n"], [],
(.cons (.ret (.tup (.cons (.tup (.cons (.bin .mul (.tup (.cons (.int 0) .nil)) (.var 0)) (.cons (.glob "ONE" (.tuple [.int 1, .int 1])) .nil))) .nil)))
.nil)⟩
def f_raised (c_one_of c_product : Nat) : Fn := ⟨"raised", ["n", "poly", "k"], ["n", "poly", "k", "found", "turn"], [],
(.cons (.asg 3 (.call c_one_of (.cons (.v (.var 0)) .nil)))
(.cons (.for_ [4] false (.rng1 (.var 2))
(.cons (.asg 3 (.call c_product (.cons (.v (.var 3)) (.cons (.v (.var 1)) .nil))))
.nil))
(.cons (.ret (.var 3))
.nil)))⟩
def f_l_minus (c_l_ratio : Nat) : Fn := ⟨"_law_minus", ["_law_one", "_law_other"], ["_law_one", "_law_other"], [],
(.cons (.ret (.call c_l_ratio (.cons (.v (.bin .sub (.bin .mul (.ix (.e (.var 0)) (.int 0)) (.ix (.e (.var 1)) (.int 1))) (.bin .mul (.ix (.e (.var 1)) (.int 0)) (.ix (.e (.var 0)) (.int 1))))) (.cons (.v (.bin .mul (.ix (.e (.var 0)) (.int 1)) (.ix (.e (.var 1)) (.int 1)))) .nil))))
.nil)⟩
def f_l_points : Fn := ⟨"_law_points", ["_law_n", "_law_wide"], ["_law_n", "_law_wide", "_law_found", "_law_k", "_law_longer", "_law_point_here", "_law_number_here"], [],
(.cons (.asg 2 (.fre (.disp (.cons (.tup .nil) .nil))))
(.cons (.for_ [3] false (.rng1 (.var 0))
(.cons (.own 4 (.disp .nil))
(.cons (.for_ [5] false (.seq (.e (.var 2)))
(.cons (.ext 4 (.fre (.comp (.bin .add (.var 5) (.tup (.cons (.tup (.cons (.var 6) (.cons (.int 1) .nil))) .nil))) [6] false (.rng1 (.bin .add (.var 1) (.int 1))) .none)))
.nil))
(.frz 4
(.cons (.asg 2 (.var 4))
.nil)))))
(.cons (.ret (.var 2))
.nil)))⟩
def f_l_at (c_l_value c_l_minus c_lessened c_l_plus c_added c_l_times c_product c_raised c_put_in c_is_poly : Nat) : Fn := ⟨"_law_at", ["_law_point_here", "_law_one", "_law_other", "_law_third"], ["_law_point_here", "_law_one", "_law_other", "_law_third", "_law_pairs", "_law_letter", "_law_a", "_law_b", "_law_c", "_law_poly_here", "_law_due"], [],
(.cons (.unp [6, 7, 8] (.tup (.cons (.call c_l_value (.cons (.v (.var 1)) (.cons (.v (.var 0)) .nil))) (.cons (.call c_l_value (.cons (.v (.var 2)) (.cons (.v (.var 0)) .nil))) (.cons (.call c_l_value (.cons (.v (.var 3)) (.cons (.v (.var 0)) .nil))) .nil)))))
(.cons (.own 4 (.disp (.cons (.tup (.cons (.call c_added (.cons (.v (.var 1)) (.cons (.v (.var 2)) .nil))) (.cons (.call c_l_plus (.cons (.v (.var 6)) (.cons (.v (.var 7)) .nil))) .nil))) (.cons (.tup (.cons (.call c_lessened (.cons (.v (.var 1)) (.cons (.v (.var 2)) .nil))) (.cons (.call c_l_minus (.cons (.v (.var 6)) (.cons (.v (.var 7)) .nil))) .nil))) .nil))))
(.cons (.own 4 (.cat (.pk 4) (.e (.fre (.disp (.cons (.tup (.cons (.call c_product (.cons (.v (.var 1)) (.cons (.v (.var 2)) .nil))) (.cons (.call c_l_times (.cons (.v (.var 6)) (.cons (.v (.var 7)) .nil))) .nil))) .nil))))))
(.cons (.own 4 (.cat (.pk 4) (.e (.fre (.disp (.cons (.tup (.cons (.call c_product (.cons (.v (.call c_added (.cons (.v (.var 1)) (.cons (.v (.var 2)) .nil)))) (.cons (.v (.var 3)) .nil))) (.cons (.call c_l_times (.cons (.v (.call c_l_plus (.cons (.v (.var 6)) (.cons (.v (.var 7)) .nil)))) (.cons (.v (.var 8)) .nil))) .nil))) .nil))))))
(.cons (.own 4 (.cat (.pk 4) (.e (.fre (.disp (.cons (.tup (.cons (.call c_raised (.cons (.v (.b1 .len (.e (.var 0)))) (.cons (.v (.var 1)) (.cons (.v (.int 3)) .nil)))) (.cons (.call c_l_times (.cons (.v (.var 6)) (.cons (.v (.call c_l_times (.cons (.v (.var 6)) (.cons (.v (.var 6)) .nil)))) .nil))) .nil))) .nil))))))
(.cons (.for_ [5] false (.rng1 (.b1 .len (.e (.var 0))))
(.cons (.app 4 (.tup (.cons (.call c_put_in (.cons (.v (.var 1)) (.cons (.v (.var 5)) (.cons (.v (.ix (.e (.var 0)) (.var 5))) .nil)))) (.cons (.var 6) .nil))))
.nil))
(.cons (.for_ [9, 10] true (.seq (.pk 4))
(.cons (.ife (.or (.cons (.not (.call c_is_poly (.cons (.v (.b1 .len (.e (.var 0)))) (.cons (.v (.var 9)) .nil)))) (.cons (.cmp .ne (.e (.call c_l_value (.cons (.v (.var 9)) (.cons (.v (.var 0)) .nil)))) (.e (.var 10))) .nil)))
(.cons (.ret (.bl false))
.nil)
.nil)
.nil))
(.cons (.ret (.bl true))
.nil))))))))⟩
end Lb
set_option Elab.async false
set_option linter.all false
set_option maxRecDepth 100000
set_option autoImplicit false
set_option maxHeartbeats 1000000
namespace Mn
open PySem PySem.Spec Lb
open scoped Rat
/-! ## ratios -/
def ratD (q : Rat) : D := .tuple [.int q.num, .int (q.den : Int)]
@[simp] theorem ix_rat0 (q : Rat) : ixD (ratD q) (.int 0) = some (.int q.num) := rfl
@[simp] theorem ix_rat1 (q : Rat) : ixD (ratD q) (.int 1) = some (.int (q.den : Int)) := rfl
@[simp] theorem isPair_rat (q : Rat) : isPair (ratD q) = false := rfl
/-- small enough to be reckoned with -/
def RB (q : Rat) : Prop := q.num.natAbs < 2 ^ 4000 ∧ q.den < 2 ^ 4000
theorem pow_up {n a b : Nat} (h : n < 2 ^ a) (hab : a ≤ b) : n < 2 ^ b := Nat.lt_of_lt_of_le h (Nat.pow_le_pow_right (by decide) hab)
theorem mulOk_pow {i j : Int} {a b : Nat} (hi : i.natAbs < 2 ^ a) (hj : j.natAbs < 2 ^ b) (ha : a ≤ 400000) (hb : b ≤ 400000) : mulOk i j = true := mulOk_small (pow_up hi ha) (pow_up hj hb)
theorem mul_abs {i j : Int} {a b : Nat} (hi : i.natAbs < 2 ^ a) (hj : j.natAbs < 2 ^ b) : (i * j).natAbs < 2 ^ (a + b) := by
  rw [Int.natAbs_mul, Nat.pow_add]
  exact Nat.mul_lt_mul'' hi hj
theorem add_abs {i j : Int} {a : Nat} (hi : i.natAbs < 2 ^ a) (hj : j.natAbs < 2 ^ a) : (i + j).natAbs < 2 ^ (a + 1) := by
  rw [Nat.pow_succ]
  have := Int.natAbs_add_le i j
  omega
theorem divOk_pow {j : Int} {a : Nat} (h0 : j ≠ 0) (h : j.natAbs < 2 ^ a) (ha : a ≤ 8900) : divOk j = true := by
  unfold divOk
  have : j.natAbs.log2 < a := (Nat.log2_lt (by omega)).mpr h
  rw [Bool.and_eq_true, decide_eq_true_eq, decide_eq_true_eq]
  exact ⟨h0, by omega⟩
/-- the greatest common divisor -/
def GcdS (G : List Sl → FR) : Prop := ∀ a b : Nat, b < 2 ^ 8900 → G [.val (.int a), .val (.int b)] = .ok (.int (Nat.gcd a b)) []
def slotI (i : Nat) (μ : Mu) : Nat := match look μ i with
  | some (.int j) => j.toNat
  | _ => 0
theorem fmod_nat {a b : Nat} (h : 0 < b) : (a : Int).fmod (b : Int) = ((a % b : Nat) : Int) := by
  rw [Int.fmod_eq_emod_of_nonneg _ (by omega)]; rfl
theorem gcd_loop (F : Nat → List Sl → FR) (W : Nat) (c : E) (b : Ss) (hc : ∀ x y : Nat, bitOf (ev F c [.val (.int x), .val (.int y)]) = .ok (decide (0 < y)) [.val (.int x), .val (.int y)])
    (hb : ∀ x y : Nat, 0 < y → execs F W b [.val (.int x), .val (.int y)] = .ok .nx [.val (.int y), .val (.int ((x % y : Nat) : Int))]) (x y n : Nat) (hn : y < n) (Q : Fl → Mu → Prop) (hQ : Q .nx [.val (.int (Nat.gcd x y : Nat)), .val (.int 0)]) : (whlL (testB F c) (execs F W b) n [.val (.int x), .val (.int y)]).wp Q := by
  refine wp_whlL (fun μ => ∃ a c : Nat, μ = [.val (.int a), .val (.int c)] ∧ Nat.gcd a c = Nat.gcd x y) (slotI 1) ?_ n _ ⟨x, y, rfl, rfl⟩ hn
  rintro μ Q' ⟨a, c', rfl, hg⟩ k1 k2
  have e := hc a c'
  rw [testB_at, e, wp_ok]
  by_cases h : 0 < c'
  · rw [decide_eq_true h]
    refine k2 _ fun Q2 k3 => ?_
    rw [hb a c' h, wp_ok]
    refine k3 _ ⟨c', a % c', rfl, ?_⟩ ?_
    · rw [← hg, Nat.gcd_comm c', Nat.gcd_comm a, ← Nat.gcd_rec]
    · show ((a % c' : Nat) : Int).toNat < (c' : Int).toNat
      rw [Int.toNat_natCast, Int.toNat_natCast]
      exact Nat.mod_lt _ h
  · rw [decide_eq_false h]
    have z : c' = 0 := by omega
    subst z
    rw [Nat.gcd_zero_right] at hg
    subst hg
    exact k1 _ hQ
theorem gcdS1 (F : Nat → List Sl → FR) (W : Nat) (hW : 2 ^ 9000 ≤ W) : GcdS (runFn F W f_shared) := by
  intro a b hb
  suffices hw : (runFn F W f_shared [.val (.int a), .val (.int b)]).wp fun d o => d = .int (Nat.gcd a b : Nat) ∧ o = [] by
    obtain ⟨_, _, e, rfl, rfl⟩ := FR.wp_elim hw
    exact e
  refine wp_run rfl rfl ?_
  simp -implicitDefEqProofs [f_shared]
  refine gcd_loop F W _ _ (fun x y => ?_) (fun x y h => ?_) a b W (Nat.lt_of_lt_of_le hb (Nat.le_trans (Nat.pow_le_pow_right (by decide) (by decide)) hW)) _ ?_
  · simp -implicitDefEqProofs
  · have e : modD (.int (x : Int)) (.int (y : Int)) = some (.int ((x % y : Nat) : Int)) := by rw [modD_int (by omega), fmod_nat h]
    simp -implicitDefEqProofs [e]
  · simp -implicitDefEqProofs [f_shared, outsOf]
theorem gcdS2 (F : Nat → List Sl → FR) (W : Nat) (hW : 2 ^ 9000 ≤ W) : GcdS (runFn F W f_l_gcd) := by
  intro a b hb
  suffices hw : (runFn F W f_l_gcd [.val (.int a), .val (.int b)]).wp fun d o => d = .int (Nat.gcd a b : Nat) ∧ o = [] by
    obtain ⟨_, _, e, rfl, rfl⟩ := FR.wp_elim hw
    exact e
  refine wp_run rfl rfl ?_
  simp -implicitDefEqProofs [f_l_gcd]
  refine gcd_loop F W _ _ (fun x y => ?_) (fun x y h => ?_) a b W (Nat.lt_of_lt_of_le hb (Nat.le_trans (Nat.pow_le_pow_right (by decide) (by decide)) hW)) _ ?_
  · simp -implicitDefEqProofs
    by_cases z : y = 0
    · subst z; rfl
    · rw [decide_eq_false z, decide_eq_true (show 0 < y by omega)]; rfl
  · have e : modD (.int (x : Int)) (.int (y : Int)) = some (.int ((x % y : Nat) : Int)) := by rw [modD_int (by omega), fmod_nat h]
    simp -implicitDefEqProofs [e]
  · simp -implicitDefEqProofs [f_l_gcd, outsOf]
/-- a ratio -/
def RatioS (G : List Sl → FR) : Prop := ∀ a b : Int, b ≠ 0 → a.natAbs < 2 ^ 8800 → b.natAbs < 2 ^ 8800 → G [.val (.int a), .val (.int b)] = .ok (ratD (a /. b)) []
theorem div_parts {a b : Int} (hb : b ≠ 0) : a.fdiv (b.sign * (Nat.gcd a.natAbs b.natAbs : Nat)) = (a /. b).num ∧ b.fdiv (b.sign * (Nat.gcd a.natAbs b.natAbs : Nat)) = ((a /. b).den : Int) := by
  have hg : (0 : Int) < (Nat.gcd a.natAbs b.natAbs : Nat) := by
    have := Nat.gcd_pos_of_pos_right a.natAbs (show 0 < b.natAbs by omega)
    omega
  have eg : (b.gcd a : Nat) = Nat.gcd a.natAbs b.natAbs := by
    rw [Int.gcd_comm]; rfl
  rw [Rat.num_divInt, Rat.den_divInt, if_neg hb, eg]
  generalize hgv : Nat.gcd a.natAbs b.natAbs = g at *
  have da : (g : Int) ∣ a := by rw [← hgv]; exact Int.dvd_natAbs.mp (Int.natCast_dvd_natCast.mpr (Nat.gcd_dvd_left _ _))
  have db : (g : Int) ∣ b := by rw [← hgv]; exact Int.dvd_natAbs.mp (Int.natCast_dvd_natCast.mpr (Nat.gcd_dvd_right _ _))
  obtain ⟨x, rfl⟩ := da
  obtain ⟨y, rfl⟩ := db
  have g0 : (g : Int) ≠ 0 := by omega
  have sy : ((g : Int) * y).sign = y.sign := by rw [Int.sign_mul, Int.sign_eq_one_of_pos hg, Int.one_mul]
  have y0 : y ≠ 0 := fun z => hb (by rw [z, Int.mul_zero])
  rw [sy]
  have e1 : y.sign * (↑g * x) / (g : Int) = y.sign * x := by
    rw [show y.sign * ((g : Int) * x) = (g : Int) * (y.sign * x) by rw [← Int.mul_assoc, Int.mul_comm y.sign, Int.mul_assoc], Int.mul_ediv_cancel_left _ g0]
  rw [e1]
  have e2 : ((((g : Int) * y).natAbs / g : Nat) : Int) = y.natAbs := by
    rw [Int.natAbs_mul, Int.natAbs_natCast, Nat.mul_div_cancel_left _ (by omega)]
  rw [e2]
  rcases Int.lt_or_gt_of_ne y0 with h | h
  · rw [Int.sign_eq_neg_one_of_neg h]
    constructor
    · rw [show (-1 : Int) * (g : Int) = -(g : Int) by omega, show (g : Int) * x = (-(g : Int)) * (-x) by rw [Int.neg_mul_neg], Int.mul_fdiv_cancel_left _ (by omega)]; omega
    · rw [show (-1 : Int) * (g : Int) = -(g : Int) by omega, show (g : Int) * y = (-(g : Int)) * (-y) by rw [Int.neg_mul_neg], Int.mul_fdiv_cancel_left _ (by omega)]; omega
  · rw [Int.sign_eq_one_of_pos h, Int.one_mul, Int.one_mul]
    constructor
    · rw [Int.mul_fdiv_cancel_left _ g0]
    · rw [Int.mul_fdiv_cancel_left _ g0]; omega
theorem gcd_abs {a b : Int} (hb : b ≠ 0) (h : b.natAbs < 2 ^ 8800) : divOk (Nat.gcd a.natAbs b.natAbs : Nat) = true ∧ divOk (-((Nat.gcd a.natAbs b.natAbs : Nat) : Int)) = true := by
  have hp := Nat.gcd_pos_of_pos_right a.natAbs (show 0 < b.natAbs by omega)
  have hl : Nat.gcd a.natAbs b.natAbs ≤ b.natAbs := Nat.gcd_le_right _ (by omega)
  generalize Nat.gcd a.natAbs b.natAbs = g at *
  have : g < 2 ^ 8800 := Nat.lt_of_le_of_lt hl h
  exact ⟨divOk_pow (a := 8800) (by omega) (by rw [Int.natAbs_natCast]; exact this) (by decide), divOk_pow (a := 8800) (by omega) (by rw [Int.natAbs_neg, Int.natAbs_natCast]; exact this) (by decide)⟩
theorem ratioS1 (F : Nat → List Sl → FR) (W c : Nat) (hg : GcdS (F c)) : RatioS (runFn F W (f_ratio c)) := by
  intro a b hb ha hb2
  rw [runFn_at rfl rfl]
  obtain ⟨p1, p2⟩ := div_parts (a := a) hb
  obtain ⟨d1, d2⟩ := gcd_abs (a := a) hb hb2
  have e := hg a.natAbs b.natAbs (pow_up hb2 (by decide))
  generalize Nat.gcd a.natAbs b.natAbs = g at *
  rcases Int.lt_or_gt_of_ne hb with h | h
  · rw [Int.sign_eq_neg_one_of_neg h, show (-1 : Int) * (g : Int) = -(g : Int) by omega] at p1 p2
    have f1 := fdivD_int (i := a) d2
    have f2 := fdivD_int (i := b) d2
    rw [p1] at f1
    rw [p2] at f2
    simp -implicitDefEqProofs [f_ratio, hb, e, h, f1, f2, outsOf, ratD]
  · rw [Int.sign_eq_one_of_pos h, Int.one_mul] at p1 p2
    have f1 := fdivD_int (i := a) d1
    have f2 := fdivD_int (i := b) d1
    rw [p1] at f1
    rw [p2] at f2
    have h' : ¬ b < 0 := by omega
    simp -implicitDefEqProofs [f_ratio, hb, e, h', f1, f2, outsOf, ratD]
theorem ratioS2 (F : Nat → List Sl → FR) (W c : Nat) (hg : GcdS (F c)) : RatioS (runFn F W (f_l_ratio c)) := by
  intro a b hb ha hb2
  rw [runFn_at rfl rfl]
  obtain ⟨p1, p2⟩ := div_parts (a := a) hb
  obtain ⟨d1, d2⟩ := gcd_abs (a := a) hb hb2
  have e := hg a.natAbs b.natAbs (pow_up hb2 (by decide))
  generalize Nat.gcd a.natAbs b.natAbs = g at *
  rcases Int.lt_or_gt_of_ne hb with h | h
  · rw [Int.sign_eq_neg_one_of_neg h, show (-1 : Int) * (g : Int) = -(g : Int) by omega] at p1 p2
    have f1 := fdivD_int (i := a) d2
    have f2 := fdivD_int (i := b) d2
    rw [p1] at f1
    rw [p2] at f2
    simp -implicitDefEqProofs [f_l_ratio, hb, e, h, f1, f2, outsOf, ratD]
  · rw [Int.sign_eq_one_of_pos h, Int.one_mul] at p1 p2
    have f1 := fdivD_int (i := a) d1
    have f2 := fdivD_int (i := b) d1
    rw [p1] at f1
    rw [p2] at f2
    have h' : ¬ b < 0 := by omega
    simp -implicitDefEqProofs [f_l_ratio, hb, e, h', f1, f2, outsOf, ratD]
/-! sums, differences, products -/
def Rat2 (G : List Sl → FR) (g : Rat → Rat → Rat) : Prop := ∀ a b : Rat, RB a → RB b → G [.val (ratD a), .val (ratD b)] = .ok (ratD (g a b)) []
section
variable {a b : Rat}
theorem RB.dn (h : RB a) : ((a.den : Int)).natAbs < 2 ^ 4000 := by rw [Int.natAbs_natCast]; exact h.2
theorem den_ne (a : Rat) : (a.den : Int) ≠ 0 := by have := a.den_nz; omega
theorem den_mul_ne (a b : Rat) : (a.den : Int) * b.den ≠ 0 := Int.mul_ne_zero (den_ne a) (den_ne b)
theorem add_rat (a b : Rat) : (a.num * b.den + b.num * a.den) /. ((a.den : Int) * b.den) = a + b := by
  rw [Rat.add_def', ← Rat.divInt_ofNat]; rw [Int.natCast_mul]
theorem sub_rat (a b : Rat) : (a.num * b.den - b.num * a.den) /. ((a.den : Int) * b.den) = a - b := by
  rw [Rat.sub_def', ← Rat.divInt_ofNat]; rw [Int.natCast_mul]
theorem mul_rat (a b : Rat) : (a.num * b.num) /. ((a.den : Int) * b.den) = a * b := by
  rw [Rat.mul_def', ← Rat.divInt_ofNat]; rw [Int.natCast_mul]
theorem RB.neg (h : RB a) : RB (-a) := ⟨by rw [Rat.neg_num, Int.natAbs_neg]; exact h.1, by rw [Rat.neg_den]; exact h.2⟩
end
theorem plusS1 (F : Nat → List Sl → FR) (W c : Nat) (hr : RatioS (F c)) : Rat2 (runFn F W (f_plus c)) (· + ·) := by
  intro a b ha hb
  rw [runFn_at rfl rfl]
  have m1 := mulD_int (mulOk_pow ha.1 hb.dn (by decide) (by decide))
  have m2 := mulD_int (mulOk_pow hb.1 ha.dn (by decide) (by decide))
  have m3 := mulD_int (mulOk_pow ha.dn hb.dn (by decide) (by decide))
  have e := hr (a.num * b.den + b.num * a.den) ((a.den : Int) * b.den) (den_mul_ne a b) (pow_up (add_abs (mul_abs ha.1 hb.dn) (mul_abs hb.1 ha.dn)) (by decide)) (pow_up (mul_abs ha.dn hb.dn) (by decide))
  rw [add_rat] at e
  simp -implicitDefEqProofs [f_plus, m1, m2, m3, e, outsOf]
theorem plusS2 (F : Nat → List Sl → FR) (W c : Nat) (hr : RatioS (F c)) : Rat2 (runFn F W (f_l_plus c)) (· + ·) := by
  intro a b ha hb
  rw [runFn_at rfl rfl]
  have m1 := mulD_int (mulOk_pow ha.1 hb.dn (by decide) (by decide))
  have m2 := mulD_int (mulOk_pow hb.1 ha.dn (by decide) (by decide))
  have m3 := mulD_int (mulOk_pow ha.dn hb.dn (by decide) (by decide))
  have e := hr (a.num * b.den + b.num * a.den) ((a.den : Int) * b.den) (den_mul_ne a b) (pow_up (add_abs (mul_abs ha.1 hb.dn) (mul_abs hb.1 ha.dn)) (by decide)) (pow_up (mul_abs ha.dn hb.dn) (by decide))
  rw [add_rat] at e
  simp -implicitDefEqProofs [f_l_plus, m1, m2, m3, e, outsOf]
theorem timesS1 (F : Nat → List Sl → FR) (W c : Nat) (hr : RatioS (F c)) : Rat2 (runFn F W (f_times c)) (· * ·) := by
  intro a b ha hb
  rw [runFn_at rfl rfl]
  have m1 := mulD_int (mulOk_pow ha.1 hb.1 (by decide) (by decide))
  have m3 := mulD_int (mulOk_pow ha.dn hb.dn (by decide) (by decide))
  have e := hr (a.num * b.num) ((a.den : Int) * b.den) (den_mul_ne a b) (pow_up (mul_abs ha.1 hb.1) (by decide)) (pow_up (mul_abs ha.dn hb.dn) (by decide))
  rw [mul_rat] at e
  simp -implicitDefEqProofs [f_times, m1, m3, e, outsOf]
theorem timesS2 (F : Nat → List Sl → FR) (W c : Nat) (hr : RatioS (F c)) : Rat2 (runFn F W (f_l_times c)) (· * ·) := by
  intro a b ha hb
  rw [runFn_at rfl rfl]
  have m1 := mulD_int (mulOk_pow ha.1 hb.1 (by decide) (by decide))
  have m3 := mulD_int (mulOk_pow ha.dn hb.dn (by decide) (by decide))
  have e := hr (a.num * b.num) ((a.den : Int) * b.den) (den_mul_ne a b) (pow_up (mul_abs ha.1 hb.1) (by decide)) (pow_up (mul_abs ha.dn hb.dn) (by decide))
  rw [mul_rat] at e
  simp -implicitDefEqProofs [f_l_times, m1, m3, e, outsOf]
theorem minusS1 (F : Nat → List Sl → FR) (W c : Nat) (hp : Rat2 (F c) (· + ·)) : Rat2 (runFn F W (f_minus c)) (· - ·) := by
  intro a b ha hb
  rw [runFn_at rfl rfl]
  have e := hp a (-b) ha hb.neg
  have e' : F c [.val (ratD a), .val (.tuple [.int (0 - b.num), .int (b.den : Int)])] = .ok (ratD (a - b)) [] := by
    rw [show (0 - b.num) = (-b).num by rw [Rat.neg_num]; omega, show ((b.den : Int)) = ((-b).den : Int) by rw [Rat.neg_den]]
    refine e.trans ?_
    rw [Rat.sub_eq_add_neg]
  simp only [Int.zero_sub] at e'
  simp -implicitDefEqProofs [f_minus, e', outsOf]
theorem minusS2 (F : Nat → List Sl → FR) (W c : Nat) (hr : RatioS (F c)) : Rat2 (runFn F W (f_l_minus c)) (· - ·) := by
  intro a b ha hb
  rw [runFn_at rfl rfl]
  have m1 := mulD_int (mulOk_pow ha.1 hb.dn (by decide) (by decide))
  have m2 := mulD_int (mulOk_pow hb.1 ha.dn (by decide) (by decide))
  have m3 := mulD_int (mulOk_pow ha.dn hb.dn (by decide) (by decide))
  have b2 : (a.num * b.den - b.num * a.den).natAbs < 2 ^ 8800 := by
    rw [Int.sub_eq_add_neg]
    refine pow_up (add_abs (mul_abs ha.1 hb.dn) (j := -(b.num * a.den)) ?_) (by decide)
    rw [Int.natAbs_neg]; exact mul_abs hb.1 ha.dn
  have e := hr (a.num * b.den - b.num * a.den) ((a.den : Int) * b.den) (den_mul_ne a b) b2 (pow_up (mul_abs ha.dn hb.dn) (by decide))
  rw [sub_rat] at e
  simp -implicitDefEqProofs [f_l_minus, m1, m2, m3, e, outsOf]
end Mn
set_option Elab.async false
set_option linter.all false
set_option maxRecDepth 100000
set_option autoImplicit false
set_option maxHeartbeats 1000000
namespace Mn
open PySem PySem.Spec Lb
/-! ## polynomials, plainly -/
abbrev Tm := List Int × Rat
/-- the sum of numbers times what φ tells of the powers -/
def Lf (φ : List Int → Rat) : List Tm → Rat
  | [] => 0
  | t :: ts => t.2 * φ t.1 + Lf φ ts
def dl (k : List Int) : List Int → Rat := fun l => if l = k then 1 else 0
def cf (ts : List Tm) (k : List Int) : Rat := Lf (dl k) ts
theorem Lf_append (φ : List Int → Rat) : ∀ (a b : List Tm), Lf φ (a ++ b) = Lf φ a + Lf φ b
  | [], b => by show Lf φ b = 0 + Lf φ b; grind
  | t :: a, b => by show t.2 * φ t.1 + Lf φ (a ++ b) = t.2 * φ t.1 + Lf φ a + Lf φ b; rw [Lf_append φ a b]; grind
theorem Lf_perm {φ : List Int → Rat} {a b : List Tm} (h : a.Perm b) : Lf φ a = Lf φ b := by
  induction h with
  | nil => rfl
  | cons x _ ih => show _ + _ = _ + _; rw [ih]
  | swap x y l => show y.2 * φ y.1 + (x.2 * φ x.1 + Lf φ l) = x.2 * φ x.1 + (y.2 * φ y.1 + Lf φ l); grind
  | trans _ _ i1 i2 => exact i1.trans i2
theorem Lf_filter {φ : List Int → Rat} : ∀ (a : List Tm), Lf φ (a.filter fun t => decide (t.2 ≠ 0)) = Lf φ a
  | [] => rfl
  | t :: a => by
    by_cases h : t.2 = 0
    · rw [List.filter_cons_of_neg (by simp [h]), Lf_filter a]
      show _ = t.2 * φ t.1 + Lf φ a
      rw [h]; grind
    · rw [List.filter_cons_of_pos (by simp [h])]
      show t.2 * φ t.1 + _ = t.2 * φ t.1 + _
      rw [Lf_filter a]
/-! tables -/
def tget : List Tm → List Int → Option Rat
  | [], _ => none
  | (k, r) :: t, x => if k = x then some r else tget t x
def tput : List Tm → List Int → Rat → List Tm
  | [], x, v => [(x, v)]
  | (k, r) :: t, x, v => if k = x then (k, v) :: t else (k, r) :: tput t x v
def g0 (tb : List Tm) (k : List Int) : Rat := (tget tb k).getD 0
def addT (tb : List Tm) (t : Tm) : List Tm := tput tb t.1 (g0 tb t.1 + t.2)
def accT (tb ts : List Tm) : List Tm := ts.foldl addT tb
def gathT (tb : List Tm) : List Tm := ((sortK (tb.map (·.1))).filter fun k => decide (g0 tb k ≠ 0)).map fun k => (k, g0 tb k)
def gath (ts : List Tm) : List Tm := gathT (accT [] ts)
def Nd (tb : List Tm) : Prop := (tb.map (·.1)).Nodup
theorem keys_tput (tb : List Tm) (x : List Int) (v : Rat) : (tput tb x v).map (·.1) = if x ∈ tb.map (·.1) then tb.map (·.1) else tb.map (·.1) ++ [x] := by
  induction tb with
  | nil => simp [tput]
  | cons t tb ih =>
    obtain ⟨k, r⟩ := t
    unfold tput
    by_cases h : k = x
    · subst h; simp
    · rw [if_neg h]
      have h' : ¬ x = k := fun z => h z.symm
      simp only [List.map_cons, ih, List.mem_cons, h', false_or]
      split <;> rfl
theorem Nd.tput {tb : List Tm} (h : Nd tb) (x : List Int) (v : Rat) : Nd (tput tb x v) := by
  unfold Nd
  rw [keys_tput]
  split
  · exact h
  · rename_i q
    refine List.nodup_append.mpr ⟨h, by simp, ?_⟩
    intro a ha b hb e
    simp at hb
    subst hb e
    exact q ha
theorem Nd.accT {tb : List Tm} (h : Nd tb) (ts : List Tm) : Nd (accT tb ts) := by
  induction ts generalizing tb with
  | nil => exact h
  | cons t ts ih => exact ih (h.tput _ _)
theorem Lf_tput {φ : List Int → Rat} {tb : List Tm} (h : Nd tb) (x : List Int) (v : Rat) : Lf φ (tput tb x v) + g0 tb x * φ x = Lf φ tb + v * φ x := by
  induction tb with
  | nil => show v * φ x + 0 + 0 * φ x = 0 + v * φ x; grind
  | cons t tb ih =>
    obtain ⟨k, r⟩ := t
    unfold Nd at h
    rw [List.map_cons, List.nodup_cons] at h
    unfold tput g0 tget
    by_cases e : k = x
    · subst e
      simp only [if_true]
      show v * φ k + Lf φ tb + r * φ k = r * φ k + Lf φ tb + v * φ k
      grind
    · simp only [if_neg e]
      have := ih h.2
      unfold g0 at this
      show r * φ k + Lf φ (tput tb x v) + _ = r * φ k + Lf φ tb + v * φ x
      grind
theorem Lf_addT {φ : List Int → Rat} {tb : List Tm} (h : Nd tb) (t : Tm) : Lf φ (addT tb t) = Lf φ tb + t.2 * φ t.1 := by
  have := Lf_tput (φ := φ) h t.1 (g0 tb t.1 + t.2)
  unfold addT
  grind
theorem Lf_accT {φ : List Int → Rat} {tb : List Tm} (h : Nd tb) (ts : List Tm) : Lf φ (accT tb ts) = Lf φ tb + Lf φ ts := by
  induction ts generalizing tb with
  | nil => show Lf φ tb = Lf φ tb + 0; grind
  | cons t ts ih =>
    show Lf φ (accT (addT tb t) ts) = _
    rw [ih (show Nd (addT tb t) from h.tput _ _), Lf_addT h]
    show _ = Lf φ tb + (t.2 * φ t.1 + Lf φ ts)
    grind
theorem map_g0 : ∀ {tb : List Tm}, Nd tb → (tb.map (·.1)).map (fun k => (k, g0 tb k)) = tb
  | [], _ => rfl
  | (k, r) :: tb, h => by
    unfold Nd at h
    rw [List.map_cons, List.nodup_cons] at h
    rw [List.map_cons, List.map_cons]
    have e0 : g0 ((k, r) :: tb) k = r := by unfold g0 tget; rw [if_pos rfl]; rfl
    have e1 : (tb.map (·.1)).map (fun l => (l, g0 ((k, r) :: tb) l)) = (tb.map (·.1)).map (fun l => (l, g0 tb l)) := by
      apply List.map_congr_left
      intro l hl
      have : ¬ k = l := fun z => h.1 (z ▸ hl)
      have : g0 ((k, r) :: tb) l = g0 tb l := by unfold g0; rw [tget, if_neg this]
      rw [this]
    rw [e1, map_g0 h.2]
    show (k, g0 ((k, r) :: tb) k) :: tb = _
    rw [e0]
theorem filter_map_g0 (tb : List Tm) : ∀ (ks : List (List Int)), (ks.filter fun k => decide (g0 tb k ≠ 0)).map (fun k => (k, g0 tb k)) = (ks.map fun k => (k, g0 tb k)).filter fun t => decide (t.2 ≠ 0)
  | [] => rfl
  | k :: ks => by
    by_cases h : g0 tb k = 0
    · rw [List.filter_cons_of_neg (by simp [h]), List.map_cons, List.filter_cons_of_neg (by simp [h]), filter_map_g0 tb ks]
    · rw [List.filter_cons_of_pos (by simp [h]), List.map_cons, List.map_cons, List.filter_cons_of_pos (by simp [h]), filter_map_g0 tb ks]
theorem Lf_gathT {φ : List Int → Rat} {tb : List Tm} (h : Nd tb) : Lf φ (gathT tb) = Lf φ tb := by
  unfold gathT
  rw [filter_map_g0, Lf_filter]
  have p : (sortK (tb.map (·.1))).Perm (tb.map (·.1)) := List.mergeSort_perm _ _
  rw [Lf_perm (p.map fun k => (k, g0 tb k)), map_g0 h]
theorem Lf_gath {φ : List Int → Rat} (ts : List Tm) : Lf φ (gath ts) = Lf φ ts := by
  have nd : Nd ([] : List Tm) := List.nodup_nil
  unfold gath
  rw [Lf_gathT (nd.accT ts), Lf_accT nd]
  show 0 + _ = _
  grind
theorem cf_gath (ts : List Tm) (k : List Int) : cf (gath ts) k = cf ts k := Lf_gath ts
/-! the form -/
structure Cn2 (p : List Tm) : Prop where
  fall : p.Pairwise fun a b => b.1 < a.1
  nz : ∀ t ∈ p, t.2 ≠ 0
theorem sortK_fall {ks : List (List Int)} (h : ks.Nodup) : (sortK ks).Pairwise fun a b => b < a := by
  have p : (sortK ks).Perm ks := List.mergeSort_perm _ _
  have nd : (sortK ks).Nodup := p.nodup_iff.mpr h
  have s : (sortK ks).Pairwise fun a b => (!decide (a < b)) = true := by
    unfold sortK
    refine List.pairwise_mergeSort (fun a b c h1 h2 => ?_) (fun a b => ?_) ks
    · simp only [Bool.not_eq_true', decide_eq_false_iff_not] at *
      intro h3
      rcases lex_tri a b with q | q | q
      · exact h1 q
      · subst q; exact h2 h3
      · rcases lex_tri b c with q2 | q2 | q2
        · exact h2 q2
        · subst q2; exact lex_asym q h3
        · exact lex_asym (lex_trans q2 q) h3
    · rcases lex_tri a b with q | q | q
      · have : ¬ b < a := fun z => lex_asym q z
        simp [this]
      · subst q; simp [lex_irr]
      · have : ¬ a < b := fun z => lex_asym q z
        simp [this]
  have both := s.and nd
  refine both.imp fun {a b} ⟨h1, h2⟩ => ?_
  simp only [Bool.not_eq_true', decide_eq_false_iff_not] at h1
  rcases lex_tri a b with q | q | q
  · exact absurd q h1
  · exact absurd q h2
  · exact q
theorem cn_gathT {tb : List Tm} (h : Nd tb) : Cn2 (gathT tb) := by
  refine ⟨?_, fun t ht => ?_⟩
  · unfold gathT
    rw [List.pairwise_map]
    exact (sortK_fall h).filter _
  · unfold gathT at ht
    obtain ⟨k, hk, rfl⟩ := List.mem_map.mp ht
    have := (List.mem_filter.mp hk).2
    simpa using this
theorem cn_gath (ts : List Tm) : Cn2 (gath ts) := cn_gathT (Nd.accT (tb := []) List.nodup_nil ts)
theorem cf_small {p : List Tm} {k : List Int} (h : ∀ t ∈ p, t.1 < k) : cf p k = 0 := by
  induction p with
  | nil => rfl
  | cons t p ih =>
    have h0 := h t List.mem_cons_self
    have : ¬ t.1 = k := fun z => by rw [z] at h0; exact lex_irr _ h0
    show t.2 * dl k t.1 + cf p k = 0
    rw [ih fun u hu => h u (List.mem_cons_of_mem _ hu)]
    unfold dl
    rw [if_neg this]; grind
theorem cf_head {t : Tm} {p : List Tm} (h : Cn2 (t :: p)) : cf (t :: p) t.1 = t.2 := by
  have := cf_small (p := p) (k := t.1) fun u hu => (List.pairwise_cons.mp h.fall).1 u hu
  show t.2 * dl t.1 t.1 + cf p t.1 = t.2
  rw [this]
  unfold dl
  rw [if_pos rfl]; grind
theorem Cn2.tail {t : Tm} {p : List Tm} (h : Cn2 (t :: p)) : Cn2 p := ⟨(List.pairwise_cons.mp h.fall).2, fun u hu => h.nz u (List.mem_cons_of_mem _ hu)⟩
/-- by its numbers a polynomial is known -/
theorem cn_ext : ∀ {p q : List Tm}, Cn2 p → Cn2 q → (∀ k, cf p k = cf q k) → p = q
  | [], [], _, _, _ => rfl
  | [], t :: q, _, hq, h => by
    have := h t.1
    rw [cf_head hq] at this
    exact absurd this.symm (hq.nz t List.mem_cons_self)
  | t :: p, [], hp, _, h => by
    have := h t.1
    rw [cf_head hp] at this
    exact absurd this (hp.nz t List.mem_cons_self)
  | t :: p, u :: q, hp, hq, h => by
    have low : ∀ {a : Tm} {l : List Tm} {k : List Int}, Cn2 (a :: l) → a.1 < k → cf (a :: l) k = 0 := fun {a l k} hc hk => cf_small fun b hb => by
      rcases List.mem_cons.mp hb with rfl | hb
      · exact hk
      · exact lex_trans ((List.pairwise_cons.mp hc.fall).1 b hb) hk
    have ek : t.1 = u.1 := by
      rcases lex_tri t.1 u.1 with z | z | z
      · have := h u.1
        rw [cf_head hq, low hp z] at this
        exact absurd this.symm (hq.nz u List.mem_cons_self)
      · exact z
      · have := h t.1
        rw [cf_head hp, low hq z] at this
        exact absurd this (hp.nz t List.mem_cons_self)
    have ev : t.2 = u.2 := by
      have := h t.1
      rw [cf_head hp, ek, cf_head hq] at this
      exact this
    have et : t = u := Prod.ext ek ev
    subst et
    rw [cn_ext hp.tail hq.tail fun k => by
      have := h k
      have e : t.2 * dl k t.1 + cf p k = t.2 * dl k t.1 + cf q k := this
      grind]
theorem gath_eq {a b : List Tm} (h : ∀ k, cf a k = cf b k) : gath a = gath b := cn_ext (cn_gath a) (cn_gath b) fun k => by rw [cf_gath, cf_gath, h k]
theorem gath_self {p : List Tm} (h : Cn2 p) : gath p = p := cn_ext (cn_gath p) h fun k => cf_gath p k
theorem Cn2.nd {p : List Tm} (h : Cn2 p) : Nd p := by
  unfold Nd List.Nodup
  rw [List.pairwise_map]
  exact h.fall.imp fun {a b} q z => by rw [z] at q; exact lex_irr _ q
end Mn
set_option Elab.async false
set_option linter.all false
set_option maxRecDepth 100000
set_option autoImplicit false
set_option maxHeartbeats 1000000
namespace Mn
open PySem PySem.Spec Lb
/-! ## bounds -/
/-- times d a whole number, at most N -/
def Cd (d N : Nat) (q : Rat) : Prop := ∃ m : Int, q * (d : Rat) = (m : Rat) ∧ m.natAbs ≤ N
section
variable {d e N M : Nat} {a b : Rat}
theorem Cd.mono (h : Cd d N a) (l : N ≤ M) : Cd d M a := by
  obtain ⟨m, h1, h2⟩ := h
  exact ⟨m, h1, by omega⟩
theorem Cd.zero : Cd d N 0 := ⟨0, by grind, by simp⟩
theorem Cd.add (h : Cd d N a) (g : Cd d M b) : Cd d (N + M) (a + b) := by
  obtain ⟨m, h1, h2⟩ := h
  obtain ⟨n, g1, g2⟩ := g
  refine ⟨m + n, ?_, Nat.le_trans (Int.natAbs_add_le m n) (by omega)⟩
  rw [Rat.intCast_add, ← h1, ← g1]; grind
theorem Cd.neg (h : Cd d N a) : Cd d N (-a) := by
  obtain ⟨m, h1, h2⟩ := h
  refine ⟨-m, ?_, by rw [Int.natAbs_neg]; exact h2⟩
  rw [Rat.intCast_neg, ← h1]; grind
theorem Cd.mul (h : Cd d N a) (g : Cd e M b) : Cd (d * e) (N * M) (a * b) := by
  obtain ⟨m, h1, h2⟩ := h
  obtain ⟨n, g1, g2⟩ := g
  refine ⟨m * n, ?_, by rw [Int.natAbs_mul]; exact Nat.mul_le_mul h2 g2⟩
  rw [Rat.intCast_mul, ← h1, ← g1, Rat.natCast_mul]; grind
theorem num_eq (q : Rat) : (q.num : Rat) = q * (q.den : Rat) := by
  have h := Rat.num_divInt_den q
  rw [Rat.divInt_eq_div] at h
  have hd : ((q.den : Int) : Rat) ≠ 0 := by
    have := q.den_nz
    intro z
    have := Rat.intCast_eq_zero_iff.mp z
    omega
  have := Rat.div_mul_cancel (a := (q.num : Rat)) hd
  rw [h] at this
  rw [← this]; rfl
theorem Cd.le (hd : 0 < d) (h : Cd d N a) : a.den ≤ d ∧ a.num.natAbs ≤ N := by
  obtain ⟨m, h1, h2⟩ := h
  have e : a.num * (d : Int) = m * (a.den : Int) := by
    have e1 : ((a.num * (d : Int) : Int) : Rat) = ((m * (a.den : Int) : Int) : Rat) := by
      rw [Rat.intCast_mul, Rat.intCast_mul, ← h1, num_eq]
      show a * (a.den : Rat) * (d : Rat) = a * (d : Rat) * (a.den : Rat)
      grind
    exact Rat.intCast_inj.mp e1
  have en : a.num.natAbs * d = m.natAbs * a.den := by
    have := congrArg Int.natAbs e
    rwa [Int.natAbs_mul, Int.natAbs_mul, Int.natAbs_natCast, Int.natAbs_natCast] at this
  have dv : a.den ∣ d := by
    have : a.den ∣ a.num.natAbs * d := ⟨m.natAbs, by rw [en, Nat.mul_comm]⟩
    exact (Nat.Coprime.symm a.reduced).dvd_of_dvd_mul_left this
  obtain ⟨c, hc⟩ := dv
  have c1 : 1 ≤ c := by
    rcases Nat.eq_zero_or_pos c with z | z
    · rw [z] at hc; omega
    · exact z
  refine ⟨Nat.le_of_dvd hd ⟨c, hc⟩, ?_⟩
  have : a.num.natAbs * c = m.natAbs := by
    have p : 0 < a.den := Nat.pos_of_ne_zero a.den_nz
    rw [hc, ← Nat.mul_assoc, Nat.mul_comm _ a.den, Nat.mul_assoc, Nat.mul_comm m.natAbs] at en
    exact Nat.eq_of_mul_eq_mul_left p en
  have : a.num.natAbs * 1 ≤ a.num.natAbs * c := Nat.mul_le_mul_left _ c1
  omega
theorem Cd.rb (hd : 0 < d) (h : Cd d N a) (h1 : d < 2 ^ 4000) (h2 : N < 2 ^ 4000) : RB a := by
  obtain ⟨x, y⟩ := h.le hd
  exact ⟨Nat.lt_of_le_of_lt y h2, Nat.lt_of_le_of_lt x h1⟩
theorem Cd.lf {ts : List Tm} (h : ∀ t ∈ ts, Cd d N t.2) (k : List Int) : Cd d (ts.length * N) (cf ts k) := by
  induction ts with
  | nil => exact Cd.zero
  | cons t ts ih =>
    have h0 := h t List.mem_cons_self
    have ih := ih fun u hu => h u (List.mem_cons_of_mem _ hu)
    show Cd d _ (t.2 * dl k t.1 + cf ts k)
    rw [List.length_cons, Nat.add_mul, Nat.one_mul, Nat.add_comm]
    refine Cd.add ?_ ih
    unfold dl
    split
    · rw [Rat.mul_one]; exact h0
    · rw [Rat.mul_zero]; exact Cd.zero
end
/-- what gathering terms asks -/
structure TsOk (ts : List Tm) : Prop where
  len : ts.length ≤ 1000000
  ne : ∀ t ∈ ts, t.1 ≠ []
  rb : ∀ t ∈ ts, RB t.2
  sums : ∀ i k, RB (cf (ts.take i) k)
theorem tsOk {ts : List Tm} {d N : Nat} (hl : ts.length ≤ 1000000) (hn : ∀ t ∈ ts, t.1 ≠ []) (h : ∀ t ∈ ts, Cd d N t.2) (hd : 0 < d) (h1 : d < 2 ^ 4000) (h2 : (ts.length + 1) * N < 2 ^ 4000) : TsOk ts := by
  have e : (ts.length + 1) * N = ts.length * N + N := by rw [Nat.add_mul, Nat.one_mul]
  refine ⟨hl, hn, fun t ht => (h t ht).rb hd h1 (by omega), fun i k => ?_⟩
  have := Cd.lf (ts := ts.take i) (fun t ht => h t (List.mem_of_mem_take ht)) k
  refine this.rb hd h1 ?_
  have : (ts.take i).length * N ≤ ts.length * N := Nat.mul_le_mul_right _ (by rw [List.length_take]; omega)
  omega
/-! ## as data -/
def termD (t : Tm) : D := .tuple [tupI t.1, ratD t.2]
def polyD (p : List Tm) : D := .tuple (p.map termD)
def tabD (tb : List Tm) : List (D × D) := tb.map fun t => (tupI t.1, ratD t.2)
@[simp] theorem isExc_tab (tb : List Tm) : isExc (tabD tb) = false := by cases tb with | nil => rfl | cons t r => cases r <;> rfl
@[simp] theorem nought_rat : PyData.tuple [.int 0, .int 1] = ratD 0 := rfl
@[simp] theorem isPair_term (t : Tm) : isPair (termD t) = false := rfl
@[simp] theorem setT_term (is : List Nat) (t : Tm) (μ : Mu) : setT is true (termD t) μ = setAll is [tupI t.1, ratD t.2] μ := rfl
@[simp] theorem seqD_poly (p : List Tm) : seqD (polyD p) = some (p.map termD) := rfl
@[simp] theorem seqD0_poly (p : List Tm) : seqD0 (polyD p) = some (p.map termD) := rfl
@[simp] theorem ix_term0 (t : Tm) : ixD (termD t) (.int 0) = some (tupI t.1) := rfl
@[simp] theorem ix_term1 (t : Tm) : ixD (termD t) (.int 1) = some (ratD t.2) := rfl
theorem isKey_tupI (k : List Int) : isKey (tupI k) = true := by
  show (intsOf (k.map .int)).isSome = true
  rw [intsOf_map]; rfl
theorem dget_tab (tb : List Tm) (k : List Int) : dget (tabD tb) (tupI k) = (tget tb k).map ratD := by
  induction tb with
  | nil => rfl
  | cons t tb ih =>
    obtain ⟨l, r⟩ := t
    show (if PyData.eqv (tI l) (tI k) then some (ratD r) else dget (tabD tb) (tupI k)) = _
    rw [eqv_key, ih, tget]
    by_cases h : l = k
    · simp [h]
    · simp [h]
theorem dput_tab (tb : List Tm) (k : List Int) (v : Rat) : dput (tabD tb) (tupI k) (ratD v) = tabD (tput tb k v) := by
  induction tb with
  | nil => rfl
  | cons t tb ih =>
    obtain ⟨l, r⟩ := t
    show (if PyData.eqv (tI l) (tI k) then (tupI l, ratD v) :: tabD tb else (tupI l, ratD r) :: dput (tabD tb) (tupI k) (ratD v)) = _
    rw [eqv_key, ih, tput]
    by_cases h : l = k
    · simp [h, tabD]
    · simp [h, tabD]
theorem keysI_tab (tb : List Tm) : keysI (tabD tb) = some (tb.map (·.1)) := by
  induction tb with
  | nil => rfl
  | cons t tb ih =>
    show (match intsOf (t.1.map .int), keysI (tabD tb) with | some k, some ks => some (k :: ks) | _, _ => none) = _
    rw [intsOf_map, ih]; rfl
theorem sortD_tab {tb : List Tm} (h : ∀ t ∈ tb, t.1 ≠ []) : sortD (.dict (tabD tb)) = some (.list ((sortK (tb.map (·.1))).map tupI)) := by
  show (match keysI (tabD tb) with | some ks => if ks.all fun k => !k.isEmpty then _ else none | none => none) = _
  rw [keysI_tab]
  refine if_pos ?_
  rw [List.all_eq_true]
  intro k hk
  obtain ⟨t, ht, rfl⟩ := List.mem_map.mp hk
  have := h t ht
  cases q : t.1 with
  | nil => exact absurd q this
  | cons _ _ => rfl
theorem tab_len (tb : List Tm) : (tabD tb).length = tb.length := List.length_map _
theorem eqv_rat (a b : Rat) : PyData.eqv (ratD a) (ratD b) = decide (a = b) := by
  unfold ratD
  rw [PyData.eqv]
  show (PyData.eqv (.int a.num) (.int b.num) && (PyData.eqv (.int (a.den : Int)) (.int (b.den : Int)) && true)) = _
  rw [PyData.eqv, PyData.eqv, Bool.and_true, Bool.eq_iff_iff, Bool.and_eq_true, decide_eq_true_eq, beq_iff_eq, beq_iff_eq]
  constructor
  · rintro ⟨h1, h2⟩
    exact Rat.ext h1 (by omega)
  · rintro rfl; exact ⟨rfl, rfl⟩
@[simp] theorem eqD_rat (a b : Rat) : eqD (ratD a) (ratD b) = some (decide (a = b)) := by
  unfold eqD
  rw [if_pos (by rfl), eqv_rat]
/-! setting an entry -/
def dsetO (i : Nat) (y v : D) (μ2 : Mu) (o : Option D) : Option Mu := match o with
  | some (.dict es) => if isKey y && sizeOkN (es.length + 1) then some (μ2.set i (.own (.dict (dput es y v)))) else none
  | _ => none
@[simp] theorem dsetE_at (i : Nat) (y v : D) (μ : Mu) : dsetE i y v μ = dsetO i y v μ (owned μ i) := rfl
theorem dsetO_tab {i : Nat} {k : List Int} {v : Rat} {μ : Mu} {tb : List Tm} (h : tb.length ≤ 1000000) : dsetO i (tupI k) (ratD v) μ (some (.dict (tabD tb))) = some (μ.set i (.own (.dict (tabD (tput tb k v))))) := by
  show (if isKey (tupI k) && sizeOkN ((tabD tb).length + 1) then _ else _) = _
  rw [isKey_tupI, tab_len, dput_tab]
  exact if_pos (decide_eq_true (by omega))
theorem g0_of {tb : List Tm} {k : List Int} (h : k ∈ tb.map (·.1)) : tget tb k = some (g0 tb k) := by
  induction tb with
  | nil => cases h
  | cons t tb ih =>
    obtain ⟨l, r⟩ := t
    unfold g0 tget
    by_cases e : l = k
    · rw [if_pos e]; rfl
    · rw [if_neg e]
      refine ih ?_
      rw [List.map_cons] at h
      rcases List.mem_cons.mp h with q | q
      · exact absurd q.symm e
      · exact q
theorem mem_tget {tb : List Tm} {l : List Int} {v : Rat} (q : tget tb l = some v) : l ∈ tb.map (·.1) := by
  induction tb with
  | nil => cases q
  | cons u tb ih2 =>
    obtain ⟨m, w⟩ := u
    unfold tget at q
    by_cases e : m = l
    · rw [List.map_cons, e]; exact List.mem_cons_self
    · rw [if_neg e] at q; exact List.mem_cons_of_mem _ (ih2 q)
theorem g0_cf {tb : List Tm} (h : Nd tb) (k : List Int) : g0 tb k = cf tb k := by
  induction tb with
  | nil => rfl
  | cons t tb ih =>
    obtain ⟨l, r⟩ := t
    unfold Nd at h
    rw [List.map_cons, List.nodup_cons] at h
    have ih := ih h.2
    show _ = r * dl k l + cf tb k
    unfold g0 tget dl
    by_cases e : l = k
    · subst e
      rw [if_pos rfl, if_pos rfl, ← ih]
      have : g0 tb l = 0 := by
        unfold g0
        cases q : tget tb l with
        | none => rfl
        | some v =>
          exact absurd (mem_tget q) h.1
      rw [this]
      show r = _
      grind
    · rw [if_neg e, if_neg e, ← ih]
      show g0 tb k = _
      grind
theorem len_tput (tb : List Tm) (x : List Int) (v : Rat) : (tput tb x v).length ≤ tb.length + 1 := by
  have := congrArg List.length (keys_tput tb x v)
  rw [List.length_map] at this
  rw [this]
  split
  · rw [List.length_map]; omega
  · rw [List.length_append, List.length_map]; exact Nat.le_refl _
theorem len_accT (ts tb : List Tm) : (accT tb ts).length ≤ tb.length + ts.length := by
  induction ts generalizing tb with
  | nil => exact Nat.le_refl _
  | cons t ts ih =>
    have h1 := ih (addT tb t)
    have h2 : (addT tb t).length ≤ tb.length + 1 := len_tput tb _ _
    show (accT (addT tb t) ts).length ≤ _
    rw [List.length_cons]; omega
theorem keys_accT {ts tb : List Tm} {k : List Int} (h : k ∈ (accT tb ts).map (·.1)) : k ∈ tb.map (·.1) ∨ k ∈ ts.map (·.1) := by
  induction ts generalizing tb with
  | nil => exact .inl h
  | cons t ts ih =>
    rcases ih (tb := addT tb t) h with q | q
    · unfold addT at q
      rw [keys_tput] at q
      split at q
      · exact .inl q
      · rcases List.mem_append.mp q with q | q
        · exact .inl q
        · simp at q; subst q; exact .inr (by simp)
    · exact .inr (by rw [List.map_cons]; exact List.mem_cons_of_mem _ q)
end Mn
set_option Elab.async false
set_option linter.all false
set_option maxRecDepth 100000
set_option autoImplicit false
set_option maxHeartbeats 1000000
namespace Mn
open PySem PySem.Spec Lb
/-! a list or dict becomes a value -/
def frzB (r : Mu → Rs Fl) (o : Option Mu) : Rs Fl := match o with
  | some m => r m
  | none => .st
@[simp] theorem frzB_some (r : Mu → Rs Fl) (m : Mu) : frzB r (some m) = r m := rfl
@[simp] theorem execs_frz (F : Nat → List Sl → FR) (W i : Nat) (r : Ss) (μ : Mu) : execs F W (.frz i r) μ = frzB (execs F W r) (frzM i μ) := rfl
def frzO (i : Nat) (μ : Mu) (o : Option Sl) : Option Mu := match o with
  | some (.own d) => some (μ.set i (.val d))
  | some (.val d) => some μ
  | _ => none
@[simp] theorem frzM_at (i : Nat) (μ : Mu) : frzM i μ = frzO i μ μ[i]? := rfl
@[simp] theorem frzO_own (i : Nat) (μ : Mu) (d : D) : frzO i μ (some (.own d)) = some (μ.set i (.val d)) := rfl
@[simp] theorem frzO_val (i : Nat) (μ : Mu) (d : D) : frzO i μ (some (.val d)) = some μ := rfl
/-! ## gathering -/
theorem getD2_tab (tb : List Tm) (k : List Int) (μ : Mu) : getD2 (some (.dict (tabD tb))) (tupI k) (ratD 0) μ = .ok (ratD (g0 tb k)) μ := by
  rw [getD2_at, isKey_tupI, isExc_tab, show (true && !false) = true from rfl, if_pos rfl, dget_tab]
  unfold g0
  cases tget tb k <;> rfl
theorem dixD_tab {tb : List Tm} {k : List Int} (μ : Mu) (h : k ∈ tb.map (·.1)) : dixD (some (.dict (tabD tb))) (tupI k) μ = .ok (ratD (g0 tb k)) μ := by
  rw [dixD_at, isKey_tupI, if_pos rfl, dget_tab, g0_of h]; rfl
theorem RB.zero : RB 0 := ⟨Nat.two_pow_pos 4000, Nat.one_lt_two_pow (by decide)⟩
theorem accT_snoc (tb a : List Tm) (t : Tm) : accT tb (a ++ [t]) = addT (accT tb a) t := by
  unfold accT; rw [List.foldl_append]; rfl
theorem take_snoc {α : Type} {l : List α} {i : Nat} {a : α} (h : l[i]? = some a) : l.take (i + 1) = l.take i ++ [a] := by
  rw [List.take_add_one, h]; rfl
theorem g0_acc (ts : List Tm) (k : List Int) : g0 (accT [] ts) k = cf ts k := by
  rw [g0_cf (Nd.accT (tb := []) List.nodup_nil ts)]
  show Lf _ _ = _
  rw [Lf_accT (tb := []) List.nodup_nil]
  show (0 : Rat) + _ = _
  rw [Rat.zero_add]; rfl
theorem mem_sortK {ks : List (List Int)} {k : List Int} (h : k ∈ sortK ks) : k ∈ ks := (List.mergeSort_perm ks _).mem_iff.mp h
/-- what a def that gathers terms gives -/
def GathS (G : List Sl → FR) : Prop := ∀ (d : D) (ts : List Tm), seqD d = some (ts.map termD) → TsOk ts → G [.val d] = .ok (polyD (gath ts)) []
theorem gathS (F : Nat → List Sl → FR) (W c : Nat) (hp : Rat2 (F c) (· + ·)) : GathS (runFn F W (f_gathered c)) := by
  intro d ts hd hts
  suffices hw : (runFn F W (f_gathered c) [.val d]).wp fun x o => x = polyD (gath ts) ∧ o = [] by
    obtain ⟨_, _, e, rfl, rfl⟩ := FR.wp_elim hw
    exact e
  refine wp_run rfl rfl ?_
  simp -implicitDefEqProofs [f_gathered, hd]
  refine wp_forL (fun i μ => ∃ s2 s3 : Sl, μ = [.val d, .own (.dict (tabD (accT [] (ts.take i)))), s2, s3] ∧ FrS s2 ∧ FrS s3) _ _ ?_ ?_ ?_
  · exact ⟨.no, .no, rfl, rfl, rfl⟩
  · rintro i x μ Q' hx ⟨s2, s3, rfl, f2, f3⟩ hk
    rw [List.getElem?_map] at hx
    obtain ⟨t, ht, rfl⟩ := Option.map_eq_some_iff.mp hx
    have hm : t ∈ ts := List.mem_of_getElem? ht
    have e := hp (g0 (accT [] (ts.take i)) t.1) t.2 (by rw [g0_acc]; exact hts.sums i t.1) (hts.rb t hm)
    have hl : (accT [] (ts.take i)).length ≤ 1000000 := by
      have := len_accT (ts.take i) []
      have h2 := hts.len
      rw [List.length_take] at this
      simp at this
      omega
    have hk := hk [.val d, .own (.dict (tabD (accT [] (ts.take (i + 1))))), .val (tupI t.1), .val (ratD t.2)] ⟨_, _, rfl, rfl, rfl⟩
    rw [take_snoc ht, accT_snoc] at hk
    generalize accT [] (ts.take i) = tb at *
    simp -implicitDefEqProofs [isLck_f f2, isLck_f f3, -getD2_at, getD2_tab, e, dsetO_tab hl]
    exact hk
  · rintro μ ⟨s2, s3, rfl, f2, f3⟩
    rw [List.length_map, List.take_length]
    have hn : ∀ t ∈ accT [] ts, t.1 ≠ [] := fun t ht => by
      rcases keys_accT (List.mem_map_of_mem ht) with q | q
      · cases q
      · obtain ⟨u, hu, hq⟩ := List.mem_map.mp q
        rw [← hq]; exact hts.ne u hu
    have sq := sortD_tab hn
    unfold gath
    generalize accT [] ts = tb at *
    have e : compL (turnR [2] false (ev F (.tup (.cons (.var 2) (.cons (.dix (.pk 1) (.var 2)) .nil)))) (some (testB F (.cmp .ne (.e (.dix (.pk 1) (.var 2))) (.e (.glob "NOUGHT" (ratD 0))))))) ((sortK (tb.map (·.1))).map tupI) [] [.val d, .own (.dict (tabD tb)), s2, s3] = .ok ([] ++ ((sortK (tb.map (·.1))).filter fun k => decide (g0 tb k ≠ 0)).map fun k => termD (k, g0 tb k)) [.val d, .own (.dict (tabD tb)), s2, s3] := by
      refine compL_filter _ _ _ _ _ fun k hk => ?_
      have hx := fun μ => dixD_tab (tb := tb) μ (mem_sortK hk)
      by_cases z : g0 tb k = 0
      · simp -implicitDefEqProofs [freeS_f f2, -dixD_at, hx, z]
      · simp -implicitDefEqProofs [freeS_f f2, -dixD_at, hx, z, termD]
    have e2 : ([] ++ ((sortK (tb.map (·.1))).filter fun k => decide (g0 tb k ≠ 0)).map fun k => termD (k, g0 tb k)) = (gathT tb).map termD := by
      unfold gathT; rw [List.map_map]; rfl
    rw [e2] at e
    simp -implicitDefEqProofs [sq, e, outsOf, polyD]
theorem add_poly {a b : List Tm} (h : a.length + b.length ≤ 1000000) : addD (polyD a) (polyD b) = some (polyD (a ++ b)) := by
  show (if sizeOkN ((a.map termD).length + (b.map termD).length) then _ else _) = _
  refine (if_pos (decide_eq_true ?_)).trans ?_
  · rw [List.length_map, List.length_map]; omega
  · unfold polyD; rw [List.map_append]
/-- sums -/
def AddS (G : List Sl → FR) : Prop := ∀ a b : List Tm, TsOk (a ++ b) → G [.val (polyD a), .val (polyD b)] = .ok (polyD (gath (a ++ b))) []
theorem addS (F : Nat → List Sl → FR) (W c : Nat) (hg : GathS (F c)) : AddS (runFn F W (f_added c)) := by
  intro a b h
  rw [runFn_at rfl rfl]
  have e := hg (polyD (a ++ b)) (a ++ b) rfl h
  have hl := h.len
  rw [List.length_append] at hl
  simp -implicitDefEqProofs [f_added, add_poly hl, e, outsOf]
def negP (b : List Tm) : List Tm := b.map fun t => (t.1, -t.2)
/-- differences -/
def LessS (G : List Sl → FR) : Prop := ∀ a b : List Tm, (∀ t ∈ b, RB t.2) → TsOk (a ++ negP b) → G [.val (polyD a), .val (polyD b)] = .ok (polyD (gath (a ++ negP b))) []
theorem lessS (F : Nat → List Sl → FR) (W c c2 : Nat) (hg : GathS (F c)) (hm : Rat2 (F c2) (· - ·)) : LessS (runFn F W (f_lessened c c2)) := by
  intro a b hb h
  rw [runFn_at rfl rfl]
  have e := hg (polyD (a ++ negP b)) (a ++ negP b) rfl h
  have hl := h.len
  rw [List.length_append] at hl
  have e1 : compL (turnR [2, 3] true (ev F (.tup (.cons (.var 2) (.cons (.call c2 (.cons (.v (.glob "NOUGHT" (ratD 0))) (.cons (.v (.var 3)) .nil))) .nil)))) none) (b.map termD) [] [.val (polyD a), .val (polyD b), .no, .no] = .ok ([] ++ b.map fun t => termD (t.1, -t.2)) [.val (polyD a), .val (polyD b), .no, .no] := by
    refine compL_on _ _ _ _ fun t ht => ?_
    have em := hm 0 t.2 RB.zero (hb t ht)
    rw [show (fun x1 x2 : Rat => x1 - x2) 0 t.2 = -t.2 by show 0 - t.2 = _; rw [Rat.sub_eq_add_neg, Rat.zero_add]] at em
    simp -implicitDefEqProofs [em, termD]
  rw [show ([] ++ b.map fun t => termD (t.1, -t.2)) = (negP b).map termD by unfold negP; rw [List.map_map]; rfl] at e1
  have ea := add_poly hl
  unfold polyD at *
  simp -implicitDefEqProofs [f_lessened, e1, ea, e, outsOf, -List.map_append]
/-- a polynomial times a term -/
def byT (p : List Tm) (t : Tm) : List Tm := p.map fun u => (joinP u.1 t.1, u.2 * t.2)
def ByS (G : List Sl → FR) : Prop := ∀ (p : List Tm) (t : Tm), (∀ u ∈ p, RB u.2) → RB t.2 → G [.val (polyD p), .val (termD t)] = .ok (polyD (byT p t)) []
theorem byS (F : Nat → List Sl → FR) (W c c2 : Nat) (ht : Rat2 (F c) (· * ·)) (hj : Pure2 (F c2) fun xs ys => tupI (joinP xs ys)) : ByS (runFn F W (f_by_term c c2)) := by
  intro p t hp h
  rw [runFn_at rfl rfl]
  have e1 : compL (turnR [2, 3] true (ev F (.tup (.cons (.call c2 (.cons (.v (.var 2)) (.cons (.v (.ix (.e (.var 1)) (.int 0))) .nil))) (.cons (.call c (.cons (.v (.var 3)) (.cons (.v (.ix (.e (.var 1)) (.int 1))) .nil))) .nil)))) none) (p.map termD) [] [.val (polyD p), .val (termD t), .no, .no] = .ok ([] ++ p.map fun u => termD (joinP u.1 t.1, u.2 * t.2)) [.val (polyD p), .val (termD t), .no, .no] := by
    refine compL_on _ _ _ _ fun u hu => ?_
    have em := ht u.2 t.2 (hp u hu) h
    have ej := hj u.1 t.1
    have i0 := ix_term0 t
    have i1 := ix_term1 t
    have st : ∀ m, setT [2, 3] true (termD u) m = setAll [2, 3] [tupI u.1, ratD u.2] m := fun m => setT_term _ _ _
    generalize hX : termD t = X at *
    simp -implicitDefEqProofs [em, ej, i0, i1, st]
    rfl
  rw [show ([] ++ p.map fun u => termD (joinP u.1 t.1, u.2 * t.2)) = (byT p t).map termD by unfold byT; rw [List.map_map]; rfl] at e1
  unfold polyD at *
  generalize hX : termD t = X at *
  simp -implicitDefEqProofs [f_by_term, e1, outsOf]
/-! products -/
def prodL (a b : List Tm) : List Tm := b.flatMap (byT a)
def ProdS (G : List Sl → FR) : Prop := ∀ a b : List Tm, (∀ t ∈ a, RB t.2) → (∀ t ∈ b, RB t.2) → TsOk (prodL a b) → G [.val (polyD a), .val (polyD b)] = .ok (polyD (gath (prodL a b))) []
def extO (i : Nat) (μ1 : Mu) (o : Option D) (o2 : Option (List D)) : Option Mu := match o, o2 with
  | some (.list xs), some ys => if sizeOkN (xs.length + ys.length) then some (μ1.set i (.own (.list (xs ++ ys)))) else none
  | _, _ => none
@[simp] theorem extE_at (i : Nat) (v : D) (μ : Mu) : extE i v μ = extO i μ (owned μ i) (seqD0 v) := rfl
theorem extO_ok {i : Nat} {μ : Mu} {xs ys : List D} (h : xs.length + ys.length ≤ 1000000) : extO i μ (some (.list xs)) (some ys) = some (μ.set i (.own (.list (xs ++ ys)))) := if_pos (decide_eq_true (by omega))
theorem flat_len {a : List Tm} : ∀ (b : List Tm), (prodL a b).length = b.length * a.length
  | [] => by simp [prodL]
  | t :: b => by
    have := flat_len (a := a) b
    unfold prodL at this ⊢
    rw [List.flatMap_cons, List.length_append, this, List.length_cons, Nat.add_mul, Nat.one_mul, Nat.add_comm]
    unfold byT
    rw [List.length_map]
theorem prodS (F : Nat → List Sl → FR) (W c c2 : Nat) (hb : ByS (F c)) (hg : GathS (F c2)) : ProdS (runFn F W (f_product c c2)) := by
  intro a b ha hb2 h
  suffices hw : (runFn F W (f_product c c2) [.val (polyD a), .val (polyD b)]).wp fun x o => x = polyD (gath (prodL a b)) ∧ o = [] by
    obtain ⟨_, _, e, rfl, rfl⟩ := FR.wp_elim hw
    exact e
  refine wp_run rfl rfl ?_
  simp -implicitDefEqProofs [f_product]
  refine wp_forL (fun i μ => ∃ s : Sl, μ = [.val (polyD a), .val (polyD b), .own (.list ((prodL a (b.take i)).map termD)), s] ∧ FrS s) _ _ ?_ ?_ ?_
  · exact ⟨.no, rfl, rfl⟩
  · rintro i x μ Q' hx ⟨s, rfl, f⟩ hk
    rw [List.getElem?_map] at hx
    obtain ⟨t, ht, rfl⟩ := Option.map_eq_some_iff.mp hx
    have hm : t ∈ b := List.mem_of_getElem? ht
    have e := hb a t ha (hb2 t hm)
    have hk := hk [.val (polyD a), .val (polyD b), .own (.list ((prodL a (b.take (i + 1))).map termD)), .val (termD t)] ⟨_, rfl, rfl⟩
    have hl : ((prodL a (b.take i)).map termD).length + ((byT a t).map termD).length ≤ 1000000 := by
      rw [List.length_map, List.length_map, flat_len]
      have l1 : (byT a t).length = a.length := by unfold byT; rw [List.length_map]
      have l2 := h.len
      have l3 : i < b.length := (List.getElem?_eq_some_iff.mp ht).1
      rw [flat_len] at l2
      rw [l1, List.length_take]
      have : (i + 1) * a.length ≤ b.length * a.length := Nat.mul_le_mul_right _ l3
      rw [Nat.add_mul, Nat.one_mul] at this
      have : min i b.length = i := by omega
      rw [this]; omega
    have e2 : prodL a (b.take (i + 1)) = prodL a (b.take i) ++ byT a t := by
      rw [take_snoc ht]; unfold prodL; rw [List.flatMap_append, List.flatMap_singleton]
    rw [e2, List.map_append] at hk
    generalize (prodL a (b.take i)).map termD = L at *
    have iz := isPair_term t
    generalize termD t = X at *
    simp -implicitDefEqProofs [isLck_f f, iz, e, extO_ok hl]
    exact hk
  · rintro μ ⟨s, rfl, f⟩
    rw [List.length_map, List.take_length]
    have e := hg (.list ((prodL a b).map termD)) (prodL a b) rfl h
    simp -implicitDefEqProofs [e, outsOf]
end Mn
set_option Elab.async false
set_option linter.all false
set_option maxRecDepth 100000
set_option autoImplicit false
set_option maxHeartbeats 1000000
namespace Mn
open PySem PySem.Spec Lb
/-! ## the law's own polynomials -/
theorem dixD_ix {tb : List Tm} {k : List Int} (μ : Mu) (h : k ∈ tb.map (·.1)) : dixD (some (.dict (tabD tb))) (tupI k) μ = .ok (ratD (g0 tb k)) μ := dixD_tab μ h
def LGathS (G : List Sl → FR) : Prop := ∀ tb : List Tm, (∀ t ∈ tb, t.1 ≠ []) → G [.val (.dict (tabD tb))] = .ok (polyD (gathT tb)) []
theorem num_zero (q : Rat) : (q.num = 0) = (q = 0) := propext Rat.num_eq_zero
theorem lgathS (F : Nat → List Sl → FR) (W : Nat) : LGathS (runFn F W f_l_gathered) := by
  intro tb hn
  rw [runFn_at rfl rfl]
  have sq := sortD_tab hn
  have e : compL (turnR [1] false (ev F (.tup (.cons (.var 1) (.cons (.dix (.e (.var 0)) (.var 1)) .nil)))) (some (testB F (.cmp .ne (.e (.ix (.e (.dix (.e (.var 0)) (.var 1))) (.int 0))) (.e (.int 0)))))) ((sortK (tb.map (·.1))).map tupI) [] [.val (.dict (tabD tb)), .no] = .ok ([] ++ ((sortK (tb.map (·.1))).filter fun k => decide (g0 tb k ≠ 0)).map fun k => termD (k, g0 tb k)) [.val (.dict (tabD tb)), .no] := by
    refine compL_filter _ _ _ _ _ fun k hk => ?_
    have hx := fun μ => dixD_tab (tb := tb) μ (mem_sortK hk)
    by_cases z : g0 tb k = 0
    · simp -implicitDefEqProofs [-dixD_at, hx, z]
    · simp -implicitDefEqProofs [-dixD_at, hx, z, termD]
  have e2 : ([] ++ ((sortK (tb.map (·.1))).filter fun k => decide (g0 tb k ≠ 0)).map fun k => termD (k, g0 tb k)) = (gathT tb).map termD := by
    unfold gathT; rw [List.map_map]; rfl
  rw [e2] at e
  simp -implicitDefEqProofs [f_l_gathered, sq, e, outsOf, polyD]
/-! dict(polynomial) -/
theorem tput_new {tb : List Tm} {t : Tm} (h : t.1 ∉ tb.map (·.1)) : tput tb t.1 t.2 = tb ++ [t] := by
  induction tb with
  | nil => rfl
  | cons u tb ih =>
    obtain ⟨m, w⟩ := u
    rw [List.map_cons, List.mem_cons, not_or] at h
    unfold tput
    rw [if_neg (fun z => h.1 z.symm), ih h.2]; rfl
theorem pairs_poly (p : List Tm) : pairsD (p.map termD) = some (tabD p) := by
  induction p with
  | nil => rfl
  | cons t p ih =>
    show (if isKey (tupI t.1) then (pairsD (p.map termD)).map _ else none) = _
    rw [isKey_tupI, if_pos rfl, ih]; rfl
theorem dict_fold {p tb : List Tm} (h : Nd (tb ++ p)) : (tabD p).foldl (fun c q => dput c q.1 q.2) (tabD tb) = tabD (tb ++ p) := by
  induction p generalizing tb with
  | nil => rw [List.append_nil]; rfl
  | cons t p ih =>
    show (tabD p).foldl _ (dput (tabD tb) (tupI t.1) (ratD t.2)) = _
    have hn : t.1 ∉ tb.map (·.1) := by
      unfold Nd at h
      rw [List.map_append, List.nodup_append] at h
      intro z
      exact h.2.2 _ z _ (by rw [List.map_cons]; exact List.mem_cons_self) rfl
    rw [dput_tab, tput_new hn, ih (by rw [List.append_assoc]; exact h), List.append_assoc]; rfl
theorem dict_poly {p : List Tm} (h : Nd p) (hl : p.length ≤ 1000000) : dictOfD (polyD p) = some (.dict (tabD p)) := by
  show (if sizeOkN (p.map termD).length then (pairsD (p.map termD)).map fun es => PyData.dict (dictD es) else none) = _
  refine (if_pos (decide_eq_true (by rw [List.length_map]; omega))).trans ?_
  rw [pairs_poly]
  show some (PyData.dict (dictD (tabD p))) = _
  congr 2
  exact dict_fold (tb := []) h
theorem g0_acc2 {a : List Tm} (h : Nd a) (ts : List Tm) (k : List Int) : g0 (accT a ts) k = cf (a ++ ts) k := by
  rw [g0_cf (h.accT ts)]
  show Lf _ _ = Lf _ _
  rw [Lf_accT h, Lf_append]
theorem gathT_acc {a : List Tm} (h : Nd a) (ts : List Tm) : gathT (accT a ts) = gath (a ++ ts) := by
  refine cn_ext (cn_gathT (h.accT ts)) (cn_gath _) fun k => ?_
  rw [cf_gath]
  show Lf _ _ = Lf _ _
  rw [Lf_gathT (h.accT ts), Lf_accT h, Lf_append]
def LAddS (G : List Sl → FR) : Prop := ∀ (a : List Tm) (d : D) (b : List Tm), Nd a → seqD d = some (b.map termD) → TsOk (a ++ b) → G [.val (polyD a), .val d] = .ok (polyD (gath (a ++ b))) []
theorem laddS (F : Nat → List Sl → FR) (W c c2 : Nat) (hp : Rat2 (F c) (· + ·)) (hg : LGathS (F c2)) : LAddS (runFn F W (f_l_added c c2)) := by
  intro a d b ha hd h
  have hl := h.len
  rw [List.length_append] at hl
  have hn : ∀ t ∈ accT a b, t.1 ≠ [] := fun t ht => by
    rcases keys_accT (List.mem_map_of_mem ht) with q | q
    · obtain ⟨u, hu, hq⟩ := List.mem_map.mp q
      rw [← hq]; exact h.ne u (List.mem_append_left _ hu)
    · obtain ⟨u, hu, hq⟩ := List.mem_map.mp q
      rw [← hq]; exact h.ne u (List.mem_append_right _ hu)
  suffices hw : (runFn F W (f_l_added c c2) [.val (polyD a), .val d]).wp fun x o => x = polyD (gath (a ++ b)) ∧ o = [] by
    obtain ⟨_, _, e, rfl, rfl⟩ := FR.wp_elim hw
    exact e
  refine wp_run rfl rfl ?_
  simp -implicitDefEqProofs [f_l_added, hd, dict_poly ha (show a.length ≤ 1000000 by omega)]
  refine wp_forL (fun i μ => ∃ s2 s3 : Sl, μ = [.val (polyD a), .val d, .own (.dict (tabD (accT a (b.take i)))), s2, s3] ∧ FrS s2 ∧ FrS s3) _ _ ?_ ?_ ?_
  · exact ⟨.no, .no, rfl, rfl, rfl⟩
  · rintro i x μ Q' hx ⟨s2, s3, rfl, f2, f3⟩ hk
    rw [List.getElem?_map] at hx
    obtain ⟨t, ht, rfl⟩ := Option.map_eq_some_iff.mp hx
    have hm : t ∈ b := List.mem_of_getElem? ht
    have hs : RB (cf (a ++ b.take i) t.1) := by
      have := h.sums (a.length + i) t.1
      rwa [List.take_length_add_append] at this
    have e := hp (g0 (accT a (b.take i)) t.1) t.2 (by rw [g0_acc2 ha]; exact hs) (h.rb t (List.mem_append_right _ hm))
    have hl2 : (accT a (b.take i)).length ≤ 1000000 := by
      have := len_accT (b.take i) a
      rw [List.length_take] at this
      omega
    have hk := hk [.val (polyD a), .val d, .own (.dict (tabD (accT a (b.take (i + 1))))), .val (tupI t.1), .val (ratD t.2)] ⟨_, _, rfl, rfl, rfl⟩
    rw [take_snoc ht, accT_snoc] at hk
    generalize accT a (b.take i) = tb at *
    simp -implicitDefEqProofs [isLck_f f2, isLck_f f3, -getD2_at, getD2_tab, e, dsetO_tab hl2]
    exact hk
  · rintro μ ⟨s2, s3, rfl, f2, f3⟩
    rw [List.length_map, List.take_length]
    have e := hg (accT a b) hn
    rw [gathT_acc ha] at e
    simp -implicitDefEqProofs [e, outsOf]
/-- turned -/
theorem lturnS (F : Nat → List Sl → FR) (W : Nat) (p : List Tm) : runFn F W f_l_turned [.val (polyD p)] = .ok (polyD (negP p)) [] := by
  rw [runFn_at rfl rfl]
  have e : compL (turnR [1, 2] true (ev F (.tup (.cons (.var 1) (.cons (.tup (.cons (.bin .sub (.int 0) (.ix (.e (.var 2)) (.int 0))) (.cons (.ix (.e (.var 2)) (.int 1)) .nil))) .nil)))) none) (p.map termD) [] [.val (polyD p), .no, .no] = .ok ([] ++ p.map fun t => termD (t.1, -t.2)) [.val (polyD p), .no, .no] := by
    refine compL_on _ _ _ _ fun t ht => ?_
    have e2 : termD (t.1, -t.2) = .tuple [tupI t.1, .tuple [.int (-t.2.num), .int (t.2.den : Int)]] := by
      unfold termD ratD; rw [Rat.neg_num, Rat.neg_den]
    rw [e2]
    simp -implicitDefEqProofs
  rw [show ([] ++ p.map fun t => termD (t.1, -t.2)) = (negP p).map termD by unfold negP; rw [List.map_map]; rfl] at e
  unfold polyD at *
  simp -implicitDefEqProofs [f_l_turned, e, outsOf]
end Mn
set_option Elab.async false
set_option linter.all false
set_option maxRecDepth 100000
set_option autoImplicit false
set_option maxHeartbeats 1000000
set_option exponentiation.threshold 10000
namespace Mn
open PySem PySem.Spec Lb
/-! ## sums over two -/
theorem Lf_add (φ ψ : List Int → Rat) : ∀ a : List Tm, Lf (fun k => φ k + ψ k) a = Lf φ a + Lf ψ a
  | [] => by show (0 : Rat) = 0 + 0; grind
  | t :: a => by
    show t.2 * (φ t.1 + ψ t.1) + Lf _ a = t.2 * φ t.1 + Lf φ a + (t.2 * ψ t.1 + Lf ψ a)
    rw [Lf_add φ ψ a]; grind
theorem Lf_smul (c : Rat) (φ : List Int → Rat) : ∀ a : List Tm, Lf (fun k => c * φ k) a = c * Lf φ a
  | [] => by show (0 : Rat) = c * 0; grind
  | t :: a => by
    show t.2 * (c * φ t.1) + Lf _ a = c * (t.2 * φ t.1 + Lf φ a)
    rw [Lf_smul c φ a]; grind
theorem Lf_zero : ∀ a : List Tm, Lf (fun _ => 0) a = 0
  | [] => rfl
  | t :: a => by
    show t.2 * 0 + Lf _ a = 0
    rw [Lf_zero a]; grind
theorem Lf_swap (ψ : List Int → List Int → Rat) (b : List Tm) : ∀ a : List Tm, Lf (fun k => Lf (ψ k) b) a = Lf (fun l => Lf (fun k => ψ k l) a) b
  | [] => (Lf_zero b).symm
  | t :: a => by
    show t.2 * Lf (ψ t.1) b + Lf _ a = Lf (fun l => t.2 * ψ t.1 l + Lf (fun k => ψ k l) a) b
    rw [Lf_swap ψ b a, Lf_add, Lf_smul]
theorem joinP_comm : ∀ xs ys : List Int, joinP xs ys = joinP ys xs
  | [], ys => by cases ys <;> rfl
  | _ :: _, [] => rfl
  | x :: xs, y :: ys => by
    have := joinP_comm xs ys
    unfold joinP at this ⊢
    simp only [List.zip_cons_cons, List.map_cons]
    rw [this, Int.add_comm]
def lbyT (t : Tm) (b : List Tm) : List Tm := b.map fun u => (joinP t.1 u.1, t.2 * u.2)
def lprodL (a b : List Tm) : List Tm := a.flatMap fun t => lbyT t b
theorem Lf_lbyT (φ : List Int → Rat) (t : Tm) : ∀ b : List Tm, Lf φ (lbyT t b) = t.2 * Lf (fun l => φ (joinP t.1 l)) b
  | [] => by show (0 : Rat) = t.2 * 0; grind
  | u :: b => by
    show t.2 * u.2 * φ (joinP t.1 u.1) + Lf φ (lbyT t b) = t.2 * (u.2 * φ (joinP t.1 u.1) + Lf _ b)
    rw [Lf_lbyT φ t b]; grind
theorem Lf_lprod (φ : List Int → Rat) (b : List Tm) : ∀ a : List Tm, Lf φ (lprodL a b) = Lf (fun k => Lf (fun l => φ (joinP k l)) b) a
  | [] => rfl
  | t :: a => by
    unfold lprodL
    rw [List.flatMap_cons, Lf_append, Lf_lbyT]
    show _ + Lf φ (lprodL a b) = _
    rw [Lf_lprod φ b a]; rfl
theorem byT_lbyT (a : List Tm) (t : Tm) : byT a t = lbyT t a := by
  unfold byT lbyT
  apply List.map_congr_left
  intro u _
  rw [joinP_comm, Rat.mul_comm]
theorem prodL_lprodL (a b : List Tm) : prodL a b = lprodL b a := by
  unfold prodL lprodL
  congr 1
  funext t
  exact byT_lbyT a t
theorem cf_lprod_comm (a b : List Tm) (k : List Int) : cf (lprodL a b) k = cf (lprodL b a) k := by
  unfold cf
  rw [Lf_lprod, Lf_lprod, Lf_swap]
  congr 1
  funext l
  congr 1
  funext m
  rw [joinP_comm]
theorem gath_prod (a b : List Tm) : gath (prodL a b) = gath (lprodL a b) := by
  rw [prodL_lprodL]; exact gath_eq (cf_lprod_comm b a)
theorem gath_prod_comm (a b : List Tm) : gath (prodL b a) = gath (prodL a b) := by
  rw [prodL_lprodL, prodL_lprodL]; exact gath_eq (cf_lprod_comm a b)
theorem gath_nil : gath [] = [] := by simp [gath, gathT, accT, sortK]
/-! bounds -/
theorem mem_gathT {tb : List Tm} {t : Tm} (h : t ∈ gathT tb) : t.1 ∈ tb.map (·.1) ∧ t.2 = g0 tb t.1 := by
  unfold gathT at h
  obtain ⟨k, hk, rfl⟩ := List.mem_map.mp h
  exact ⟨mem_sortK (List.mem_filter.mp hk).1, rfl⟩
theorem mem_gath {X : List Tm} {t : Tm} (h : t ∈ gath X) : t.1 ∈ X.map (·.1) ∧ t.2 = cf X t.1 := by
  obtain ⟨h1, h2⟩ := mem_gathT h
  rw [g0_acc] at h2
  rcases keys_accT h1 with q | q
  · cases q
  · exact ⟨q, h2⟩
theorem len_gathT (tb : List Tm) : (gathT tb).length ≤ tb.length := by
  unfold gathT
  rw [List.length_map]
  refine Nat.le_trans (List.length_filter_le _ _) ?_
  unfold sortK
  rw [(List.mergeSort_perm (tb.map (·.1)) _).length_eq, List.length_map]
  exact Nat.le_refl _
theorem len_gath (X : List Tm) : (gath X).length ≤ X.length := by
  have := len_accT X []
  refine Nat.le_trans (len_gathT _) ?_
  simpa using this
/-- n letters, powers up to x, numbers of Cd d N, at most L terms -/
structure Pb (n x d N L : Nat) (p : List Tm) : Prop where
  len : p.length ≤ L
  wid : ∀ t ∈ p, t.1.length = n
  rng : ∀ t ∈ p, ∀ y ∈ t.1, 0 ≤ y ∧ y ≤ x
  cd : ∀ t ∈ p, Cd d N t.2
section
variable {n x d N L : Nat} {p : List Tm}
theorem Pb.mono {x' N' L' : Nat} (h : Pb n x d N L p) (h1 : x ≤ x') (h2 : N ≤ N') (h3 : L ≤ L') : Pb n x' d N' L' p :=
  ⟨Nat.le_trans h.len h3, h.wid, fun t ht y hy => ⟨(h.rng t ht y hy).1, by have := (h.rng t ht y hy).2; omega⟩, fun t ht => (h.cd t ht).mono h2⟩
theorem Pb.gath (h : Pb n x d N L p) : Pb n x d (L * N) L (gath p) := by
  have key : ∀ t ∈ Mn.gath p, ∃ u ∈ p, u.1 = t.1 := fun t ht => by
    obtain ⟨u, hu, hq⟩ := List.mem_map.mp (mem_gath ht).1
    exact ⟨u, hu, hq⟩
  refine ⟨Nat.le_trans (len_gath p) h.len, fun t ht => ?_, fun t ht => ?_, fun t ht => ?_⟩
  · obtain ⟨u, hu, hq⟩ := key t ht
    rw [← hq]; exact h.wid u hu
  · obtain ⟨u, hu, hq⟩ := key t ht
    rw [← hq]; exact h.rng u hu
  · rw [(mem_gath ht).2]
    exact (Cd.lf h.cd t.1).mono (Nat.mul_le_mul_right _ h.len)
theorem Pb.neg (h : Pb n x d N L p) : Pb n x d N L (negP p) := by
  unfold negP
  refine ⟨by rw [List.length_map]; exact h.len, fun t ht => ?_, fun t ht => ?_, fun t ht => ?_⟩ <;> obtain ⟨u, hu, rfl⟩ := List.mem_map.mp ht
  · exact h.wid u hu
  · exact h.rng u hu
  · exact (h.cd u hu).neg
theorem Pb.append {K : Nat} {q : List Tm} (h : Pb n x d N L p) (g : Pb n x d N K q) : Pb n x d N (L + K) (p ++ q) := by
  refine ⟨by rw [List.length_append]; exact Nat.add_le_add h.len g.len, fun t ht => ?_, fun t ht => ?_, fun t ht => ?_⟩ <;> rcases List.mem_append.mp ht with q | q
  · exact h.wid t q
  · exact g.wid t q
  · exact h.rng t q
  · exact g.rng t q
  · exact h.cd t q
  · exact g.cd t q
theorem joinP_len {xs ys : List Int} (h1 : xs.length = n) (h2 : ys.length = n) : (joinP xs ys).length = n := by
  unfold joinP; rw [List.length_map, List.length_zip, h1, h2, Nat.min_self]
theorem joinP_rng {y : Nat} {xs ys : List Int} (h1 : ∀ z ∈ xs, 0 ≤ z ∧ z ≤ x) (h2 : ∀ z ∈ ys, 0 ≤ z ∧ z ≤ y) : ∀ z ∈ joinP xs ys, 0 ≤ z ∧ z ≤ ((x + y : Nat) : Int) := by
  intro z hz
  unfold joinP at hz
  obtain ⟨⟨a, b⟩, hp, rfl⟩ := List.mem_map.mp hz
  have ha := h1 a (List.of_mem_zip hp).1
  have hb := h2 b (List.of_mem_zip hp).2
  show 0 ≤ a + b ∧ a + b ≤ _
  omega
theorem Pb.lby {y e M K : Nat} {q : List Tm} {t : Tm} (h : Pb n x d N L p) (ht : t ∈ p) (g : Pb n y e M K q) : Pb n (x + y) (d * e) (N * M) K (lbyT t q) := by
  unfold lbyT
  refine ⟨by rw [List.length_map]; exact g.len, fun u hu => ?_, fun u hu => ?_, fun u hu => ?_⟩ <;> obtain ⟨v, hv, rfl⟩ := List.mem_map.mp hu
  · exact joinP_len (h.wid t ht) (g.wid v hv)
  · exact joinP_rng (h.rng t ht) (g.rng v hv)
  · exact (h.cd t ht).mul (g.cd v hv)
theorem Pb.lprod {y e M K : Nat} {q : List Tm} (h : Pb n x d N L p) (g : Pb n y e M K q) : Pb n (x + y) (d * e) (N * M) (L * K) (lprodL p q) := by
  have mem : ∀ u ∈ lprodL p q, ∃ t ∈ p, u ∈ lbyT t q := fun u hu => by
    unfold lprodL at hu
    exact List.mem_flatMap.mp hu
  refine ⟨?_, fun u hu => ?_, fun u hu => ?_, fun u hu => ?_⟩
  · rw [← prodL_lprodL, flat_len]
    exact Nat.mul_le_mul h.len g.len
  all_goals obtain ⟨t, ht, hu⟩ := mem u hu
  · exact (h.lby ht g).wid u hu
  · exact (h.lby ht g).rng u hu
  · exact (h.lby ht g).cd u hu
theorem Pb.take (h : Pb n x d N L p) (i : Nat) : Pb n x d N L (p.take i) := ⟨by rw [List.length_take]; have := h.len; omega, fun t ht => h.wid t (List.mem_of_mem_take ht), fun t ht => h.rng t (List.mem_of_mem_take ht), fun t ht => h.cd t (List.mem_of_mem_take ht)⟩
theorem Pb.ne (h : Pb n x d N L p) (hn : 1 ≤ n) : ∀ t ∈ p, t.1 ≠ [] := fun t ht z => by
  have := h.wid t ht
  rw [z] at this
  simp at this; omega
theorem Pb.rb (h : Pb n x d N L p) (hd : 0 < d) (h1 : d < 2 ^ 4000) (h2 : N < 2 ^ 4000) : ∀ t ∈ p, RB t.2 := fun t ht => (h.cd t ht).rb hd h1 h2
theorem Pb.ts (h : Pb n x d N L p) (hn : 1 ≤ n) (hd : 0 < d) (h1 : d < 2 ^ 4000) (hL : L ≤ 1000000) (h2 : (L + 1) * N < 2 ^ 4000) : TsOk p :=
  tsOk (Nat.le_trans h.len hL) (h.ne hn) h.cd hd h1 (Nat.lt_of_le_of_lt (Nat.mul_le_mul_right _ (Nat.succ_le_succ h.len)) h2)
end
/-! the law's product -/
def LProdS (G : List Sl → FR) : Prop := ∀ (n x d N L y e M K : Nat) (a b : List Tm), Pb n x d N L a → Pb n y e M K b → 1 ≤ n → 0 < d → 0 < e → d < 2 ^ 4000 → e < 2 ^ 4000 → d * e < 2 ^ 4000 → N < 2 ^ 4000 → M < 2 ^ 4000 → L * K + K ≤ 1000000 → (L * K + K + 1) * (L * K * (N * M) + N * M) < 2 ^ 4000 → G [.val (polyD a), .val (polyD b)] = .ok (polyD (gath (lprodL a b))) []
theorem gath_gath (X Y : List Tm) : gath (gath X ++ Y) = gath (X ++ Y) := gath_eq fun k => by
  show Lf _ _ = Lf _ _
  rw [Lf_append, Lf_append, Lf_gath]
theorem lprodS (F : Nat → List Sl → FR) (W c c2 : Nat) (ht : Rat2 (F c) (· * ·)) (ha : LAddS (F c2)) : LProdS (runFn F W (f_l_product c c2)) := by
  intro n x d N L y e M K a b pa pb hn hd he hd2 he2 hde hN hM hLK hbig
  suffices hw : (runFn F W (f_l_product c c2) [.val (polyD a), .val (polyD b)]).wp fun x o => x = polyD (gath (lprodL a b)) ∧ o = [] by
    obtain ⟨_, _, e, rfl, rfl⟩ := FR.wp_elim hw
    exact e
  have ra := pa.rb hd hd2 hN
  have rb := pb.rb he he2 hM
  refine wp_run rfl rfl ?_
  simp -implicitDefEqProofs [f_l_product]
  refine wp_forL (fun i μ => ∃ s3 s4 s5 : Sl, μ = [.val (polyD a), .val (polyD b), .val (polyD (gath (lprodL (a.take i) b))), s3, s4, s5, .no, .no, .no, .no] ∧ FrS s3 ∧ FrS s4 ∧ FrS s5) _ _ ?_ ?_ ?_
  · refine ⟨.no, .no, .no, ?_, rfl, rfl, rfl⟩
    rw [List.take_zero, show lprodL [] b = [] from rfl, gath_nil]; rfl
  · rintro i z μ Q' hx ⟨s3, s4, s5, rfl, f3, f4, f5⟩ hk
    rw [List.getElem?_map] at hx
    obtain ⟨t, ht', rfl⟩ := Option.map_eq_some_iff.mp hx
    have hm : t ∈ a := List.mem_of_getElem? ht'
    have p1 := ((pa.take i).lprod pb).gath
    have p2 := pa.lby hm pb
    have p3 := (p1.mono (Nat.le_refl _) (Nat.le_add_right _ (N * M)) (Nat.le_refl _)).append (p2.mono (Nat.le_refl _) (Nat.le_add_left _ (L * K * (N * M))) (Nat.le_refl _))
    have ts := p3.ts hn (Nat.mul_pos hd he) hde hLK hbig
    have ea := ha (gath (lprodL (a.take i) b)) (.list ((lbyT t b).map termD)) (lbyT t b) (cn_gath _).nd rfl ts
    rw [gath_gath] at ea
    have e2 : lprodL (a.take (i + 1)) b = lprodL (a.take i) b ++ lbyT t b := by
      rw [take_snoc ht']; unfold lprodL; rw [List.flatMap_append, List.flatMap_singleton]
    have hk := hk [.val (polyD a), .val (polyD b), .val (polyD (gath (lprodL (a.take (i + 1)) b))), .val (tupI t.1), .val (ratD t.2), .val (.list ((lbyT t b).map termD)), .no, .no, .no, .no] ⟨_, _, _, rfl, rfl, rfl, rfl⟩
    rw [e2] at hk
    generalize gath (lprodL (a.take i) b) = Y at *
    have ec : compL (turnR [6, 7] true (ev F (.tup (.cons (.b1 .tuple (.e (.fre (.comp (.bin .add (.var 8) (.var 9)) [8, 9] true (.zip (.var 3) (.var 6)) .none)))) (.cons (.call c (.cons (.v (.var 4)) (.cons (.v (.var 7)) .nil))) .nil)))) none) (b.map termD) [] [.val (polyD a), .val (polyD b), .val (polyD Y), .val (tupI t.1), .val (ratD t.2), s5, .no, .no, .no, .no] = .ok ([] ++ b.map fun u => termD (joinP t.1 u.1, t.2 * u.2)) [.val (polyD a), .val (polyD b), .val (polyD Y), .val (tupI t.1), .val (ratD t.2), s5, .no, .no, .no, .no] := by
      refine compL_on _ _ _ _ fun u hu => ?_
      have em := ht t.2 u.2 (ra t hm) (rb u hu)
      have ej : compL (turnR [8, 9] true (ev F (.bin .add (.var 8) (.var 9))) none) ((t.1.zip u.1).map fun p => pairD (.int p.1) (.int p.2)) [] [.val (polyD a), .val (polyD b), .val (polyD Y), .val (tupI t.1), .val (ratD t.2), s5, .val (tupI u.1), .val (ratD u.2), .no, .no] = .ok ([] ++ (t.1.zip u.1).map fun p => .int (p.1 + p.2)) [.val (polyD a), .val (polyD b), .val (polyD Y), .val (tupI t.1), .val (ratD t.2), s5, .val (tupI u.1), .val (ratD u.2), .no, .no] := by
        refine compL_on _ _ _ _ fun p hp => ?_
        simp -implicitDefEqProofs
      have ez : ∀ μ, zip2D (tupI t.1) (tupI u.1) μ = .ok ((t.1.zip u.1).map fun p => pairD (.int p.1) (.int p.2)) μ := fun μ => by
        unfold tupI; rw [zip2_tup, zip_ints]
      rw [show ([] ++ (t.1.zip u.1).map fun p => PyData.int (p.1 + p.2)) = (joinP t.1 u.1).map .int by unfold joinP; rw [List.map_map]; rfl] at ej
      have et : tupD (.list ((joinP t.1 u.1).map .int)) = some (tupI (joinP t.1 u.1)) := rfl
      simp -implicitDefEqProofs [em, ez, ej, et, -tupD_list, termD]
    rw [show ([] ++ b.map fun u => termD (joinP t.1 u.1, t.2 * u.2)) = (lbyT t b).map termD by unfold lbyT; rw [List.map_map]; rfl] at ec
    simp -implicitDefEqProofs [isLck_f f3, isLck_f f4, isLck_f f5, ec, ea]
    exact hk
  · rintro μ ⟨s3, s4, s5, rfl, f3, f4, f5⟩
    rw [List.length_map, List.take_length]
    simp -implicitDefEqProofs [outsOf]
end Mn
set_option Elab.async false
set_option linter.all false
set_option maxRecDepth 100000
set_option autoImplicit false
set_option maxHeartbeats 1000000
set_option exponentiation.threshold 10000
namespace Mn
open PySem PySem.Spec Lb
open scoped Rat
/-! ## numbers and polynomials by draws -/
/-- a multiple of 1, 2, .. 30 -/
abbrev dd : Nat := 2329089562800
abbrev NN : Nat := 2 ^ 110
theorem dvd_dd {b : Nat} (h1 : 1 ≤ b) (h2 : b ≤ 30) : b ∣ dd := by
  have : ∀ c ∈ List.range 31, 1 ≤ c → dd % c = 0 := by decide
  exact Nat.dvd_of_mod_eq_zero (this b (List.mem_range.mpr (by omega)) h1)
theorem cd_divInt {a : Int} {b : Nat} (h1 : 1 ≤ b) (h2 : b ≤ 30) (ha : a.natAbs ≤ 2 ^ 68) : Cd dd NN (a /. (b : Int)) := by
  obtain ⟨c, hc⟩ := dvd_dd h1 h2
  refine ⟨a * c, ?_, ?_⟩
  · rw [hc, Rat.divInt_eq_div, Rat.intCast_mul, Rat.natCast_mul]
    have hb : ((b : Int) : Rat) ≠ 0 := by
      intro z
      have := Rat.intCast_eq_zero_iff.mp z
      omega
    have := Rat.div_mul_cancel (a := (a : Rat)) hb
    show (a : Rat) / ((b : Int) : Rat) * (((b : Int) : Rat) * ((c : Int) : Rat)) = (a : Rat) * ((c : Int) : Rat)
    rw [← Rat.mul_assoc, this]
  · rw [Int.natAbs_mul, Int.natAbs_natCast]
    have hc2 : c ≤ dd := by
      rw [hc]
      exact Nat.le_mul_of_pos_left c (by omega)
    exact Nat.le_trans (Nat.mul_le_mul ha hc2) (by decide)
/-- a number as drawn -/
structure NumB (q : Rat) : Prop where
  nz : q ≠ 0
  cd : Cd dd NN q
  den : q.den ≤ 30
  num : q.num.natAbs ≤ 2 ^ 67
theorem cd_own {a : Int} {b : Nat} (h1 : 1 ≤ b) : Cd b a.natAbs (a /. (b : Int)) := by
  have hb : ((b : Int) : Rat) ≠ 0 := by
    intro z
    have := Rat.intCast_eq_zero_iff.mp z
    omega
  refine ⟨a, ?_, Nat.le_refl _⟩
  rw [Rat.divInt_eq_div]
  exact Rat.div_mul_cancel (a := (a : Rat)) hb
def NumS (G : List Sl → FR) : Prop := ∀ (m : Nat) (T : D), TapeB m T → m ≤ 100000000000 → ∃ q T', G [.own T] = .ok (ratD q) [T'] ∧ NumB q ∧ TapeB (m + 5) T'
theorem numS (F : Nat → List Sl → FR) (W c c2 : Nat) (hd : DrawS (F c)) (hr : RatioS (F c2)) : NumS (runFn F W (f_l_number c c2)) := by
  intro m T h hm
  suffices hw : ∀ Q : D → List D → Prop, (∀ q T', NumB q ∧ TapeB (m + 5) T' → Q (ratD q) [T']) → (runFn F W (f_l_number c c2) [.own T]).wp Q by
    obtain ⟨d, o, e, q, T', rfl, rfl, r⟩ := FR.wp_elim (hw (fun d o => ∃ q T', d = ratD q ∧ o = [T'] ∧ NumB q ∧ TapeB (m + 5) T') fun q T' r => ⟨q, T', rfl, rfl, r⟩)
    exact ⟨q, T', e, r⟩
  intro Q hQ
  obtain ⟨r1, T1, e1, a1, b1, t1⟩ := hd _ T 40 h (by omega) (by decide) (by decide)
  obtain ⟨r2, T2, e2, a2, b2, t2⟩ := hd _ T1 7 t1 (by omega) (by decide) (by decide)
  obtain ⟨r3, T3, e3, a3, b3, t3⟩ := hd _ T2 30 t2 (by omega) (by decide) (by decide)
  obtain ⟨r4, T4, e4, a4, b4, t4⟩ := hd _ T3 7 t3 (by omega) (by decide) (by decide)
  obtain ⟨r5, T5, e5, a5, b5, t5⟩ := hd _ T4 2 t4 (by omega) (by decide) (by decide)
  have pw : powD (.int 10) (.int 20) = some (.int 100000000000000000000) := rfl
  obtain ⟨d1, v1, top, rfl, p1⟩ := atI_pick (P := fun d => ∃ v : Int, d = .int v ∧ 1 ≤ v ∧ v ≤ 100000000000000000039) (l := [PyData.int 1, .int 1, .int 2, .int 3, .int 5, .int (1 + r1), .int 100000000000000000039]) a2 b2 (by simp; omega)
  obtain ⟨d2, v2, bot, rfl, p2⟩ := atI_pick (P := fun d => ∃ v : Int, d = .int v ∧ 1 ≤ v ∧ v ≤ 30) (l := [PyData.int 1, .int 1, .int 1, .int 1, .int 2, .int 3, .int (1 + r3)]) a4 b4 (by simp; omega)
  obtain ⟨d3, v3, tt, rfl, p3⟩ := atI_pick (P := fun d => ∃ v : Int, d = .int v ∧ (v = top ∨ v = -top)) (l := [PyData.int top, .int (-top)]) a5 b5 (by simp)
  have hb : bot.natAbs = bot := by omega
  obtain ⟨bn, hbn⟩ : ∃ bn : Nat, bot = (bn : Int) := ⟨bot.toNat, by omega⟩
  have hta : tt.natAbs ≤ 2 ^ 68 := by omega
  have e6 := hr tt bot (by omega) (Nat.lt_of_le_of_lt hta (Nat.pow_lt_pow_right (by decide) (by decide))) (Nat.lt_of_le_of_lt (show bot.natAbs ≤ 2 ^ 68 by omega) (Nat.pow_lt_pow_right (by decide) (by decide)))
  refine wp_run rfl rfl ?_
  simp -implicitDefEqProofs [f_l_number, e1, e2, e3, e4, e5, v1, v2, v3, e6, pw, outsOf]
  have ow := (cd_own (a := tt) (b := bn) (by omega)).le (by omega)
  rw [← hbn] at ow
  refine hQ _ T5 ⟨⟨?_, ?_, by omega, by omega⟩, t5⟩
  · intro z
    have hb0 : ((bot : Int) : Rat) ≠ 0 := fun z => by
      have := Rat.intCast_eq_zero_iff.mp z
      omega
    have := Rat.div_mul_cancel (a := (tt : Rat)) hb0
    rw [← Rat.divInt_eq_div, z, Rat.zero_mul] at this
    have := Rat.intCast_eq_zero_iff.mp this.symm
    omega
  · rw [hbn]
    exact cd_divInt (by omega) (by omega) hta
theorem mem_tput {tb : List Tm} {k : List Int} {v : Rat} {t : Tm} (h : t ∈ tput tb k v) : t ∈ tb ∨ t = (k, v) := by
  induction tb with
  | nil => exact .inr (List.mem_singleton.mp h)
  | cons u tb ih =>
    obtain ⟨l, w⟩ := u
    unfold tput at h
    split at h
    · rename_i e
      rcases List.mem_cons.mp h with q | q
      · exact .inr (by rw [q, e])
      · exact .inl (List.mem_cons_of_mem _ q)
    · rcases List.mem_cons.mp h with q | q
      · exact .inl (by rw [q]; exact List.mem_cons_self)
      · rcases ih q with q | q
        · exact .inl (List.mem_cons_of_mem _ q)
        · exact .inr q
theorem tget_mem {tb : List Tm} {k : List Int} {v : Rat} (h : tget tb k = some v) : (k, v) ∈ tb := by
  induction tb with
  | nil => cases h
  | cons u tb ih =>
    obtain ⟨l, w⟩ := u
    unfold tget at h
    split at h
    · rename_i e
      rw [e, Option.some.inj h]; exact List.mem_cons_self
    · exact List.mem_cons_of_mem _ (ih h)
theorem gathT_mem {tb : List Tm} {t : Tm} (h : t ∈ gathT tb) : t ∈ tb := by
  obtain ⟨h1, h2⟩ := mem_gathT h
  have := tget_mem (g0_of h1)
  rw [← h2] at this
  exact this
section
variable {n x d N L : Nat} {p : List Tm}
theorem Pb.tput {k : List Int} {v : Rat} (h : Pb n x d N L p) (h1 : k.length = n) (h2 : ∀ y ∈ k, 0 ≤ y ∧ y ≤ x) (h3 : Cd d N v) : Pb n x d N (L + 1) (tput p k v) := by
  refine ⟨Nat.le_trans (len_tput p k v) (Nat.succ_le_succ h.len), fun t ht => ?_, fun t ht => ?_, fun t ht => ?_⟩ <;> rcases mem_tput ht with q | q
  · exact h.wid t q
  · rw [q]; exact h1
  · exact h.rng t q
  · rw [q]; exact h2
  · exact h.cd t q
  · rw [q]; exact h3
theorem Pb.gathT (h : Pb n x d N L p) : Pb n x d N L (gathT p) := ⟨Nat.le_trans (len_gathT p) h.len, fun t ht => h.wid t (gathT_mem ht), fun t ht => h.rng t (gathT_mem ht), fun t ht => h.cd t (gathT_mem ht)⟩
end
def PolyS (G : List Sl → FR) : Prop := ∀ (m : Nat) (T : D) (n many most : Nat), TapeB m T → m ≤ 10000000000 → 1 ≤ n → n ≤ 4 → many ≤ 20 → most ≤ 1000 → ∃ p T', G [.own T, .val (.int n), .val (.int many), .val (.int most)] = .ok (polyD p) [T'] ∧ Cn2 p ∧ Pb n most dd NN many p ∧ TapeB (m + 500) T'
theorem polyS (F : Nat → List Sl → FR) (W c c2 c3 : Nat) (hd : DrawS (F c)) (hu : NumS (F c2)) (hg : LGathS (F c3)) : PolyS (runFn F W (f_l_poly c c2 c3)) := by
  intro m T n many most h hm h1 h4 hmany hmost
  suffices hw : ∀ Q : D → List D → Prop, (∀ p T', Cn2 p ∧ Pb n most dd NN many p ∧ TapeB (m + 500) T' → Q (polyD p) [T']) → (runFn F W (f_l_poly c c2 c3) [.own T, .val (.int n), .val (.int many), .val (.int most)]).wp Q by
    obtain ⟨d, o, e, q, T', rfl, rfl, r⟩ := FR.wp_elim (hw (fun d o => ∃ q T', d = polyD q ∧ o = [T'] ∧ Cn2 q ∧ Pb n most dd NN many q ∧ TapeB (m + 500) T') fun q T' r => ⟨q, T', rfl, rfl, r⟩)
    exact ⟨q, T', e, r⟩
  intro Q hQ
  have n0 : (0 : Int) ≤ n := by omega
  have n1 : (n : Int) ≤ 1000 := by omega
  refine wp_run rfl rfl ?_
  obtain ⟨r1, T1, e1, a1, b1, t1⟩ := hd _ T (many + 1) h (by omega) (by omega) (by omega)
  simp -implicitDefEqProofs [f_l_poly, e1, rng1_ok a1 (show r1 ≤ 1000 by omega)]
  refine wp_forL (fun i μ => ∃ (T' : D) (tb : List Tm) (s5 s6 : Sl), μ = [.own T', .val (.int n), .val (.int many), .val (.int most), .own (.dict (tabD tb)), s5, s6, .no] ∧ TapeB (m + 1 + 12 * i) T' ∧ Nd tb ∧ Pb n most dd NN i tb ∧ FrS s5 ∧ FrS s6) _ _ ?_ ?_ ?_
  · exact ⟨T1, [], .no, .no, rfl, t1, List.nodup_nil, ⟨Nat.le_refl _, by simp, by simp, by simp⟩, rfl, rfl⟩
  · rintro i z μ Q' hz ⟨T2, tb, s5, s6, rfl, t2, nd, pb, f5, f6⟩ hk
    obtain ⟨hi, rfl⟩ := rangeD_get hz
    simp -implicitDefEqProofs [isLck_f f5, rng1_ok n0 n1]
    refine wp_compL (fun j acc μ => ∃ (T' : D) (ps : List Int), μ = [.own T', .val (.int n), .val (.int many), .val (.int most), .own (.dict (tabD tb)), .val (.int i), s6, .no] ∧ TapeB (m + 1 + 12 * i + j) T' ∧ acc = ps.map PyData.int ∧ ps.length = j ∧ ∀ p ∈ ps, 0 ≤ p ∧ p ≤ most) _ _ ?_ ?_ ?_
    · exact ⟨T2, [], rfl, t2, rfl, rfl, by simp⟩
    · rintro j d acc μ Q2 hd' ⟨T3, ps, rfl, t3, rfl, hl, hp⟩ hk2
      obtain ⟨hj, rfl⟩ := rangeD_get hd'
      obtain ⟨r4, T4, e4, a4, b4, t4⟩ := hd _ T3 (most + 1) t3 (by omega) (by omega) (by omega)
      simp -implicitDefEqProofs [e4]
      refine hk2 _ _ ⟨T4, ps ++ [r4], rfl, t4, by simp, by simp [hl], ?_⟩
      intro p hq
      rcases List.mem_append.mp hq with hq | hq
      · exact hp p hq
      · rw [List.mem_singleton] at hq; subst hq; omega
    · rintro acc μ ⟨T3, ps, rfl, t3, rfl, hl, hp⟩
      rw [rangeD_len] at hl t3
      obtain ⟨r4, T4, e4, a4, b4, t4⟩ := hd _ T3 3 t3 (by omega) (by decide) (by decide)
      obtain ⟨q, T5, e5, q2, t5⟩ := hu _ T4 t4 (by omega)
      have hl2 : tb.length ≤ 1000000 := by have := pb.len; omega
      have hn0 := mulD_nought (n := (n : Int)) (by omega) n1 0
      rw [Int.toNat_natCast] at hn0
      have fin : ∀ ks : List Int, ks.length = n → (∀ y ∈ ks, 0 ≤ y ∧ y ≤ most) → Q' .nx [.own T5, .val (.int n), .val (.int many), .val (.int most), .own (.dict (tabD (tput tb ks q))), .val (.int i), .val (tupI ks), .no] := fun ks hks hky =>
        hk _ ⟨T5, tput tb ks q, _, _, rfl, t5.mono (by omega), nd.tput ks q, pb.tput hks hky q2.cd, rfl, rfl⟩
      have f1 := fin ps hl hp
      have f2 := fin (List.replicate n 0) List.length_replicate (fun y hy => by rw [(List.mem_replicate.mp hy).2]; omega)
      have tp : PyData.tuple (ps.map .int) = tupI ps := rfl
      by_cases z : r4 = 0
      · simp -implicitDefEqProofs [isLck_f f6, e4, z, e5, tp, hn0, dsetO_tab hl2]
        exact f2
      · simp -implicitDefEqProofs [isLck_f f6, e4, z, e5, tp, dsetO_tab hl2]
        exact f1
  · rintro μ ⟨T2, tb, s5, s6, rfl, t2, nd, pb, f5, f6⟩
    rw [rangeD_len] at *
    have e := hg tb (pb.ne h1)
    simp -implicitDefEqProofs [e, outsOf]
    exact hQ _ _ ⟨cn_gathT nd, pb.gathT.mono (Nat.le_refl _) (Nat.le_refl _) (by omega), t2.mono (by omega)⟩
end Mn
set_option Elab.async false
set_option linter.all false
set_option maxRecDepth 100000
set_option autoImplicit false
set_option maxHeartbeats 1000000
set_option exponentiation.threshold 10000
namespace Mn
open PySem PySem.Spec Lb
/-! ## what repr shows of polynomials -/
/-- turns of a while -/
@[irreducible] def Wb : Nat := 2 ^ 9000
theorem Wb_big : 2 ^ 9000 ≤ Wb := by unfold Wb; exact Nat.le_refl _
theorem Wb_64 : 64 < Wb := Nat.lt_of_lt_of_le (by decide) Wb_big
theorem shw_rat {d N : Nat} {q : Rat} (h : Cd d N q) (hd : 0 < d) (h1 : d < 2 ^ 1900) (h2 : N < 2 ^ 1900) : Shw 3809 1 (ratD q) := by
  obtain ⟨a, b⟩ := h.le hd
  refine shw_tuple (n := 2) (L := 1901) (k := 0) (Nat.le_refl 2) fun x hx => ?_
  simp at hx
  rcases hx with rfl | rfl
  · exact shw_int (b := 1900) (by decide) (by decide) (Nat.lt_of_le_of_lt b h2)
  · exact shw_int (b := 1900) (by decide) (by decide) (by rw [Int.natAbs_natCast]; exact Nat.lt_of_le_of_lt a h1)
theorem shw_poly {n x d N L : Nat} {p : List Tm} (h : Pb n x d N L p) (hn : n ≤ 4) (hx : x < 2 ^ 1900) (hd : 0 < d) (h1 : d < 2 ^ 1900) (h2 : N < 2 ^ 1900) (hL : L ≤ 100) : Shw 1523903 3 (polyD p) := by
  refine shw_tuple (n := 100) (L := 15237) (k := 2) (by rw [List.length_map]; exact Nat.le_trans h.len hL) fun y hy => ?_
  obtain ⟨t, ht, rfl⟩ := List.mem_map.mp hy
  refine shw_tuple (n := 2) (L := 7615) (k := 1) (Nat.le_refl 2) fun z hz => ?_
  simp at hz
  rcases hz with rfl | rfl
  · refine shw_tupI (n := 4) (b := 1900) (by rw [h.wid t ht]; exact hn) (by decide) (by decide) fun v hv => ?_
    have := h.rng t ht v hv
    exact Nat.lt_of_le_of_lt (show v.natAbs ≤ x by omega) hx
  · exact (shw_rat (h.cd t ht) hd h1 h2).mono (by decide) (Nat.le_refl _)
theorem shw_nil : Shw 1523903 3 (polyD []) := shw_poly (n := 0) (x := 0) (d := 1) (N := 0) (L := 0) ⟨Nat.le_refl _, by simp, by simp, by simp⟩ (by decide) (Nat.two_pow_pos _) (by decide) (Nat.one_lt_two_pow (by decide)) (Nat.two_pow_pos _) (by decide)
theorem repr_list {ds : List D} (hl : ds.length ≤ 10) (h : ∀ d ∈ ds, Shw 1523903 3 d) : ∃ s, reprD (.list ds) = some (.str s) := ⟨_, reprD_ok (shw_list (n := 10) hl h) (by decide) (by decide)⟩
theorem repr_tuple {ds : List D} (hl : ds.length ≤ 10) (h : ∀ d ∈ ds, Shw 1523903 3 d) : ∃ s, reprD (.tuple ds) = some (.str s) := ⟨_, reprD_ok (shw_tuple (n := 10) hl h) (by decide) (by decide)⟩
theorem repr_poly {d : D} (h : Shw 1523903 3 d) : ∃ s, reprD d = some (.str s) := ⟨_, reprD_ok h (by decide) (by decide)⟩
theorem tsOk_nil : TsOk [] := ⟨by decide, fun _ ht => (List.not_mem_nil ht).elim, fun _ ht => (List.not_mem_nil ht).elim, fun i k => by rw [List.take_nil]; exact RB.zero⟩
/-! a tuple of ints that a module holds -/
theorem dvs_ints {K : PySem.W.Frag} {H : L2.Hp} {L : Ads} : ∀ is : List Int, Dvs K H L (is.map .int) (is.map L2.V.int)
  | [] => .nil
  | i :: is => .cons (.int i) (dvs_ints is)
theorem glob_tup {K : PySem.W.Frag} {x : Str} {a : Addr} {its : Array Value} {n : Nat} {is : List Int} (e1 : PySem.W.nsIn K mainGlobals x = some (some (.ref a))) (e2 : K.lookup a = some { cls := .type "tuple", data := .seq its n }) (e3 : L2.Vals (is.map L2.V.int) its.toList) (e4 : its.size ≤ sizeLine) :
    ∃ v u, PySem.W.nsIn K mainGlobals x = some (some u) ∧ L2.RelV v u ∧ ∀ H L, Dv K H L (.tuple (is.map .int)) v :=
  ⟨.ref a, .ref a, e1, rfl, fun H L => .tupK ⟨its, n, e2, e4, e3⟩ (dvs_ints is)⟩
/-! every second term -/
theorem evens_map {α β : Type} (f : α → β) : ∀ l : List α, evens (l.map f) = (evens l).map f
  | [] => rfl
  | [_] => rfl
  | x :: y :: l => by show f x :: evens (l.map f) = f x :: (evens l).map f; rw [evens_map f l]
theorem mem_evens {α : Type} {a : α} : ∀ {l : List α}, a ∈ evens l → a ∈ l
  | [], h => h
  | [_], h => h
  | x :: y :: l, h => by
    rcases List.mem_cons.mp h with q | q
    · rw [q]; exact List.mem_cons_self
    · exact List.mem_cons_of_mem _ (List.mem_cons_of_mem _ (mem_evens q))
theorem len_evens {α : Type} : ∀ l : List α, (evens l).length ≤ l.length
  | [] => Nat.le_refl _
  | [_] => Nat.le_refl _
  | x :: y :: l => by
    show (evens l).length + 1 ≤ l.length + 1 + 1
    have := len_evens l
    omega
theorem sl2_poly (p : List Tm) : slStD 2 (polyD p) = some (polyD (evens p)) := by
  show some (PyData.tuple (evens (p.map termD))) = _
  rw [evens_map]; rfl
theorem Pb.evens {n x d N L : Nat} {p : List Tm} (h : Pb n x d N L p) : Pb n x d N L (evens p) := ⟨Nat.le_trans (len_evens p) h.len, fun t ht => h.wid t (mem_evens ht), fun t ht => h.rng t (mem_evens ht), fun t ht => h.cd t (mem_evens ht)⟩
theorem Lf_neg (φ : List Int → Rat) : ∀ a : List Tm, Lf φ (negP a) = -Lf φ a
  | [] => by show (0 : Rat) = -0; grind
  | t :: a => by
    show -t.2 * φ t.1 + Lf φ (negP a) = -(t.2 * φ t.1 + Lf φ a)
    rw [Lf_neg φ a]; grind
theorem gath_self_neg (a : List Tm) : gath (a ++ negP a) = [] := by
  rw [← gath_nil]
  refine gath_eq fun k => ?_
  show Lf _ _ = 0
  rw [Lf_append, Lf_neg]; grind
end Mn
set_option linter.all false
set_option maxRecDepth 100000
namespace Lb
open PySem Mn

def f_letter_of : Fn := ⟨"letter_of", ["n", "letter"], ["n", "letter", "k"], [],
(.cons (.ret (.tup (.cons (.tup (.cons (.b1 .tuple (.e (.fre (.comp (.b1 .int (.e (.cmp .eq (.e (.var 2)) (.e (.var 1))))) [2] false (.rng1 (.var 0)) .none)))) (.cons (.glob "ONE" (.tuple [.int 1, .int 1])) .nil))) .nil)))
.nil)⟩
def f_l_whole : Fn := ⟨"_law_whole", ["_law_thing"], ["_law_thing"], [],
(.cons (.ret (.and (.cons (.isi (.var 0) .int) (.cons (.not (.isi (.var 0) .bool)) .nil))))
.nil)⟩
def f_l_is_term (c_l_whole c_l_gcd : Nat) : Fn := ⟨"_law_is_term", ["_law_n", "_law_thing"], ["_law_n", "_law_thing", "_law_number_here", "_law_one"], [],
(.cons (.ife (.or (.cons (.not (.isi (.var 1) .tuple)) (.cons (.cmp .ne (.e (.b1 .len (.e (.var 1)))) (.e (.int 2))) (.cons (.not (.isi (.ix (.e (.var 1)) (.int 0)) .tuple)) (.cons (.cmp .ne (.e (.b1 .len (.e (.ix (.e (.var 1)) (.int 0))))) (.e (.var 0))) .nil)))))
(.cons (.ret (.bl false))
.nil)
.nil)
(.cons (.ife (.cmp .ne (.e (.fre (.comp (.var 3) [3] false (.seq (.e (.ix (.e (.var 1)) (.int 0)))) (.some (.or (.cons (.not (.call c_l_whole (.cons (.v (.var 3)) .nil))) (.cons (.cmp .lt (.e (.var 3)) (.e (.int 0))) .nil))))))) (.e (.fre (.disp .nil))))
(.cons (.ret (.bl false))
.nil)
.nil)
(.cons (.asg 2 (.ix (.e (.var 1)) (.int 1)))
(.cons (.ife (.or (.cons (.not (.isi (.var 2) .tuple)) (.cons (.cmp .ne (.e (.b1 .len (.e (.var 2)))) (.e (.int 2))) .nil)))
(.cons (.ret (.bl false))
.nil)
.nil)
(.cons (.ife (.or (.cons (.not (.call c_l_whole (.cons (.v (.ix (.e (.var 2)) (.int 0))) .nil))) (.cons (.not (.call c_l_whole (.cons (.v (.ix (.e (.var 2)) (.int 1))) .nil))) (.cons (.cmp .lt (.e (.ix (.e (.var 2)) (.int 1))) (.e (.int 1))) .nil))))
(.cons (.ret (.bl false))
.nil)
.nil)
(.cons (.ret (.and (.cons (.cmp .ne (.e (.ix (.e (.var 2)) (.int 0))) (.e (.int 0))) (.cons (.cmp .eq (.e (.call c_l_gcd (.cons (.v (.b1 .abs (.e (.ix (.e (.var 2)) (.int 0))))) (.cons (.v (.ix (.e (.var 2)) (.int 1))) .nil)))) (.e (.int 1))) .nil))))
.nil))))))⟩
def f_l_is_poly (c_l_is_term : Nat) : Fn := ⟨"_law_is_poly", ["_law_n", "_law_thing"], ["_law_n", "_law_thing", "_law_powers", "_law_term", "_law_k", "_law_one"], [],
(.cons (.ife (.or (.cons (.not (.isi (.var 1) .tuple)) (.cons (.cmp .ne (.e (.fre (.comp (.var 5) [5] false (.seq (.e (.var 1))) (.some (.not (.call c_l_is_term (.cons (.v (.var 0)) (.cons (.v (.var 5)) .nil)))))))) (.e (.fre (.disp .nil)))) .nil)))
(.cons (.ret (.bl false))
.nil)
.nil)
(.cons (.asg 2 (.fre (.comp (.ix (.e (.var 3)) (.int 0)) [3] false (.seq (.e (.var 1))) .none)))
(.cons (.ret (.cmp .eq (.e (.fre (.comp (.var 4) [4] false (.rng2 (.int 1) (.b1 .len (.e (.var 2)))) (.some (.cmp .le (.e (.ix (.e (.var 2)) (.bin .sub (.var 4) (.int 1)))) (.e (.ix (.e (.var 2)) (.var 4)))))))) (.e (.fre (.disp .nil)))))
.nil)))⟩
def f_l_bent (c_l_draw c_l_bent : Nat) : Fn := ⟨"_law_bent", ["_law_tape_here", "_law_thing"], ["_law_tape_here", "_law_thing", "_law_at", "_law_some"], [0],
(.cons (.ife (.and (.cons (.isi (.var 1) .tuple) (.cons (.cmp .ne (.e (.var 1)) (.e (.tup .nil))) (.cons (.cmp .gt (.e (.call c_l_draw (.cons (.io 0) (.cons (.v (.int 5)) .nil)))) (.e (.int 0))) .nil))))
(.cons (.asg 2 (.call c_l_draw (.cons (.io 0) (.cons (.v (.b1 .len (.e (.var 1)))) .nil))))
(.cons (.ret (.bin .add (.bin .add (.sl (.e (.var 1)) .none (.some (.var 2))) (.tup (.cons (.call c_l_bent (.cons (.io 0) (.cons (.v (.ix (.e (.var 1)) (.var 2))) .nil))) .nil))) (.sl (.e (.var 1)) (.some (.bin .add (.var 2) (.int 1))) .none)))
.nil))
.nil)
(.cons (.ife (.isi (.var 1) .tuple)
(.cons (.asg 2 (.call c_l_draw (.cons (.io 0) (.cons (.v (.bin .add (.b1 .len (.e (.var 1))) (.int 1))) .nil))))
(.cons (.asg 3 (.fre (.disp (.cons (.fre (.listOf (.seq (.e (.var 1))))) (.cons (.bin .add (.sl (.e (.var 1)) .none (.some (.var 2))) (.sl (.e (.var 1)) (.some (.bin .add (.var 2) (.int 1))) .none)) (.cons (.bin .add (.var 1) (.sl (.e (.var 1)) .none (.some (.int 1)))) (.cons (.slSt (.var 1) (-1)) (.cons (.bin .add (.var 1) (.tup (.cons (.int 0) .nil))) (.cons (.tup (.cons (.int 0) (.cons (.int 1) .nil))) (.cons (.tup (.cons (.int 2) (.cons (.int 4) .nil))) .nil))))))))))
(.cons (.ret (.ix (.e (.var 3)) (.call c_l_draw (.cons (.io 0) (.cons (.v (.int 7)) .nil)))))
.nil)))
.nil)
(.cons (.ife (.and (.cons (.isi (.var 1) .int) (.cons (.not (.isi (.var 1) .bool)) .nil)))
(.cons (.ret (.ix (.e (.fre (.disp (.cons (.bin .add (.var 1) (.int 1)) (.cons (.bin .sub (.var 1) (.int 1)) (.cons (.cmp .eq (.e (.var 1)) (.e (.int 1))) (.cons .non (.cons (.int 0) (.cons (.bin .sub (.int 0) (.var 1)) (.cons (.int 999) (.cons (.int 1000) (.cons (.b1 .str (.e (.var 1))) .nil)))))))))))) (.call c_l_draw (.cons (.io 0) (.cons (.v (.int 9)) .nil)))))
.nil)
.nil)
(.cons (.ret (.ix (.e (.fre (.disp (.cons .non (.cons (.bl true) (.cons (.int 0) (.cons (.int 1) (.cons (.str "a") (.cons (.tup .nil) (.cons (.fre (.disp .nil)) (.cons (.tup (.cons (.int 0) .nil)) .nil))))))))))) (.call c_l_draw (.cons (.io 0) (.cons (.v (.int 8)) .nil)))))
.nil))))⟩
end Lb
set_option linter.all false
set_option maxRecDepth 100000
namespace Lb
open PySem Mn

def f_over (c_ratio : Nat) : Fn := ⟨"over", ["one", "other"], ["one", "other"], [],
(.cons (.ret (.call c_ratio (.cons (.v (.bin .mul (.ix (.e (.var 0)) (.int 0)) (.ix (.e (.var 1)) (.int 1)))) (.cons (.v (.bin .mul (.ix (.e (.var 0)) (.int 1)) (.ix (.e (.var 1)) (.int 0)))) .nil))))
.nil)⟩
def f_step_to (c_over c_over_powers : Nat) : Fn := ⟨"step_to", ["term", "powers"], ["term", "powers"], [],
(.cons (.ret (.tup (.cons (.call c_over_powers (.cons (.v (.var 1)) (.cons (.v (.ix (.e (.var 0)) (.int 0))) .nil))) (.cons (.call c_over (.cons (.v (.glob "ONE" (.tuple [.int 1, .int 1]))) (.cons (.v (.ix (.e (.var 0)) (.int 1))) .nil))) .nil))))
.nil)⟩
def f_pair_of (c_lead c_joint c_lessened c_by_term c_step_to : Nat) : Fn := ⟨"pair_of", ["order", "one", "other"], ["order", "one", "other", "first", "second", "meeting"], [],
(.cons (.asg 3 (.call c_lead (.cons (.v (.var 0)) (.cons (.v (.var 1)) .nil))))
(.cons (.asg 4 (.call c_lead (.cons (.v (.var 0)) (.cons (.v (.var 2)) .nil))))
(.cons (.asg 5 (.call c_joint (.cons (.v (.ix (.e (.var 3)) (.int 0))) (.cons (.v (.ix (.e (.var 4)) (.int 0))) .nil))))
(.cons (.ret (.call c_lessened (.cons (.v (.call c_by_term (.cons (.v (.var 1)) (.cons (.v (.call c_step_to (.cons (.v (.var 3)) (.cons (.v (.var 5)) .nil)))) .nil)))) (.cons (.v (.call c_by_term (.cons (.v (.var 2)) (.cons (.v (.call c_step_to (.cons (.v (.var 4)) (.cons (.v (.var 5)) .nil)))) .nil)))) .nil))))
.nil))))⟩
def f_l_tape_2 : Fn := ⟨"_law_tape", ["_law_script"], ["_law_script"], [],
(.cons (.retF (.disp (.cons (.var 0) (.cons (.int 0) (.cons (.int 0) .nil)))))
.nil)⟩
def f_l_draw_2 : Fn := ⟨"_law_draw", ["_law_tape_here", "_law_many"], ["_law_tape_here", "_law_many", "_law_found", "_law_spot", "_law_cell", "_law_mixed"], [0],
(.cons (.ife (.cmp .eq (.e (.ix (.pk 0) (.int 2))) (.e (.int 0)))
(.cons (.asg 3 (.ix (.pk 0) (.int 1)))
(.cons (.seti 0 (.int 1) (.bin .add (.var 3) (.int 1)))
(.cons (.asg 4 (.var 3))
(.cons (.ife (.cmp .gt (.e (.b1 .len (.e (.ix (.pk 0) (.int 0))))) (.e (.int 0)))
(.cons (.asg 4 (.ix (.e (.ix (.pk 0) (.int 0))) (.bin .mod (.var 3) (.b1 .len (.e (.ix (.pk 0) (.int 0)))))))
.nil)
.nil)
(.cons (.ife (.or (.cons (.cmp .lt (.e (.var 4)) (.e (.bin .pow (.int 10) (.int 18)))) (.cons (.cmp .ge (.e (.var 3)) (.e (.b1 .len (.e (.ix (.pk 0) (.int 0)))))) .nil)))
(.cons (.asg 5 (.bin .mod (.bin .mul (.bin .add (.bin .mod (.var 4) (.int 1000003)) (.int 1)) (.bin .add (.int 48271) (.bin .mul (.int 2) (.bin .mod (.var 3) (.int 997))))) (.int 2147483647)))
(.cons (.ret (.bin .mod (.bin .fdiv (.bin .mod (.bin .mul (.bin .add (.var 5) (.bin .mul (.int 104729) (.var 3))) (.int 69621)) (.int 2147483629)) (.int 7)) (.var 1)))
.nil))
.nil)
(.cons (.seti 0 (.int 2) (.var 4))
.nil))))))
.nil)
(.cons (.asg 2 (.bin .mod (.ix (.pk 0) (.int 2)) (.var 1)))
(.cons (.seti 0 (.int 2) (.bin .fdiv (.ix (.pk 0) (.int 2)) (.var 1)))
(.cons (.ret (.var 2))
.nil))))⟩
def f_l_alike (c_l_alike : Nat) : Fn := ⟨"_law_alike", ["_law_due", "_law_found"], ["_law_due", "_law_found", "_law_k"], [],
(.cons (.ife (.or (.cons (.isi (.var 0) .tuple) (.cons (.isi (.var 0) .list) .nil)))
(.cons (.ife (.cmp .ne (.e (.isi (.var 0) .tuple)) (.e (.isi (.var 1) .tuple)))
(.cons (.ret (.bl false))
.nil)
.nil)
(.cons (.ife (.cmp .ne (.e (.isi (.var 0) .list)) (.e (.isi (.var 1) .list)))
(.cons (.ret (.bl false))
.nil)
.nil)
(.cons (.ife (.cmp .ne (.e (.b1 .len (.e (.var 0)))) (.e (.b1 .len (.e (.var 1)))))
(.cons (.ret (.bl false))
.nil)
.nil)
(.cons (.ret (.b1 .all (.e (.fre (.comp (.call c_l_alike (.cons (.v (.ix (.e (.var 0)) (.var 2))) (.cons (.v (.ix (.e (.var 1)) (.var 2))) .nil))) [2] false (.rng1 (.b1 .len (.e (.var 0)))) .none)))))
.nil))))
.nil)
(.cons (.ife (.cmp .isn (.e (.var 0)) (.e .non))
(.cons (.ret (.cmp .isn (.e (.var 1)) (.e .non)))
.nil)
.nil)
(.cons (.ife (.isi (.var 0) .str)
(.cons (.ret (.and (.cons (.isi (.var 1) .str) (.cons (.cmp .eq (.e (.var 1)) (.e (.var 0))) .nil))))
.nil)
.nil)
(.cons (.ife (.isi (.var 0) .bool)
(.cons (.ret (.and (.cons (.isi (.var 1) .bool) (.cons (.cmp .eq (.e (.var 1)) (.e (.var 0))) .nil))))
.nil)
.nil)
(.cons (.ret (.and (.cons (.isi (.var 1) .int) (.cons (.not (.isi (.var 1) .bool)) (.cons (.cmp .eq (.e (.var 1)) (.e (.var 0))) .nil)))))
.nil)))))⟩
def f_l_frac : Fn := ⟨"_law_frac", ["_law_top", "_law_bottom"], ["_law_top", "_law_bottom", "_law_one", "_law_other"], [],
(.cons (.par 2 3 (.b1 .abs (.e (.var 0))) (.var 1))
(.cons (.whl (.cmp .ne (.e (.var 3)) (.e (.int 0)))
(.cons (.par 2 3 (.var 3) (.bin .mod (.var 2) (.var 3)))
.nil))
(.cons (.ret (.tup (.cons (.bin .fdiv (.var 0) (.var 2)) (.cons (.bin .fdiv (.var 1) (.var 2)) .nil))))
.nil)))⟩
def f_l_add (c_l_frac : Nat) : Fn := ⟨"_law_add", ["_law_one", "_law_other"], ["_law_one", "_law_other"], [],
(.cons (.ret (.call c_l_frac (.cons (.v (.bin .add (.bin .mul (.ix (.e (.var 0)) (.int 0)) (.ix (.e (.var 1)) (.int 1))) (.bin .mul (.ix (.e (.var 1)) (.int 0)) (.ix (.e (.var 0)) (.int 1))))) (.cons (.v (.bin .mul (.ix (.e (.var 0)) (.int 1)) (.ix (.e (.var 1)) (.int 1)))) .nil))))
.nil)⟩
def f_l_mul (c_l_frac : Nat) : Fn := ⟨"_law_mul", ["_law_one", "_law_other"], ["_law_one", "_law_other"], [],
(.cons (.ret (.call c_l_frac (.cons (.v (.bin .mul (.ix (.e (.var 0)) (.int 0)) (.ix (.e (.var 1)) (.int 0)))) (.cons (.v (.bin .mul (.ix (.e (.var 0)) (.int 1)) (.ix (.e (.var 1)) (.int 1)))) .nil))))
.nil)⟩
def f_l_turned_2 : Fn := ⟨"_law_turned", ["_law_one"], ["_law_one"], [],
(.cons (.ret (.ife (.cmp .gt (.e (.ix (.e (.var 0)) (.int 0))) (.e (.int 0))) (.tup (.cons (.ix (.e (.var 0)) (.int 1)) (.cons (.ix (.e (.var 0)) (.int 0)) .nil))) (.tup (.cons (.neg (.ix (.e (.var 0)) (.int 1))) (.cons (.neg (.ix (.e (.var 0)) (.int 0))) .nil)))))
.nil)⟩
def f_l_gather (c_l_add : Nat) : Fn := ⟨"_law_gather", ["_law_terms"], ["_law_terms", "_law_table", "_law_powers", "_law_number"], [],
(.cons (.own 1 .dict0)
(.cons (.for_ [2, 3] true (.seq (.e (.var 0)))
(.cons (.dset 1 (.var 2) (.call c_l_add (.cons (.v (.get (.pk 1) (.var 2) (.tup (.cons (.int 0) (.cons (.int 1) .nil))))) (.cons (.v (.var 3)) .nil))))
.nil))
(.cons (.ret (.b1 .tuple (.e (.fre (.comp (.tup (.cons (.var 2) (.cons (.dix (.pk 1) (.var 2)) .nil))) [2] false (.seq (.e (.fre (.sortedRev (.pk 1))))) (.some (.cmp .ne (.e (.dix (.pk 1) (.var 2))) (.e (.tup (.cons (.int 0) (.cons (.int 1) .nil)))))))))))
.nil)))⟩
def f_l_more (c_l_gather c_l_mul : Nat) : Fn := ⟨"_law_more", ["_law_one", "_law_other", "_law_number"], ["_law_one", "_law_other", "_law_number", "_law_powers", "_law_own"], [],
(.cons (.ret (.call c_l_gather (.cons (.v (.fre (.cat (.e (.fre (.listOf (.seq (.e (.var 0)))))) (.e (.fre (.comp (.tup (.cons (.var 3) (.cons (.call c_l_mul (.cons (.v (.var 4)) (.cons (.v (.var 2)) .nil))) .nil))) [3, 4] true (.seq (.e (.var 1))) .none)))))) .nil)))
.nil)⟩
def f_l_times_2 (c_l_mul c_l_gather : Nat) : Fn := ⟨"_law_times", ["_law_one", "_law_other"], ["_law_one", "_law_other", "_law_found", "_law_powers", "_law_number", "_law_its", "_law_own", "_law_here", "_law_there"], [],
(.cons (.own 2 (.disp .nil))
(.cons (.for_ [3, 4] true (.seq (.e (.var 0)))
(.cons (.for_ [5, 6] true (.seq (.e (.var 1)))
(.cons (.app 2 (.tup (.cons (.b1 .tuple (.e (.fre (.comp (.bin .add (.var 7) (.var 8)) [7, 8] true (.zip (.var 3) (.var 5)) .none)))) (.cons (.call c_l_mul (.cons (.v (.var 4)) (.cons (.v (.var 6)) .nil))) .nil))))
.nil))
.nil))
(.frz 2
(.cons (.ret (.call c_l_gather (.cons (.v (.var 2)) .nil)))
.nil))))⟩
def f_l_key_3 : Fn := ⟨"_law_key", ["_law_order_here", "_law_powers"], ["_law_order_here", "_law_powers", "_law_row", "_law_letter"], [],
(.cons (.asg 2 (.fre (.comp (.ix (.e (.var 1)) (.var 3)) [3] false (.seq (.e (.ix (.e (.var 0)) (.int 1)))) .none)))
(.cons (.ret (.ife (.cmp .eq (.e (.ix (.e (.var 0)) (.int 0))) (.e (.str "total"))) (.bin .add (.fre (.disp (.cons (.b1 .sum (.e (.var 2))) .nil))) (.var 2)) (.var 2)))
.nil))⟩
def f_l_lead (c_l_key : Nat) : Fn := ⟨"_law_lead", ["_law_order_here", "_law_poly_here"], ["_law_order_here", "_law_poly_here", "_law_best", "_law_term"], [],
(.cons (.asg 2 (.ix (.e (.var 1)) (.int 0)))
(.cons (.for_ [3] false (.seq (.e (.var 1)))
(.cons (.ife (.cmp .gt (.e (.call c_l_key (.cons (.v (.var 0)) (.cons (.v (.ix (.e (.var 3)) (.int 0))) .nil)))) (.e (.call c_l_key (.cons (.v (.var 0)) (.cons (.v (.ix (.e (.var 2)) (.int 0))) .nil)))))
(.cons (.asg 2 (.var 3))
.nil)
.nil)
.nil))
(.cons (.ret (.var 2))
.nil)))⟩
def f_l_order_2 (c_l_draw : Nat) : Fn := ⟨"_law_order", ["_law_tape_here", "_law_n"], ["_law_tape_here", "_law_n", "_law_letters", "_law_k", "_law_left", "_law_letter"], [0],
(.cons (.own 2 (.disp .nil))
(.cons (.for_ [3] false (.rng1 (.var 1))
(.cons (.asg 4 (.fre (.comp (.var 5) [5] false (.rng1 (.var 1)) (.some (.cmp .notin (.e (.var 5)) (.pk 2))))))
(.cons (.app 2 (.ix (.e (.var 4)) (.call c_l_draw (.cons (.io 0) (.cons (.v (.b1 .len (.e (.var 4)))) .nil)))))
.nil)))
(.cons (.ret (.tup (.cons (.ix (.e (.fre (.disp (.cons (.str "plain") (.cons (.str "total") .nil))))) (.call c_l_draw (.cons (.io 0) (.cons (.v (.int 2)) .nil)))) (.cons (.b1 .tuple (.pk 2)) .nil))))
.nil)))⟩
def f_l_joint (c_l_lead : Nat) : Fn := ⟨"_law_joint", ["_law_order_here", "_law_one", "_law_other"], ["_law_order_here", "_law_one", "_law_other", "_law_first", "_law_second", "_law_here", "_law_there"], [],
(.cons (.par 3 4 (.ix (.e (.call c_l_lead (.cons (.v (.var 0)) (.cons (.v (.var 1)) .nil)))) (.int 0)) (.ix (.e (.call c_l_lead (.cons (.v (.var 0)) (.cons (.v (.var 2)) .nil)))) (.int 0)))
(.cons (.ret (.b1 .tuple (.e (.fre (.comp (.b2 .max (.var 5) (.var 6)) [5, 6] true (.zip (.var 3) (.var 4)) .none)))))
.nil))⟩
def f_l_brought (c_l_lead c_l_times c_l_turned : Nat) : Fn := ⟨"_law_brought", ["_law_order_here", "_law_poly_here", "_law_powers"], ["_law_order_here", "_law_poly_here", "_law_powers", "_law_own", "_law_step", "_law_here", "_law_there"], [],
(.cons (.asg 3 (.call c_l_lead (.cons (.v (.var 0)) (.cons (.v (.var 1)) .nil))))
(.cons (.asg 4 (.b1 .tuple (.e (.fre (.comp (.bin .sub (.var 5) (.var 6)) [5, 6] true (.zip (.var 2) (.ix (.e (.var 3)) (.int 0))) .none)))))
(.cons (.ret (.call c_l_times (.cons (.v (.var 1)) (.cons (.v (.tup (.cons (.tup (.cons (.var 4) (.cons (.call c_l_turned (.cons (.v (.ix (.e (.var 3)) (.int 1))) .nil)) .nil))) .nil))) .nil))))
.nil)))⟩
def f_l_pair (c_l_joint c_l_more c_l_brought : Nat) : Fn := ⟨"_law_pair", ["_law_order_here", "_law_one", "_law_other"], ["_law_order_here", "_law_one", "_law_other", "_law_meeting"], [],
(.cons (.asg 3 (.call c_l_joint (.cons (.v (.var 0)) (.cons (.v (.var 1)) (.cons (.v (.var 2)) .nil)))))
(.cons (.ret (.call c_l_more (.cons (.v (.call c_l_brought (.cons (.v (.var 0)) (.cons (.v (.var 1)) (.cons (.v (.var 3)) .nil))))) (.cons (.v (.call c_l_brought (.cons (.v (.var 0)) (.cons (.v (.var 2)) (.cons (.v (.var 3)) .nil))))) (.cons (.v (.tup (.cons (.neg (.int 1)) (.cons (.int 1) .nil)))) .nil)))))
.nil))⟩
def f_l_poly_2 (c_l_draw c_l_frac c_l_gather : Nat) : Fn := ⟨"_law_poly", ["_law_tape_here", "_law_n"], ["_law_tape_here", "_law_n", "_law_terms", "_law_k", "_law_found", "_law_powers", "_law_letter"], [0],
(.cons (.own 2 (.disp (.cons (.tup (.cons (.b1 .tuple (.e (.fre (.comp (.call c_l_draw (.cons (.io 0) (.cons (.v (.int 3)) .nil))) [6] false (.rng1 (.var 1)) .none)))) (.cons (.tup (.cons (.bin .add (.int 1) (.call c_l_draw (.cons (.io 0) (.cons (.v (.int 5)) .nil)))) (.cons (.int 1) .nil))) .nil))) .nil)))
(.cons (.for_ [3] false (.rng1 (.call c_l_draw (.cons (.io 0) (.cons (.v (.int 4)) .nil))))
(.cons (.asg 5 (.b1 .tuple (.e (.fre (.comp (.ix (.e (.fre (.disp (.cons (.int 0) (.cons (.int 1) (.cons (.int 2) (.cons (.int 0) (.cons (.int 5) .nil)))))))) (.call c_l_draw (.cons (.io 0) (.cons (.v (.int 5)) .nil)))) [6] false (.rng1 (.var 1)) .none)))))
(.cons (.app 2 (.tup (.cons (.var 5) (.cons (.call c_l_frac (.cons (.v (.bin .sub (.call c_l_draw (.cons (.io 0) (.cons (.v (.int 7)) .nil))) (.int 3))) (.cons (.v (.bin .add (.int 1) (.call c_l_draw (.cons (.io 0) (.cons (.v (.int 3)) .nil))))) .nil))) .nil))))
.nil)))
(.frz 2
(.cons (.asg 4 (.call c_l_gather (.cons (.v (.var 2)) .nil)))
(.cons (.ret (.ife (.cmp .ne (.e (.var 4)) (.e (.tup .nil))) (.var 4) (.tup (.cons (.tup (.cons (.bin .mul (.tup (.cons (.int 0) .nil)) (.var 1)) (.cons (.tup (.cons (.int 2) (.cons (.int 3) .nil))) .nil))) .nil))))
.nil)))))⟩
end Lb
set_option linter.all false
set_option maxRecDepth 100000
namespace Lb
open PySem Mn

def f_ratio_2 (c_shared : Nat) : Fn := ⟨"ratio", ["top", "bottom"], ["top", "bottom", "by"], [],
(.cons (.ife (.cmp .eq (.e (.var 1)) (.e (.int 0)))
(.cons (.rse 1 "NoRatio" [])
.nil)
.nil)
(.cons (.asg 2 (.call c_shared (.cons (.v (.b1 .abs (.e (.var 0)))) (.cons (.v (.b1 .abs (.e (.var 1)))) .nil))))
(.cons (.ife (.cmp .lt (.e (.var 1)) (.e (.int 0)))
(.cons (.asg 2 (.bin .sub (.int 0) (.var 2)))
.nil)
.nil)
(.cons (.ret (.tup (.cons (.bin .fdiv (.var 0) (.var 2)) (.cons (.bin .fdiv (.var 1) (.var 2)) .nil))))
.nil))))⟩
def f_is_less : Fn := ⟨"is_less", ["one", "other"], ["one", "other"], [],
(.cons (.ret (.cmp .lt (.e (.bin .mul (.ix (.e (.var 0)) (.int 0)) (.ix (.e (.var 1)) (.int 1)))) (.e (.bin .mul (.ix (.e (.var 1)) (.int 0)) (.ix (.e (.var 0)) (.int 1))))))
.nil)⟩
def f_l_over (c_l_ratio : Nat) : Fn := ⟨"_law_over", ["_law_one", "_law_other"], ["_law_one", "_law_other"], [],
(.cons (.ret (.call c_l_ratio (.cons (.v (.bin .mul (.ix (.e (.var 0)) (.int 0)) (.ix (.e (.var 1)) (.int 1)))) (.cons (.v (.bin .mul (.ix (.e (.var 0)) (.int 1)) (.ix (.e (.var 1)) (.int 0)))) .nil))))
.nil)⟩
def f_l_less : Fn := ⟨"_law_less", ["_law_one", "_law_other"], ["_law_one", "_law_other"], [],
(.cons (.ret (.cmp .lt (.e (.bin .mul (.ix (.e (.var 0)) (.int 0)) (.ix (.e (.var 1)) (.int 1)))) (.e (.bin .mul (.ix (.e (.var 1)) (.int 0)) (.ix (.e (.var 0)) (.int 1))))))
.nil)⟩
def f_l_is_ratio (c_l_whole c_l_gcd : Nat) : Fn := ⟨"_law_is_ratio", ["_law_thing"], ["_law_thing"], [],
(.cons (.ife (.or (.cons (.not (.isi (.var 0) .tuple)) (.cons (.cmp .ne (.e (.b1 .len (.e (.var 0)))) (.e (.int 2))) (.cons (.not (.call c_l_whole (.cons (.v (.ix (.e (.var 0)) (.int 0))) .nil))) (.cons (.not (.call c_l_whole (.cons (.v (.ix (.e (.var 0)) (.int 1))) .nil))) .nil)))))
(.cons (.ret (.bl false))
.nil)
.nil)
(.cons (.ret (.and (.cons (.cmp .gt (.e (.ix (.e (.var 0)) (.int 1))) (.e (.int 0))) (.cons (.cmp .eq (.e (.call c_l_gcd (.cons (.v (.b1 .abs (.e (.ix (.e (.var 0)) (.int 0))))) (.cons (.v (.ix (.e (.var 0)) (.int 1))) .nil)))) (.e (.int 1))) .nil))))
.nil))⟩
def f_l_some (c_l_draw : Nat) : Fn := ⟨"_law_some", ["_law_tape_here"], ["_law_tape_here", "_law_some_here"], [0],
(.cons (.asg 1 (.fre (.disp (.cons (.int 0) (.cons (.int 1) (.cons (.neg (.int 1)) (.cons (.int 2) (.cons (.int 6) (.cons (.bin .sub (.int 0) (.call c_l_draw (.cons (.io 0) (.cons (.v (.int 60)) .nil)))) (.cons (.call c_l_draw (.cons (.io 0) (.cons (.v (.int 60000)) .nil))) (.cons (.bin .fdiv (.bin .pow (.int 10) (.int 60)) (.int 7)) (.cons (.bin .sub (.int 0) (.bin .mul (.bin .pow (.int 10) (.int 40)) (.int 9))) .nil))))))))))))
(.cons (.ret (.ix (.e (.var 1)) (.call c_l_draw (.cons (.io 0) (.cons (.v (.int 9)) .nil)))))
.nil))⟩
def f_l_quotient (c_over c_ratio : Nat) : Fn := ⟨"_law_quotient", ["_law_one", "_law_other"], ["_law_one", "_law_other", "_law_found", "e"], [],
(.cons (.asg 2 .non)
(.cons (.tryX
(.cons (.asg 2 (.ife (.isi (.var 0) .tuple) (.call c_over (.cons (.v (.var 0)) (.cons (.v (.var 1)) .nil))) (.call c_ratio (.cons (.v (.var 0)) (.cons (.v (.var 1)) .nil)))))
.nil)
⟨"ZeroError", 3, 2, (some (.str "other")), [(.is1 "NoRatio"), (.is1 "ValueError"), (.isn ["NoRow", "NoText"])], .str "none", none, [some false, some true, some false, some false]⟩)
(.cons (.ret (.var 2))
.nil)))⟩
end Lb
set_option linter.all false
set_option maxRecDepth 100000
namespace Lb
open PySem Mn

def f_ratio_3 (c_shared : Nat) : Fn := ⟨"ratio", ["top", "bottom"], ["top", "bottom", "by"], [],
(.cons (.ife (.cmp .eq (.e (.var 1)) (.e (.int 0)))
(.cons (.rse 5 "NoRatio" [])
.nil)
.nil)
(.cons (.asg 2 (.call c_shared (.cons (.v (.b1 .abs (.e (.var 0)))) (.cons (.v (.b1 .abs (.e (.var 1)))) .nil))))
(.cons (.ife (.cmp .lt (.e (.var 1)) (.e (.int 0)))
(.cons (.asg 2 (.bin .sub (.int 0) (.var 2)))
.nil)
.nil)
(.cons (.ret (.tup (.cons (.bin .fdiv (.var 0) (.var 2)) (.cons (.bin .fdiv (.var 1) (.var 2)) .nil))))
.nil))))⟩
def f_sum_of (c_added c_product : Nat) : Fn := ⟨"sum_of", ["multiples", "some"], ["multiples", "some", "found", "one", "other"], [],
(.cons (.asg 2 (.tup .nil))
(.cons (.for_ [3, 4] true (.zip (.var 0) (.var 1))
(.cons (.asg 2 (.call c_added (.cons (.v (.var 2)) (.cons (.v (.call c_product (.cons (.v (.var 3)) (.cons (.v (.var 4)) .nil)))) .nil))))
.nil))
(.cons (.ret (.var 2))
.nil)))⟩
def f_are_multiples (c_is_poly : Nat) : Fn := ⟨"are_multiples", ["n", "many", "thing"], ["n", "many", "thing", "one"], [],
(.cons (.ret (.and (.cons (.isi (.var 2) .tuple) (.cons (.cmp .eq (.e (.b1 .len (.e (.var 2)))) (.e (.var 1))) (.cons (.b1 .all (.e (.fre (.comp (.call c_is_poly (.cons (.v (.var 0)) (.cons (.v (.var 3)) .nil))) [3] false (.seq (.e (.var 2))) .none)))) .nil)))))
.nil)⟩
def f_lets_sum (c_are_multiples c_sum_of : Nat) : Fn := ⟨"lets_sum", ["n", "some", "poly", "thing"], ["n", "some", "poly", "thing"], [],
(.cons (.ife (.not (.call c_are_multiples (.cons (.v (.var 0)) (.cons (.v (.b1 .len (.e (.var 1)))) (.cons (.v (.var 3)) .nil)))))
(.cons (.rse 1 "NoSum" [.str "shape"])
.nil)
.nil)
(.cons (.ife (.cmp .ne (.e (.call c_sum_of (.cons (.v (.var 3)) (.cons (.v (.var 1)) .nil)))) (.e (.var 2)))
(.cons (.rse 1 "NoSum" [.str "sum"])
.nil)
.nil)
(.cons (.ret (.bl true))
.nil)))⟩
def f_l_set (c_l_draw c_l_poly : Nat) : Fn := ⟨"_law_set", ["_law_tape_here", "_law_n"], ["_law_tape_here", "_law_n", "_law_found", "_law_k"], [0],
(.cons (.own 2 (.comp (.call c_l_poly (.cons (.io 0) (.cons (.v (.var 1)) (.cons (.v (.int 3)) (.cons (.v (.int 2)) .nil))))) [3] false (.rng1 (.bin .add (.int 1) (.call c_l_draw (.cons (.io 0) (.cons (.v (.int 4)) .nil))))) .none))
(.cons (.ife (.cmp .eq (.e (.call c_l_draw (.cons (.io 0) (.cons (.v (.int 4)) .nil)))) (.e (.int 0)))
(.cons (.app 2 (.ix (.pk 2) (.int 0)))
.nil)
.nil)
(.cons (.ret (.b1 .tuple (.pk 2)))
.nil)))⟩
def f_l_whole_sum (c_l_added c_l_product : Nat) : Fn := ⟨"_law_whole_sum", ["_law_multiples", "_law_some"], ["_law_multiples", "_law_some", "_law_found", "_law_one", "_law_other"], [],
(.cons (.asg 2 (.tup .nil))
(.cons (.for_ [3, 4] true (.zip (.var 0) (.var 1))
(.cons (.asg 2 (.call c_l_added (.cons (.v (.var 2)) (.cons (.v (.call c_l_product (.cons (.v (.var 3)) (.cons (.v (.var 4)) .nil)))) .nil))))
.nil))
(.cons (.ret (.var 2))
.nil)))⟩
def f_l_strange (c_l_draw : Nat) : Fn := ⟨"_law_strange", ["_law_tape_here", "_law_n", "_law_one"], ["_law_tape_here", "_law_n", "_law_one", "_law_term", "_law_wide", "_law_some"], [0],
(.cons (.asg 3 (.tup (.cons (.bin .mul (.tup (.cons (.int 0) .nil)) (.var 1)) (.cons (.tup (.cons (.int 1) (.cons (.int 1) .nil))) .nil))))
(.cons (.asg 4 (.tup (.cons (.bin .mul (.tup (.cons (.int 0) .nil)) (.bin .add (.var 1) (.int 1))) (.cons (.tup (.cons (.int 1) (.cons (.int 1) .nil))) .nil))))
(.cons (.own 5 (.disp (.cons .non (.cons (.bl true) (.cons (.str "0") (.cons (.fre (.listOf (.seq (.e (.var 2))))) (.cons (.tup (.cons (.var 3) (.cons (.var 3) .nil))) (.cons (.tup (.cons (.tup (.cons (.ix (.e (.var 3)) (.int 0)) (.cons (.tup (.cons (.int 2) (.cons (.int 4) .nil))) .nil))) .nil)) (.cons (.tup (.cons (.tup (.cons (.ix (.e (.var 3)) (.int 0)) (.cons (.tup (.cons (.int 0) (.cons (.int 1) .nil))) .nil))) .nil)) (.cons (.tup (.cons (.var 4) .nil)) (.cons (.tup (.cons (.ix (.e (.var 3)) (.int 0)) .nil)) .nil)))))))))))
(.cons (.own 5 (.cat (.pk 5) (.e (.fre (.disp (.cons (.tup (.cons (.tup (.cons (.ix (.e (.var 3)) (.int 0)) (.cons (.int 1) .nil))) .nil)) (.cons (.tup (.cons (.tup (.cons (.fre (.listOf (.seq (.e (.ix (.e (.var 3)) (.int 0)))))) (.cons (.tup (.cons (.int 1) (.cons (.int 1) .nil))) .nil))) .nil)) (.cons (.tup (.cons (.tup (.cons (.ix (.e (.var 3)) (.int 0)) (.cons (.tup (.cons (.int 1) (.cons (.bl true) .nil))) .nil))) .nil)) (.cons (.tup (.cons (.tup (.cons (.bin .mul (.tup (.cons (.int 0) .nil)) (.bin .sub (.var 1) (.int 1))) (.cons (.tup (.cons (.int 1) (.cons (.int 1) .nil))) .nil))) .nil)) (.cons (.int 0) .nil))))))))))
(.cons (.ife (.cmp .gt (.e (.b1 .len (.e (.var 2)))) (.e (.int 1)))
(.cons (.app 5 (.slSt (.var 2) (-1)))
.nil)
.nil)
(.cons (.ret (.ix (.pk 5) (.call c_l_draw (.cons (.io 0) (.cons (.v (.b1 .len (.pk 5))) .nil)))))
.nil))))))⟩
def f_l_bent_2 (c_l_draw c_l_poly c_l_added c_l_strange : Nat) : Fn := ⟨"_law_bent", ["_law_tape_here", "_law_n", "_law_multiples"], ["_law_tape_here", "_law_n", "_law_multiples", "_law_at", "_law_more", "_law_some", "_law_odd"], [0],
(.cons (.asg 3 (.call c_l_draw (.cons (.io 0) (.cons (.v (.b1 .len (.e (.var 2)))) .nil))))
(.cons (.asg 4 (.call c_l_poly (.cons (.io 0) (.cons (.v (.var 1)) (.cons (.v (.int 2)) (.cons (.v (.int 1)) .nil))))))
(.cons (.asg 5 (.fre (.disp (.cons (.tup (.cons (.bl true) (.cons (.bin .add (.bin .add (.sl (.e (.var 2)) .none (.some (.var 3))) (.tup (.cons (.call c_l_added (.cons (.v (.ix (.e (.var 2)) (.var 3))) (.cons (.v (.var 4)) .nil))) .nil))) (.sl (.e (.var 2)) (.some (.bin .add (.var 3) (.int 1))) .none)) .nil))) (.cons (.tup (.cons (.bl true) (.cons (.slSt (.var 2) (-1)) .nil))) .nil)))))
(.cons (.asg 5 (.bin .add (.var 5) (.fre (.disp (.cons (.tup (.cons (.bl true) (.cons (.bin .mul (.tup (.cons (.tup .nil) .nil)) (.b1 .len (.e (.var 2)))) .nil))) (.cons (.tup (.cons (.bl false) (.cons (.fre (.listOf (.seq (.e (.var 2))))) .nil))) (.cons (.tup (.cons (.bl false) (.cons (.sl (.e (.var 2)) (.some (.int 1)) .none) .nil))) .nil)))))))
(.cons (.asg 5 (.bin .add (.var 5) (.fre (.disp (.cons (.tup (.cons (.bl false) (.cons (.bin .add (.var 2) (.tup (.cons (.tup .nil) .nil))) .nil))) (.cons (.tup (.cons (.bl false) (.cons .non .nil))) (.cons (.tup (.cons (.bl false) (.cons (.tup .nil) .nil))) .nil)))))))
(.cons (.asg 6 (.bin .add (.bin .add (.sl (.e (.var 2)) .none (.some (.var 3))) (.tup (.cons (.call c_l_strange (.cons (.io 0) (.cons (.v (.var 1)) (.cons (.v (.ix (.e (.var 2)) (.var 3))) .nil)))) .nil))) (.sl (.e (.var 2)) (.some (.bin .add (.var 3) (.int 1))) .none)))
(.cons (.ret (.ix (.e (.bin .add (.var 5) (.fre (.rep (.e (.fre (.disp (.cons (.tup (.cons (.bl false) (.cons (.var 6) .nil))) .nil)))) (.int 6))))) (.call c_l_draw (.cons (.io 0) (.cons (.v (.int 14)) .nil)))))
.nil)))))))⟩
def f_l_told (c_lets_sum : Nat) : Fn := ⟨"_law_told", ["_law_n", "_law_some", "_law_poly_here", "_law_thing"], ["_law_n", "_law_some", "_law_poly_here", "_law_thing", "_law_found", "e"], [],
(.cons (.asg 4 (.str "other"))
(.cons (.tryX
(.cons (.ife (.cmp .isn (.e (.call c_lets_sum (.cons (.v (.var 0)) (.cons (.v (.var 1)) (.cons (.v (.var 2)) (.cons (.v (.var 3)) .nil)))))) (.e (.bl true)))
(.cons (.asg 4 (.str "right"))
.nil)
.nil)
.nil)
⟨"ZeroError", 5, 4, none, [(.is1 "NoSum"), (.is1 "ValueError"), (.isn ["NoBasis", "NoParts", "NoTold"])], .none, (some "word"), [some false, some true, some false, some false, some false, some false]⟩)
(.cons (.ret (.var 4))
.nil)))⟩
def f_l_due (c_l_whole_sum : Nat) : Fn := ⟨"_law_due", ["_law_some", "_law_poly_here", "_law_is_shape", "_law_thing"], ["_law_some", "_law_poly_here", "_law_is_shape", "_law_thing"], [],
(.cons (.ife (.not (.var 2))
(.cons (.ret (.str "shape"))
.nil)
.nil)
(.cons (.ret (.ife (.cmp .eq (.e (.call c_l_whole_sum (.cons (.v (.var 3)) (.cons (.v (.var 0)) .nil)))) (.e (.var 1))) (.str "right") (.str "sum")))
.nil))⟩
end Lb
set_option linter.all false
set_option maxRecDepth 100000
namespace Lb
open PySem Mn

def f_ratio_4 (c_shared : Nat) : Fn := ⟨"ratio", ["top", "bottom"], ["top", "bottom", "by"], [],
(.cons (.ife (.cmp .eq (.e (.var 1)) (.e (.int 0)))
(.cons (.rse 2 "NoRatio" [])
.nil)
.nil)
(.cons (.asg 2 (.call c_shared (.cons (.v (.b1 .abs (.e (.var 0)))) (.cons (.v (.b1 .abs (.e (.var 1)))) .nil))))
(.cons (.ife (.cmp .lt (.e (.var 1)) (.e (.int 0)))
(.cons (.asg 2 (.bin .sub (.int 0) (.var 2)))
.nil)
.nil)
(.cons (.ret (.tup (.cons (.bin .fdiv (.var 0) (.var 2)) (.cons (.bin .fdiv (.var 1) (.var 2)) .nil))))
.nil))))⟩
def f_l_vanishing (c_l_poly c_l_value c_l_added : Nat) : Fn := ⟨"_law_vanishing", ["_law_tape_here", "_law_n", "_law_point_here"], ["_law_tape_here", "_law_n", "_law_point_here", "_law_poly_here", "_law_number_here"], [0],
(.cons (.asg 3 (.call c_l_poly (.cons (.io 0) (.cons (.v (.var 1)) (.cons (.v (.int 3)) (.cons (.v (.int 2)) .nil))))))
(.cons (.asg 4 (.call c_l_value (.cons (.v (.var 3)) (.cons (.v (.var 2)) .nil))))
(.cons (.ret (.call c_l_added (.cons (.v (.var 3)) (.cons (.v (.tup (.cons (.tup (.cons (.bin .mul (.tup (.cons (.int 0) .nil)) (.var 1)) (.cons (.tup (.cons (.bin .sub (.int 0) (.ix (.e (.var 4)) (.int 0))) (.cons (.ix (.e (.var 4)) (.int 1)) .nil))) .nil))) .nil))) .nil))))
.nil)))⟩
def f_l_is_let (c_lets_sum : Nat) : Fn := ⟨"_law_is_let", ["_law_n", "_law_some", "_law_poly_here", "_law_thing"], ["_law_n", "_law_some", "_law_poly_here", "_law_thing", "_law_found"], [],
(.cons (.asg 4 (.bl false))
(.cons (.tryC
(.cons (.asg 4 (.call c_lets_sum (.cons (.v (.var 0)) (.cons (.v (.var 1)) (.cons (.v (.var 2)) (.cons (.v (.var 3)) .nil))))))
.nil)
"NoSum" 4 (.bool false) [false, true, false])
(.cons (.ret (.cmp .isn (.e (.var 4)) (.e (.bl true))))
.nil)))⟩
def f_l_sum_of (c_added c_product : Nat) : Fn := ⟨"_law_sum_of", ["_law_multiples", "_law_some"], ["_law_multiples", "_law_some", "_law_found", "_law_one", "_law_other"], [],
(.cons (.asg 2 (.tup .nil))
(.cons (.for_ [3, 4] true (.zip (.var 0) (.var 1))
(.cons (.asg 2 (.call c_added (.cons (.v (.var 2)) (.cons (.v (.call c_product (.cons (.v (.var 3)) (.cons (.v (.var 4)) .nil)))) .nil))))
.nil))
(.cons (.ret (.var 2))
.nil)))⟩
def f_l_right (c_l_poly c_l_sum_of c_added c_product c_l_value c_l_is_let c_one_of : Nat) : Fn := ⟨"_law_right", ["_law_tape_here", "_law_n", "_law_some", "_law_point_here"], ["_law_tape_here", "_law_n", "_law_some", "_law_point_here", "_law_first", "_law_second", "_law_factor", "_law_both", "_law_more", "_law_strange", "_law_poly_here", "_law_one", "_law_other", "_law_thing", "_law_here", "_law_there"], [0],
(.cons (.asg 4 (.b1 .tuple (.e (.fre (.comp (.call c_l_poly (.cons (.io 0) (.cons (.v (.var 1)) (.cons (.v (.int 3)) (.cons (.v (.int 1)) .nil))))) [11] false (.seq (.e (.var 2))) .none)))))
(.cons (.asg 5 (.b1 .tuple (.e (.fre (.comp (.call c_l_poly (.cons (.io 0) (.cons (.v (.var 1)) (.cons (.v (.int 2)) (.cons (.v (.int 2)) .nil))))) [11] false (.seq (.e (.var 2))) .none)))))
(.cons (.asg 6 (.call c_l_poly (.cons (.io 0) (.cons (.v (.var 1)) (.cons (.v (.int 2)) (.cons (.v (.int 2)) .nil))))))
(.cons (.par 11 12 (.call c_l_sum_of (.cons (.v (.var 4)) (.cons (.v (.var 2)) .nil))) (.call c_l_sum_of (.cons (.v (.var 5)) (.cons (.v (.var 2)) .nil))))
(.cons (.asg 7 (.b1 .tuple (.e (.fre (.comp (.call c_added (.cons (.v (.var 14)) (.cons (.v (.var 15)) .nil))) [14, 15] true (.zip (.var 4) (.var 5)) .none)))))
(.cons (.asg 8 (.b1 .tuple (.e (.fre (.comp (.call c_product (.cons (.v (.var 6)) (.cons (.v (.var 14)) .nil))) [14] false (.seq (.e (.var 4))) .none)))))
(.cons (.for_ [10, 13] true (.seq (.e (.fre (.disp (.cons (.tup (.cons (.var 11) (.cons (.var 4) .nil))) (.cons (.tup (.cons (.var 12) (.cons (.var 5) .nil))) (.cons (.tup (.cons (.call c_added (.cons (.v (.var 11)) (.cons (.v (.var 12)) .nil))) (.cons (.var 7) .nil))) (.cons (.tup (.cons (.call c_product (.cons (.v (.var 6)) (.cons (.v (.var 11)) .nil))) (.cons (.var 8) .nil))) .nil))))))))
(.cons (.ife (.or (.cons (.not (.call c_l_is_let (.cons (.v (.var 1)) (.cons (.v (.var 2)) (.cons (.v (.var 10)) (.cons (.v (.var 13)) .nil)))))) (.cons (.cmp .ne (.e (.call c_l_value (.cons (.v (.var 10)) (.cons (.v (.var 3)) .nil)))) (.e (.tup (.cons (.int 0) (.cons (.int 1) .nil))))) .nil)))
(.cons (.ret (.bl false))
.nil)
.nil)
.nil))
(.cons (.asg 9 (.call c_l_poly (.cons (.io 0) (.cons (.v (.var 1)) (.cons (.v (.int 3)) (.cons (.v (.int 2)) .nil))))))
(.cons (.for_ [10] false (.seq (.e (.tup (.cons (.var 9) (.cons (.call c_added (.cons (.v (.var 11)) (.cons (.v (.var 9)) .nil))) (.cons (.call c_one_of (.cons (.v (.var 1)) .nil)) .nil))))))
(.cons (.for_ [13] false (.seq (.e (.tup (.cons (.var 4) (.cons (.var 5) (.cons (.var 7) (.cons (.slSt (.var 4) (-1)) (.cons (.bin .mul (.tup (.cons (.tup .nil) .nil)) (.b1 .len (.e (.var 2)))) (.cons (.b1 .tuple (.e (.var 2))) (.cons (.var 8) .nil))))))))))
(.cons (.ife (.and (.cons (.call c_l_is_let (.cons (.v (.var 1)) (.cons (.v (.var 2)) (.cons (.v (.var 10)) (.cons (.v (.var 13)) .nil))))) (.cons (.cmp .ne (.e (.call c_l_value (.cons (.v (.var 10)) (.cons (.v (.var 3)) .nil)))) (.e (.tup (.cons (.int 0) (.cons (.int 1) .nil))))) .nil)))
(.cons (.ret (.bl false))
.nil)
.nil)
.nil))
.nil))
(.cons (.ret (.bl true))
.nil))))))))))⟩
end Lb
set_option linter.all false
set_option maxRecDepth 100000
namespace Lb
open PySem Mn

def f_size_text : Fn := ⟨"size_text", ["number"], ["number"], [],
(.cons (.ife (.cmp .eq (.e (.ix (.e (.var 0)) (.int 1))) (.e (.int 1)))
(.cons (.ret (.b1 .str (.e (.b1 .abs (.e (.ix (.e (.var 0)) (.int 0)))))))
.nil)
.nil)
(.cons (.ret (.bin .add (.bin .add (.b1 .str (.e (.b1 .abs (.e (.ix (.e (.var 0)) (.int 0)))))) (.str "/")) (.b1 .str (.e (.ix (.e (.var 0)) (.int 1))))))
.nil))⟩
def f_term_text (c_size_text : Nat) : Fn := ⟨"term_text", ["term"], ["term", "words", "powers", "number", "letter", "power"], [],
(.cons (.unp [2, 3] (.var 0))
(.cons (.own 1 (.disp .nil))
(.cons (.ife (.or (.cons (.cmp .ne (.e (.tup (.cons (.b1 .abs (.e (.ix (.e (.var 3)) (.int 0)))) (.cons (.ix (.e (.var 3)) (.int 1)) .nil)))) (.e (.glob "ONE" (.tuple [.int 1, .int 1])))) (.cons (.cmp .eq (.e (.b1 .sum (.e (.var 2)))) (.e (.int 0))) .nil)))
(.cons (.app 1 (.call c_size_text (.cons (.v (.var 3)) .nil)))
.nil)
.nil)
(.cons (.for_ [4, 5] true (.zip (.glob "LETTERS" (.str "xyzt")) (.var 2))
(.cons (.ife (.cmp .eq (.e (.var 5)) (.e (.int 1)))
(.cons (.app 1 (.var 4))
.nil)
(.cons (.ife (.cmp .gt (.e (.var 5)) (.e (.int 1)))
(.cons (.app 1 (.bin .add (.bin .add (.var 4) (.str "^")) (.b1 .str (.e (.var 5)))))
.nil)
.nil)
.nil))
.nil))
(.cons (.ret (.bin .add (.ife (.cmp .lt (.e (.ix (.e (.var 3)) (.int 0))) (.e (.int 0))) (.str "-") (.str "+")) (.jn (.str "*") (.pk 1))))
.nil)))))⟩
def f_poly_text (c_term_text : Nat) : Fn := ⟨"poly_text", ["poly"], ["poly", "term"], [],
(.cons (.ret (.ife (.cmp .eq (.e (.var 0)) (.e (.tup .nil))) (.str "0") (.jn (.str "") (.e (.fre (.comp (.call c_term_text (.cons (.v (.var 1)) .nil)) [1] false (.seq (.e (.var 0))) .none))))))
.nil)⟩
def f_figures_in : Fn := ⟨"figures_in", ["word"], ["word", "sign"], [],
(.cons (.ife (.or (.cons (.cmp .lt (.e (.b1 .len (.e (.var 0)))) (.e (.int 1))) (.cons (.cmp .gt (.e (.b1 .len (.e (.var 0)))) (.e (.glob "MOST_FIGURES" (.int 40)))) (.cons (.not (.b1 .all (.e (.fre (.comp (.cmp .isin (.e (.var 1)) (.e (.glob "FIGURES" (.str "0123456789")))) [1] false (.seq (.e (.var 0))) .none))))) .nil))))
(.cons (.ret .non)
.nil)
.nil)
(.cons (.ret (.b1 .int (.e (.var 0))))
.nil))⟩
def f_size_in (c_figures_in c_is_ratio : Nat) : Fn := ⟨"size_in", ["word"], ["word", "halves", "numbers", "found", "half"], [],
(.cons (.asg 1 (.fre (.split (.var 0) (.str "/"))))
(.cons (.asg 2 (.fre (.comp (.call c_figures_in (.cons (.v (.var 4)) .nil)) [4] false (.seq (.e (.var 1))) .none)))
(.cons (.ife (.or (.cons (.cmp .isin (.e .non) (.e (.var 2))) (.cons (.cmp .gt (.e (.b1 .len (.e (.var 1)))) (.e (.int 2))) .nil)))
(.cons (.ret .non)
.nil)
.nil)
(.cons (.asg 3 (.tup (.cons (.ix (.e (.var 2)) (.int 0)) (.cons (.ife (.cmp .eq (.e (.b1 .len (.e (.var 1)))) (.e (.int 2))) (.ix (.e (.var 2)) (.int 1)) (.int 1)) .nil))))
(.cons (.ret (.ife (.call c_is_ratio (.cons (.v (.var 3)) .nil)) (.var 3) .non))
.nil)))))⟩
def f_power_in (c_figures_in : Nat) : Fn := ⟨"power_in", ["n", "word"], ["n", "word", "halves", "letter", "power"], [],
(.cons (.asg 2 (.fre (.split (.var 1) (.str "^"))))
(.cons (.asg 3 (.ife (.cmp .eq (.e (.b1 .len (.e (.ix (.e (.var 2)) (.int 0))))) (.e (.int 1))) (.find (.sl (.e (.glob "LETTERS" (.str "xyzt"))) .none (.some (.var 0))) (.ix (.e (.var 2)) (.int 0))) (.neg (.int 1))))
(.cons (.asg 4 (.ife (.cmp .eq (.e (.b1 .len (.e (.var 2)))) (.e (.int 2))) (.call c_figures_in (.cons (.v (.ix (.e (.var 2)) (.int 1))) .nil)) (.int 1)))
(.cons (.ife (.or (.cons (.cmp .lt (.e (.var 3)) (.e (.int 0))) (.cons (.cmp .isn (.e (.var 4)) (.e .non)) (.cons (.cmp .gt (.e (.b1 .len (.e (.var 2)))) (.e (.int 2))) .nil))))
(.cons (.ret .non)
.nil)
.nil)
(.cons (.ret (.tup (.cons (.var 3) (.cons (.var 4) .nil))))
.nil)))))⟩
def f_term_in (c_size_in c_power_in : Nat) : Fn := ⟨"term_in", ["n", "words", "is_below"], ["n", "words", "is_below", "number", "powers", "word", "found"], [],
(.cons (.asg 3 (.call c_size_in (.cons (.v (.ix (.e (.var 1)) (.int 0))) .nil)))
(.cons (.ife (.cmp .isn (.e (.var 3)) (.e .non))
(.cons (.asg 3 (.glob "ONE" (.tuple [.int 1, .int 1])))
.nil)
(.cons (.asg 1 (.sl (.e (.var 1)) (.some (.int 1)) .none))
.nil))
(.cons (.own 4 (.rep (.e (.fre (.disp (.cons (.int 0) .nil)))) (.var 0)))
(.cons (.for_ [5] false (.seq (.e (.var 1)))
(.cons (.asg 6 (.call c_power_in (.cons (.v (.var 0)) (.cons (.v (.var 5)) .nil))))
(.cons (.ife (.cmp .isn (.e (.var 6)) (.e .non))
(.cons (.ret .non)
.nil)
.nil)
(.cons (.seti 4 (.ix (.e (.var 6)) (.int 0)) (.bin .add (.ix (.pk 4) (.ix (.e (.var 6)) (.int 0))) (.ix (.e (.var 6)) (.int 1))))
.nil))))
(.cons (.ret (.tup (.cons (.b1 .tuple (.pk 4)) (.cons (.tup (.cons (.ife (.var 2) (.bin .sub (.int 0) (.ix (.e (.var 3)) (.int 0))) (.ix (.e (.var 3)) (.int 0))) (.cons (.ix (.e (.var 3)) (.int 1)) .nil))) .nil))))
.nil)))))⟩
def f_signed_parts : Fn := ⟨"signed_parts", ["text"], ["text", "found", "sign"], [],
(.cons (.own 1 (.disp .nil))
(.cons (.for_ [2] false (.seq (.e (.var 0)))
(.cons (.ife (.or (.cons (.cmp .isin (.e (.var 2)) (.e (.str "+-"))) (.cons (.cmp .eq (.pk 1) (.e (.fre (.disp .nil)))) .nil)))
(.cons (.app 1 (.str ""))
.nil)
.nil)
(.cons (.seti 1 (.neg (.int 1)) (.bin .add (.ix (.pk 1) (.neg (.int 1))) (.var 2)))
.nil)))
(.frz 1
(.cons (.ret (.var 1))
.nil))))⟩
def f_read_poly (c_signed_parts c_term_in c_gathered c_poly_text c_is_poly : Nat) : Fn := ⟨"read_poly", ["n", "text"], ["n", "text", "terms", "found", "part"], [],
(.cons (.ife (.cmp .eq (.e (.var 1)) (.e (.str "0")))
(.cons (.ret (.tup .nil))
.nil)
.nil)
(.cons (.asg 2 (.fre (.comp (.call c_term_in (.cons (.v (.var 0)) (.cons (.v (.fre (.split (.sl (.e (.var 4)) (.some (.int 1)) .none) (.str "*")))) (.cons (.v (.cmp .eq (.e (.sl (.e (.var 4)) .none (.some (.int 1)))) (.e (.str "-")))) .nil)))) [4] false (.seq (.e (.call c_signed_parts (.cons (.v (.var 1)) .nil)))) .none)))
(.cons (.asg 3 (.ife (.cmp .isin (.e .non) (.e (.var 2))) (.tup .nil) (.call c_gathered (.cons (.v (.var 2)) .nil))))
(.cons (.ife (.or (.cons (.cmp .eq (.e (.var 3)) (.e (.tup .nil))) (.cons (.not (.call c_is_poly (.cons (.v (.var 0)) (.cons (.v (.var 3)) .nil)))) (.cons (.cmp .ne (.e (.call c_poly_text (.cons (.v (.var 3)) .nil))) (.e (.var 1))) .nil))))
(.cons (.rse 2 "NoText" [])
.nil)
.nil)
(.cons (.ret (.var 3))
.nil)))))⟩
def f_l_number_2 (c_l_draw c_l_ratio : Nat) : Fn := ⟨"_law_number", ["_law_tape_here"], ["_law_tape_here", "_law_top", "_law_bottom"], [0],
(.cons (.asg 1 (.ix (.e (.fre (.disp (.cons (.int 1) (.cons (.int 1) (.cons (.int 2) (.cons (.int 3) (.cons (.bin .add (.int 1) (.call c_l_draw (.cons (.io 0) (.cons (.v (.int 40)) .nil)))) (.cons (.bin .sub (.bin .pow (.int 10) (.int 40)) (.int 1)) (.cons (.bin .pow (.int 10) (.int 39)) .nil)))))))))) (.call c_l_draw (.cons (.io 0) (.cons (.v (.int 7)) .nil)))))
(.cons (.asg 2 (.ix (.e (.fre (.disp (.cons (.int 1) (.cons (.int 1) (.cons (.int 1) (.cons (.int 2) (.cons (.int 7) (.cons (.bin .add (.bin .pow (.int 10) (.int 39)) (.int 1)) (.cons (.bin .add (.int 1) (.call c_l_draw (.cons (.io 0) (.cons (.v (.int 30)) .nil)))) .nil)))))))))) (.call c_l_draw (.cons (.io 0) (.cons (.v (.int 7)) .nil)))))
(.cons (.ret (.call c_l_ratio (.cons (.v (.ix (.e (.fre (.disp (.cons (.var 1) (.cons (.bin .sub (.int 0) (.var 1)) .nil))))) (.call c_l_draw (.cons (.io 0) (.cons (.v (.int 2)) .nil))))) (.cons (.v (.var 2)) .nil))))
.nil)))⟩
def f_l_text : Fn := ⟨"_law_text", ["_law_poly_here"], ["_law_poly_here", "_law_found", "_law_powers", "_law_number_here", "_law_words", "_law_k"], [],
(.cons (.asg 1 (.str ""))
(.cons (.for_ [2, 3] true (.seq (.e (.var 0)))
(.cons (.own 4 (.disp (.cons (.bin .add (.b1 .str (.e (.b1 .abs (.e (.ix (.e (.var 3)) (.int 0)))))) (.ix (.e (.fre (.disp (.cons (.bin .add (.str "/") (.b1 .str (.e (.ix (.e (.var 3)) (.int 1))))) (.cons (.str "") .nil))))) (.b1 .int (.e (.cmp .eq (.e (.ix (.e (.var 3)) (.int 1))) (.e (.int 1))))))) .nil)))
(.cons (.ife (.and (.cons (.cmp .eq (.pk 4) (.e (.fre (.disp (.cons (.str "1") .nil))))) (.cons (.cmp .gt (.e (.b1 .sum (.e (.var 2)))) (.e (.int 0))) .nil)))
(.cons (.own 4 (.disp .nil))
.nil)
.nil)
(.cons (.for_ [5] false (.rng1 (.b1 .len (.e (.var 2))))
(.cons (.ife (.cmp .gt (.e (.ix (.e (.var 2)) (.var 5))) (.e (.int 0)))
(.cons (.app 4 (.bin .add (.ix (.e (.str "xyzt")) (.var 5)) (.ix (.e (.fre (.disp (.cons (.bin .add (.str "^") (.b1 .str (.e (.ix (.e (.var 2)) (.var 5))))) (.cons (.str "") .nil))))) (.b1 .int (.e (.cmp .eq (.e (.ix (.e (.var 2)) (.var 5))) (.e (.int 1))))))))
.nil)
.nil)
.nil))
(.cons (.asg 1 (.bin .add (.bin .add (.var 1) (.ix (.e (.str "+-")) (.b1 .int (.e (.cmp .lt (.e (.ix (.e (.var 3)) (.int 0))) (.e (.int 0))))))) (.jn (.str "*") (.pk 4))))
.nil)))))
(.cons (.ret (.ife (.cmp .ne (.e (.var 0)) (.e (.tup .nil))) (.var 1) (.str "0")))
.nil)))⟩
end Lb
set_option linter.all false
set_option maxRecDepth 100000
namespace Lb
open PySem Mn

def f_l_any_text (c_l_draw : Nat) : Fn := ⟨"_law_any_text", ["_law_tape_here"], ["_law_tape_here", "_law_some", "_law_found", "_law_k"], [0],
(.cons (.asg 1 (.fre (.disp (.cons (.str "+") (.cons (.str "-") (.cons (.str "*") (.cons (.str "^") (.cons (.str "x") (.cons (.str "y") (.cons (.str "2") (.cons (.str "3") (.cons (.str "1") (.cons (.str "0") (.cons (.str "/") (.cons (.str "+x") (.cons (.str "-1") (.cons (.str "^2") (.cons (.str "+x*y") (.cons (.str "_") .nil)))))))))))))))))))
(.cons (.asg 2 (.str ""))
(.cons (.for_ [3] false (.rng1 (.call c_l_draw (.cons (.io 0) (.cons (.v (.int 9)) .nil))))
(.cons (.asg 2 (.bin .add (.var 2) (.ix (.e (.var 1)) (.call c_l_draw (.cons (.io 0) (.cons (.v (.int 16)) .nil))))))
.nil))
(.cons (.ret (.var 2))
.nil))))⟩
def f_l_read (c_read_poly : Nat) : Fn := ⟨"_law_read", ["_law_n", "_law_text"], ["_law_n", "_law_text", "_law_found"], [],
(.cons (.asg 2 (.fre (.disp .nil)))
(.cons (.tryL
(.cons (.asg 2 (.fre (.disp (.cons (.call c_read_poly (.cons (.v (.var 0)) (.cons (.v (.var 1)) .nil))) .nil))))
.nil)
"NoText" 2 [false, false, true])
(.cons (.ret (.var 2))
.nil)))⟩
end Lb
set_option linter.all false
set_option maxRecDepth 100000
namespace Lb
open PySem Mn

def f_l_made : Fn := ⟨"_law_made", ["_law_at", "_law_word", "_law_number", "_law_row"], ["_law_at", "_law_word", "_law_number", "_law_row"], [],
(.cons (.ife (.cmp .eq (.e (.var 0)) (.e (.int 0)))
(.cons (.ret (.mkX "NoSum" ["word"] (.cons (.var 1) .nil)))
.nil)
.nil)
(.cons (.ife (.cmp .eq (.e (.var 0)) (.e (.int 1)))
(.cons (.ret (.mkX "NoTold" ["word"] (.cons (.var 1) .nil)))
.nil)
.nil)
(.cons (.ife (.cmp .eq (.e (.var 0)) (.e (.int 2)))
(.cons (.ret (.mkX "NoPower" ["word"] (.cons (.var 1) .nil)))
.nil)
.nil)
(.cons (.ife (.cmp .eq (.e (.var 0)) (.e (.int 3)))
(.cons (.ret (.mkX "NoLike" ["word"] (.cons (.var 1) .nil)))
.nil)
.nil)
(.cons (.ife (.cmp .eq (.e (.var 0)) (.e (.int 4)))
(.cons (.ret (.mkX "NoParts" ["word"] (.cons (.var 1) .nil)))
.nil)
.nil)
(.cons (.ife (.cmp .eq (.e (.var 0)) (.e (.int 5)))
(.cons (.ret (.mkX "NoBasis" ["word", "at"] (.cons (.var 1) (.cons (.var 2) .nil))))
.nil)
.nil)
(.cons (.ife (.cmp .eq (.e (.var 0)) (.e (.int 6)))
(.cons (.ret (.mkX "NoFinite" ["letter"] (.cons (.var 2) .nil)))
.nil)
.nil)
(.cons (.ife (.cmp .eq (.e (.var 0)) (.e (.int 7)))
(.cons (.ret (.mkX "NoTree" ["row"] (.cons (.var 3) .nil)))
.nil)
.nil)
(.cons (.ife (.cmp .eq (.e (.var 0)) (.e (.int 8)))
(.cons (.ret (.mkX "NoRatio" [] (.cons (.str "a text") .nil)))
.nil)
.nil)
(.cons (.ife (.cmp .eq (.e (.var 0)) (.e (.int 9)))
(.cons (.ret (.mkX "NoText" [] (.cons (.str "a text") .nil)))
.nil)
.nil)
(.cons (.ret (.mkX "NoRow" [] (.cons (.str "a text") .nil)))
.nil)))))))))))⟩
def f_l_is : Fn := ⟨"_law_is", ["_law_e"], ["_law_e", "_law_found"], [],
(.cons (.asg 1 (.fre (.disp (.cons (.isX (.var 0) "NoSum" [("ZeroError", false), ("NoSum", true), ("NoBasis", false), ("NoTold", false), ("NoPower", false), ("NoLike", false), ("NoFinite", false), ("NoTree", false), ("NoParts", false), ("NoRatio", false), ("NoText", false), ("NoRow", false)]) (.cons (.isX (.var 0) "NoTold" [("ZeroError", false), ("NoSum", false), ("NoBasis", false), ("NoTold", true), ("NoPower", false), ("NoLike", false), ("NoFinite", false), ("NoTree", false), ("NoParts", false), ("NoRatio", false), ("NoText", false), ("NoRow", false)]) (.cons (.isX (.var 0) "NoPower" [("ZeroError", false), ("NoSum", false), ("NoBasis", false), ("NoTold", false), ("NoPower", true), ("NoLike", false), ("NoFinite", false), ("NoTree", false), ("NoParts", false), ("NoRatio", false), ("NoText", false), ("NoRow", false)]) (.cons (.isX (.var 0) "NoLike" [("ZeroError", false), ("NoSum", false), ("NoBasis", false), ("NoTold", false), ("NoPower", false), ("NoLike", true), ("NoFinite", false), ("NoTree", false), ("NoParts", false), ("NoRatio", false), ("NoText", false), ("NoRow", false)]) .nil)))))))
(.cons (.asg 1 (.bin .add (.var 1) (.fre (.disp (.cons (.isX (.var 0) "NoParts" [("ZeroError", false), ("NoSum", false), ("NoBasis", false), ("NoTold", false), ("NoPower", false), ("NoLike", false), ("NoFinite", false), ("NoTree", false), ("NoParts", true), ("NoRatio", false), ("NoText", false), ("NoRow", false)]) (.cons (.isX (.var 0) "NoBasis" [("ZeroError", false), ("NoSum", false), ("NoBasis", true), ("NoTold", false), ("NoPower", false), ("NoLike", false), ("NoFinite", false), ("NoTree", false), ("NoParts", false), ("NoRatio", false), ("NoText", false), ("NoRow", false)]) (.cons (.isX (.var 0) "NoFinite" [("ZeroError", false), ("NoSum", false), ("NoBasis", false), ("NoTold", false), ("NoPower", false), ("NoLike", false), ("NoFinite", true), ("NoTree", false), ("NoParts", false), ("NoRatio", false), ("NoText", false), ("NoRow", false)]) (.cons (.isX (.var 0) "NoTree" [("ZeroError", false), ("NoSum", false), ("NoBasis", false), ("NoTold", false), ("NoPower", false), ("NoLike", false), ("NoFinite", false), ("NoTree", true), ("NoParts", false), ("NoRatio", false), ("NoText", false), ("NoRow", false)]) .nil))))))))
(.cons (.ret (.bin .add (.var 1) (.fre (.disp (.cons (.isX (.var 0) "NoRatio" [("ZeroError", false), ("NoSum", false), ("NoBasis", false), ("NoTold", false), ("NoPower", false), ("NoLike", false), ("NoFinite", false), ("NoTree", false), ("NoParts", false), ("NoRatio", true), ("NoText", false), ("NoRow", false)]) (.cons (.isX (.var 0) "NoText" [("ZeroError", false), ("NoSum", false), ("NoBasis", false), ("NoTold", false), ("NoPower", false), ("NoLike", false), ("NoFinite", false), ("NoTree", false), ("NoParts", false), ("NoRatio", false), ("NoText", true), ("NoRow", false)]) (.cons (.isX (.var 0) "NoRow" [("ZeroError", false), ("NoSum", false), ("NoBasis", false), ("NoTold", false), ("NoPower", false), ("NoLike", false), ("NoFinite", false), ("NoTree", false), ("NoParts", false), ("NoRatio", false), ("NoText", false), ("NoRow", true)]) .nil)))))))
.nil)))⟩
def f_l_fields : Fn := ⟨"_law_fields", ["_law_at", "_law_e"], ["_law_at", "_law_e"], [],
(.cons (.ife (.cmp .lt (.e (.var 0)) (.e (.int 5)))
(.cons (.ret (.tup (.cons (.fldX (.var 1) "word") .nil)))
.nil)
.nil)
(.cons (.ife (.cmp .eq (.e (.var 0)) (.e (.int 5)))
(.cons (.ret (.tup (.cons (.fldX (.var 1) "word") (.cons (.fldX (.var 1) "at") .nil))))
.nil)
.nil)
(.cons (.ife (.cmp .eq (.e (.var 0)) (.e (.int 6)))
(.cons (.ret (.tup (.cons (.fldX (.var 1) "letter") .nil)))
.nil)
.nil)
(.cons (.ret (.ife (.cmp .eq (.e (.var 0)) (.e (.int 7))) (.tup (.cons (.fldX (.var 1) "row") .nil)) (.tup .nil)))
.nil))))⟩
end Lb
set_option linter.all false
set_option maxRecDepth 100000
namespace K17
open PySem Mn
open Lb
def f_law_15 (c_l_tape c_l_draw c_l_made c_l_fields c_l_is : Nat) : Fn := ⟨"law", ["_law_script"], ["_law_script", "_law_tape_here", "_law_at", "_law_word", "_law_number", "_law_row", "_law_found", "_law_due", "_law_k"], [],
(.cons (.own 1 (.call c_l_tape (.cons (.v (.var 0)) .nil)))
(.cons (.for_ [2] false (.rng1 (.int 11))
(.cons (.asg 3 (.ix (.e (.fre (.disp (.cons (.str "shape") (.cons (.str "sum") (.cons (.str "down") (.cons (.str "pair") (.cons (.str "set") (.cons (.str "poly") (.cons (.str "ones") .nil)))))))))) (.call c_l_draw (.cons (.io 1) (.cons (.v (.int 7)) .nil)))))
(.cons (.asg 4 (.ix (.e (.fre (.disp (.cons (.int 0) (.cons (.neg (.int 1)) (.cons (.int 1) (.cons (.int 7) (.cons (.int 39) .nil)))))))) (.call c_l_draw (.cons (.io 1) (.cons (.v (.int 5)) .nil)))))
(.cons (.asg 5 (.ix (.e (.fre (.disp (.cons (.tup .nil) (.cons (.tup (.cons (.tup (.cons (.int 0) (.cons (.int 1) .nil))) .nil)) (.cons (.tup (.cons (.tup (.cons (.int 1) (.cons (.int 2) .nil))) (.cons (.tup (.cons (.neg (.int 7)) (.cons (.int 3) .nil))) .nil))) (.cons (.tup (.cons (.tup (.cons (.bin .pow (.int 10) (.int 30)) (.cons (.int 1) .nil))) (.cons (.tup (.cons (.int 0) (.cons (.int 1) .nil))) (.cons (.tup (.cons (.int 5) (.cons (.int 9) .nil))) .nil)))) .nil))))))) (.call c_l_draw (.cons (.io 1) (.cons (.v (.int 4)) .nil)))))
(.cons (.asg 6 (.call c_l_made (.cons (.v (.var 2)) (.cons (.v (.var 3)) (.cons (.v (.var 4)) (.cons (.v (.var 5)) .nil))))))
(.cons (.asg 7 (.ix (.e (.fre (.disp (.cons (.tup (.cons (.var 3) .nil)) (.cons (.tup (.cons (.var 3) .nil)) (.cons (.tup (.cons (.var 3) .nil)) (.cons (.tup (.cons (.var 3) .nil)) (.cons (.tup (.cons (.var 3) .nil)) (.cons (.tup (.cons (.var 3) (.cons (.var 4) .nil))) (.cons (.tup (.cons (.var 4) .nil)) (.cons (.tup (.cons (.var 5) .nil)) (.cons (.tup .nil) (.cons (.tup .nil) (.cons (.tup .nil) .nil)))))))))))))) (.var 2)))
(.cons (.ife (.or (.cons (.not (.isX (.var 6) "ZeroError" [("ZeroError", true), ("NoSum", true), ("NoBasis", true), ("NoTold", true), ("NoPower", true), ("NoLike", true), ("NoFinite", true), ("NoTree", true), ("NoParts", true), ("NoRatio", true), ("NoText", true), ("NoRow", true)])) (.cons (.not (.isX (.var 6) "ValueError" [("ZeroError", true), ("NoSum", true), ("NoBasis", true), ("NoTold", true), ("NoPower", true), ("NoLike", true), ("NoFinite", true), ("NoTree", true), ("NoParts", true), ("NoRatio", true), ("NoText", true), ("NoRow", true)])) .nil)))
(.cons (.ret (.bl false))
.nil)
.nil)
(.cons (.ife (.or (.cons (.cmp .ne (.e (.call c_l_is (.cons (.v (.var 6)) .nil))) (.e (.fre (.comp (.cmp .eq (.e (.var 8)) (.e (.var 2))) [8] false (.rng1 (.int 11)) .none)))) (.cons (.cmp .ne (.e (.b1 .repr (.e (.call c_l_fields (.cons (.v (.var 2)) (.cons (.v (.var 6)) .nil)))))) (.e (.b1 .repr (.e (.var 7))))) .nil)))
(.cons (.ret (.bl false))
.nil)
.nil)
.nil))))))))
(.cons (.ret (.bl true))
.nil)))⟩
def fns : List Fn := [f_l_tape, f_l_draw, f_l_made, f_l_is, f_l_fields, (f_law_15 0 1 2 4 3)]
def gls : List (Str × D) := [("ZeroError", .dict [(.none, .tuple [.int 0, .list [], .str "ZeroError", .str "ValueError"])]), ("NoSum", .dict [(.none, .tuple [.int 1, .list [.str "word"], .str "NoSum", .str "ZeroError", .str "ValueError"])]), ("NoBasis", .dict [(.none, .tuple [.int 2, .list [.str "word", .str "at"], .str "NoBasis", .str "ZeroError", .str "ValueError"])]), ("NoTold", .dict [(.none, .tuple [.int 3, .list [.str "word"], .str "NoTold", .str "ZeroError", .str "ValueError"])]), ("NoPower", .dict [(.none, .tuple [.int 4, .list [.str "word"], .str "NoPower", .str "ZeroError", .str "ValueError"])]), ("NoLike", .dict [(.none, .tuple [.int 5, .list [.str "word"], .str "NoLike", .str "ZeroError", .str "ValueError"])]), ("NoFinite", .dict [(.none, .tuple [.int 6, .list [.str "letter"], .str "NoFinite", .str "ZeroError", .str "ValueError"])]), ("NoTree", .dict [(.none, .tuple [.int 7, .list [.str "row"], .str "NoTree", .str "ZeroError", .str "ValueError"])]), ("NoParts", .dict [(.none, .tuple [.int 8, .list [.str "word"], .str "NoParts", .str "ZeroError", .str "ValueError"])]), ("NoRatio", .dict [(.none, .tuple [.int 9, .list [], .str "NoRatio", .str "ZeroError", .str "ValueError"])]), ("NoText", .dict [(.none, .tuple [.int 10, .list [], .str "NoText", .str "ZeroError", .str "ValueError"])]), ("NoRow", .dict [(.none, .tuple [.int 11, .list [], .str "NoRow", .str "ZeroError", .str "ValueError"])])]
end K17
set_option Elab.async false
set_option linter.all false
set_option maxRecDepth 100000
set_option autoImplicit false
set_option maxHeartbeats 1000000
namespace K17
open PySem Mn Lb
/-! what is made, what is due -/
def exq (w n r : D) : Nat → D
  | 0 => excD "NoSum" ["word"] [w]
  | 1 => excD "NoTold" ["word"] [w]
  | 2 => excD "NoPower" ["word"] [w]
  | 3 => excD "NoLike" ["word"] [w]
  | 4 => excD "NoParts" ["word"] [w]
  | 5 => excD "NoBasis" ["at", "word"] [n, w]
  | 6 => excD "NoFinite" ["letter"] [n]
  | 7 => excD "NoTree" ["row"] [r]
  | 8 => excD "NoRatio" [] []
  | 9 => excD "NoText" [] []
  | _ => excD "NoRow" [] []
def due (w n r : D) : Nat → D
  | 0 => .tuple [w]
  | 1 => .tuple [w]
  | 2 => .tuple [w]
  | 3 => .tuple [w]
  | 4 => .tuple [w]
  | 5 => .tuple [w, n]
  | 6 => .tuple [n]
  | 7 => .tuple [r]
  | _ => .tuple []
def bls (i : Nat) : List D := (List.range 11).map fun (j : Nat) => .bool (decide ((0 : Int) + (j : Int) = (i : Int)))
theorem by11 {P : Nat → Prop} (h0 : P 0) (h1 : P 1) (h2 : P 2) (h3 : P 3) (h4 : P 4) (h5 : P 5) (h6 : P 6) (h7 : P 7) (h8 : P 8) (h9 : P 9) (h10 : P 10) : ∀ i, i < 11 → P i
  | 0, _ => h0 | 1, _ => h1 | 2, _ => h2 | 3, _ => h3 | 4, _ => h4 | 5, _ => h5 | 6, _ => h6 | 7, _ => h7 | 8, _ => h8 | 9, _ => h9 | 10, _ => h10
  | n + 11, h => absurd h (by omega)
theorem madeS (F : Nat → List Sl → FR) (W : Nat) (w n r : D) : ∀ i : Nat, i < 11 → runFn F W f_l_made [.val (.int (0 + (i : Int))), .val w, .val n, .val r] = .ok (exq w n r i) [] :=
  by11 rfl rfl rfl rfl rfl rfl rfl rfl rfl rfl rfl
theorem isS (F : Nat → List Sl → FR) (W : Nat) (w n r : D) : ∀ i : Nat, i < 11 → runFn F W f_l_is [.val (exq w n r i)] = .ok (.list (bls i)) [] :=
  by11 rfl rfl rfl rfl rfl rfl rfl rfl rfl rfl rfl
theorem fieldsS (F : Nat → List Sl → FR) (W : Nat) (w n r : D) : ∀ i : Nat, i < 11 → runFn F W f_l_fields [.val (.int (0 + (i : Int))), .val (exq w n r i)] = .ok (due w n r i) [] :=
  by11 rfl rfl rfl rfl rfl rfl rfl rfl rfl rfl rfl
theorem dueS (w n r : D) : ∀ i : Nat, i < 11 → L2.atI [.tuple [w], .tuple [w], .tuple [w], .tuple [w], .tuple [w], .tuple [w, n], .tuple [n], .tuple [r], .tuple [], .tuple [], .tuple []] (0 + (i : Int)) = some (due w n r i) :=
  by11 rfl rfl rfl rfl rfl rfl rfl rfl rfl rfl rfl
def allT : List (Str × Bool) := [("ZeroError", true), ("NoSum", true), ("NoBasis", true), ("NoTold", true), ("NoPower", true), ("NoLike", true), ("NoFinite", true), ("NoTree", true), ("NoParts", true), ("NoRatio", true), ("NoText", true), ("NoRow", true)]
theorem isT (w n r : D) : ∀ i : Nat, i < 11 → isXD allT (exq w n r i) = some (.bool true) :=
  by11 rfl rfl rfl rfl rfl rfl rfl rfl rfl rfl rfl
theorem eqb : ∀ i : Nat, i < 11 → eqD (.list (bls i)) (.list (bls i)) = some true := by
  refine by11 ?_ ?_ ?_ ?_ ?_ ?_ ?_ ?_ ?_ ?_ ?_ <;> decide +kernel
def words : List D := [.str "shape", .str "sum", .str "down", .str "pair", .str "set", .str "poly", .str "ones"]
def nums : List D := [.int 0, .int (-1), .int 1, .int 7, .int 39]
def rows : List D := [.tuple [], .tuple [.tuple [.int 0, .int 1]], .tuple [.tuple [.int 1, .int 2], .tuple [.int (-7), .int 3]], .tuple [.tuple [.int 1000000000000000000000000000000, .int 1], .tuple [.int 0, .int 1], .tuple [.int 5, .int 9]]]
theorem reprS {d : D} (h : (reprD d).isSome = true) : ∃ u, reprD d = some (.str u) := by
  unfold reprD at *
  split at h
  · rename_i q; rw [if_pos q]; exact ⟨_, rfl⟩
  · cases h
theorem repw : ∀ w ∈ words, (reprD (.tuple [w])).isSome = true := by decide +kernel
theorem repn : ∀ n ∈ nums, (reprD (.tuple [n])).isSome = true := by decide +kernel
theorem repr_ : ∀ r ∈ rows, (reprD (.tuple [r])).isSome = true := by decide +kernel
theorem repwn : ∀ w ∈ words, ∀ n ∈ nums, (reprD (.tuple [w, n])).isSome = true := by decide +kernel
theorem repd {w n r : D} (hw : w ∈ words) (hn : n ∈ nums) (hr : r ∈ rows) : ∀ i : Nat, i < 11 → ∃ u, reprD (due w n r i) = some (.str u) :=
  by11 (reprS (repw w hw)) (reprS (repw w hw)) (reprS (repw w hw)) (reprS (repw w hw)) (reprS (repw w hw)) (reprS (repwn w hw n hn)) (reprS (repn n hn)) (reprS (repr_ r hr)) ⟨_, rfl⟩ ⟨_, rfl⟩ ⟨_, rfl⟩
def MadeS (G : List Sl → FR) : Prop := ∀ (w n r : D) (i : Nat), i < 11 → G [.val (.int (0 + (i : Int))), .val w, .val n, .val r] = .ok (exq w n r i) []
def IsS (G : List Sl → FR) : Prop := ∀ (w n r : D) (i : Nat), i < 11 → G [.val (exq w n r i)] = .ok (.list (bls i)) []
def FieldsS (G : List Sl → FR) : Prop := ∀ (w n r : D) (i : Nat), i < 11 → G [.val (.int (0 + (i : Int))), .val (exq w n r i)] = .ok (due w n r i) []
theorem law_ok (F : Nat → List Sl → FR) (W : Nat) (h0 : TapeS (F 0)) (h1 : DrawS (F 1)) (h2 : MadeS (F 2)) (h4 : FieldsS (F 4)) (h3 : IsS (F 3))
    (ns : List Int) (hn : ns.length ≤ 63) (Q : D → List D → Prop) (hQ : Q (.bool true) []) : (runFn F W (f_law_15 0 1 2 4 3) [.val (.list (ns.map .int))]).wp Q := by
  refine wp_run rfl rfl ?_
  simp -implicitDefEqProofs [f_law_15, h0 ns hn, rng1_ok (show (0 : Int) ≤ 11 by decide) (show (11 : Int) ≤ 1000 by decide)]
  refine wp_forL (fun i μ => ∃ (T : D) (s2 s3 s4 s5 s6 s7 : Sl), μ = [.val (.list (ns.map .int)), .own T, s2, s3, s4, s5, s6, s7, .no] ∧ TapeB (20 * i) T ∧ FrS s2 ∧ FrS s3 ∧ FrS s4 ∧ FrS s5 ∧ FrS s6 ∧ FrS s7) _ _ ?_ ?_ ?_
  · exact ⟨_, .no, .no, .no, .no, .no, .no, rfl, tapeB0 hn, rfl, rfl, rfl, rfl, rfl, rfl⟩
  · rintro i d μ Q' hd' ⟨T, s2, s3, s4, s5, s6, s7, rfl, t, f2, f3, f4, f5, f6, f7⟩ hk
    obtain ⟨hi, rfl⟩ := rangeD_get hd'
    have hi : i < 11 := hi
    obtain ⟨r1, T1, e1, a1, b1, t1⟩ := h1 _ T 7 t (by omega) (by decide) (by decide)
    obtain ⟨r2, T2, e2, a2, b2, t2⟩ := h1 _ T1 5 t1 (by omega) (by decide) (by decide)
    obtain ⟨r3, T3, e3, a3, b3, t3⟩ := h1 _ T2 4 t2 (by omega) (by decide) (by decide)
    obtain ⟨w, v1, hw⟩ := atI_pick (P := fun d => d ∈ words) (l := words) a1 b1 fun d h => h
    obtain ⟨n, v2, hnn⟩ := atI_pick (P := fun d => d ∈ nums) (l := nums) a2 b2 fun d h => h
    obtain ⟨r, v3, hr⟩ := atI_pick (P := fun d => d ∈ rows) (l := rows) a3 b3 fun d h => h
    obtain ⟨u, hu⟩ := repd hw hnn hr i hi
    have pw : powD (.int 10) (.int 30) = some (.int 1000000000000000000000000000000) := rfl
    have g2 := h2 w n r i hi
    have g3 := h3 w n r i hi
    have g4 := h4 w n r i hi
    have g5 := dueS w n r i hi
    have g6 := isT w n r i hi
    have g7 := eqb i hi
    unfold words at v1
    unfold nums at v2
    unfold rows at v3
    unfold allT at g6
    generalize exq w n r i = X at *
    generalize due w n r i = Y at *
    have e : compL (turnR [8] false (ev F (.cmp .eq (.e (.var 8)) (.e (.var 2)))) none) (rangeD 0 11) [] [.val (.list (ns.map .int)), .own T3, .val (.int (0 + (i : Int))), .val w, .val n, .val r, .val X, .val Y, .no] = .ok ([] ++ bls i) [.val (.list (ns.map .int)), .own T3, .val (.int (0 + (i : Int))), .val w, .val n, .val r, .val X, .val Y, .no] := by
      refine compL_on _ _ _ _ fun j hj => ?_
      simp -implicitDefEqProofs
    rw [List.nil_append] at e
    generalize bls i = B at *
    have k := hk [.val (.list (ns.map .int)), .own T3, .val (.int (0 + (i : Int))), .val w, .val n, .val r, .val X, .val Y, .no] ⟨T3, _, _, _, _, _, _, rfl, t3.mono (by omega), rfl, rfl, rfl, rfl, rfl, rfl⟩
    generalize (0 + (i : Int)) = z at *
    simp -implicitDefEqProofs [-nought_rat, isLck_f f2, isLck_f f3, isLck_f f4, isLck_f f5, isLck_f f6, isLck_f f7, e1, e2, e3, v1, v2, v3, pw, g2, g3, g4, g5, g6, g7, e, hu, rng1_ok (show (0 : Int) ≤ 11 by decide) (show (11 : Int) ≤ 1000 by decide)]
    exact k
  · rintro μ ⟨T, s2, s3, s4, s5, s6, s7, rfl, r⟩
    simp -implicitDefEqProofs [outsOf]
    exact hQ
theorem s_at (k f : Nat) {fn : Fn} (h : fns[f]? = some fn) : sem fns Wb (k + 1) f = runFn (sem fns Wb k) Wb fn := funext fun args => sem_at fns Wb k f args h
theorem all_true : ∀ ns : List Int, ns.length ≤ 63 → sem fns Wb 6 5 [.val (.list (ns.map .int))] = .ok (.bool true) [] := by
  intro ns hn
  have h := law_ok (sem fns Wb 5) Wb (by rw [s_at 4 0 rfl]; exact tapeS _ _) (by rw [s_at 4 1 rfl]; exact drawS _ _ Wb_64) (by rw [s_at 4 2 rfl]; exact fun w n r => madeS _ _ w n r) (by rw [s_at 4 4 rfl]; exact fun w n r => fieldsS _ _ w n r) (by rw [s_at 4 3 rfl]; exact fun w n r => isS _ _ w n r) ns hn (fun d o => d = .bool true ∧ o = []) ⟨rfl, rfl⟩
  obtain ⟨_, _, e, rfl, rfl⟩ := FR.wp_elim h
  rw [s_at 5 5 rfl]
  exact e
end K17
set_option Elab.async false
set_option linter.all false
set_option autoImplicit false
namespace Mn
open PySem PySem.W
/-! ## facts of classes -/
section
variable {K : Frag} {C D : Addr} {cls : Value} {b : Bool} {T : String}
theorem kit_ref' (hdct : hasDictIn K C = true) (ht : typeIn K (.ref C) = some (.type "type")) (h5 : subIn K (.ref C) (.ref C) = some true) (h4 : subIn K cls (.ref C) = some b) : kitOne K cls (.ref C) = some b := by
  obtain ⟨cd, hc, _⟩ := any_some hdct
  have e2 : ((clsIn K C).isSome && typeIn K (.ref C) == some (.type "type")) = true := by rw [hc, ht] <;> rfl
  show (if (cls == .ref C) = true then some true else (if ((clsIn K C).isSome && typeIn K (.ref C) == some (.type "type")) = true then subIn K cls (.ref C) else none)) = some b
  rw [if_pos e2]
  split
  · rename_i q
    rw [beq_iff_eq] at q
    rw [q, h5] at h4
    exact h4
  · exact h4
theorem kit_ty' (hm : kitMeta T = true) (h4 : subIn K (.ref D) (.type T) = some b) : kitOne K (.ref D) (.type T) = some b := by
  show (if (Value.ref D == .type T) = true then some true else (if kitMeta T = true then subIn K (.ref D) (.type T) else none)) = some b
  rw [if_pos hm]
  split
  · rename_i q
    rw [beq_iff_eq] at q
    cases q
  · exact h4
theorem exm_ty' (h1 : subIn K (.type T) (.type "BaseException") = some true) (hm : kitMeta T = true) (h4 : subIn K (.ref D) (.type T) = some b) : exmOne K (.ref D) (.type T) = some b := by
  have e1 : (subIn K (.type T) (.type "BaseException") == some true) = true := by rw [h1]; rfl
  show (if (subIn K (.type T) (.type "BaseException") == some true) = true then (if kitMeta T = true then subIn K (.ref D) (.type T) else none) else none) = some b
  rw [if_pos e1, if_pos hm]
  exact h4
end
end Mn
set_option linter.all false
set_option maxRecDepth 100000
set_option maxHeartbeats 1000000
namespace K17
open PySem PySem.Spec L2 Mn Lb
def topS (i : Nat) : Stmt := PySem.Challenge.pw_commonzeros_k17_refusals_made_by_hand.main.body.getD i (.Pass ⟨0, 0, 0, 0⟩)
def initS (i : Nat) : Stmt := match topS i with
  | .ClassDef _ _ _ b _ _ _ _ _ _ _ => b.getD 0 (.Pass ⟨0, 0, 0, 0⟩)
  | _ => .Pass ⟨0, 0, 0, 0⟩
theorem oki_NoSum : chkInit "ZeroError" "word" "word" (initS 2) = true := by decide +kernel
theorem oki_NoBasis : chkInit2 "ZeroError" "word" "at" "word" "at" (initS 3) = true := by decide +kernel
theorem oki_NoTold : chkInit "ZeroError" "word" "word" (initS 4) = true := by decide +kernel
theorem oki_NoPower : chkInit "ZeroError" "word" "word" (initS 5) = true := by decide +kernel
theorem oki_NoLike : chkInit "ZeroError" "word" "word" (initS 6) = true := by decide +kernel
theorem oki_NoFinite : chkInit "ZeroError" "letter" "letter" (initS 7) = true := by decide +kernel
theorem oki_NoTree : chkInit "ZeroError" "row" "row" (initS 8) = true := by decide +kernel
theorem oki_NoParts : chkInit "ZeroError" "word" "word" (initS 9) = true := by decide +kernel
theorem ok_law_tape : chkFn fns gls f_l_tape (topS 14) = true := by decide +kernel
theorem ok_law_draw : chkFn fns gls f_l_draw (topS 15) = true := by decide +kernel
theorem ok_law_made : chkFn fns gls f_l_made (topS 16) = true := by decide +kernel
theorem ok_law_is : chkFn fns gls f_l_is (topS 17) = true := by decide +kernel
theorem ok_law_fields : chkFn fns gls f_l_fields (topS 18) = true := by decide +kernel
theorem ok_law : chkFn fns gls (f_law_15 0 1 2 4 3) (topS 19) = true := by decide +kernel
theorem prg {l : PySem.W.OpenLaw} {w : World} {K : PySem.W.Frag} {h : Heap} {mg : Str → Option Value} (X : K.In h) (G : h.Ns mainGlobals mg)
    {f0 : Addr} {od0 an0 : Option Addr} {sl0 : Array (Option Value)} {oc0 kV0 dc0 pm0 cd0 ct0 : Value}
    {f1 : Addr} {od1 an1 : Option Addr} {sl1 : Array (Option Value)} {oc1 kV1 dc1 pm1 cd1 ct1 : Value}
    {f2 : Addr} {od2 an2 : Option Addr} {sl2 : Array (Option Value)} {oc2 kV2 dc2 pm2 cd2 ct2 : Value}
    {f3 : Addr} {od3 an3 : Option Addr} {sl3 : Array (Option Value)} {oc3 kV3 dc3 pm3 cd3 ct3 : Value}
    {f4 : Addr} {od4 an4 : Option Addr} {sl4 : Array (Option Value)} {oc4 kV4 dc4 pm4 cd4 ct4 : Value}
    {f5 : Addr} {od5 an5 : Option Addr} {sl5 : Array (Option Value)} {oc5 kV5 dc5 pm5 cd5 ct5 : Value}
    {ca0 ca1 ca2 ca3 ca4 ca5 ca6 ca7 ca8 ca9 ca10 ca11 : Addr}
    {im1 iq1 : Str} {iN1 fI1 : Addr} {ib1 iu1 : List Value} {is1 : List Str} {ia1 : Bool} {il1 : Option Bool} {it1 : Option Addr} {j0_1 j1_1 j2_1 j3_1 j5_1 : Option Value} {iod1 ian1 : Option Addr} {isl1 : Array (Option Value)} {ioc1 ikV1 idc1 ipm1 icd1 ict1 : Value}
    {im2 iq2 : Str} {iN2 fI2 : Addr} {ib2 iu2 : List Value} {is2 : List Str} {ia2 : Bool} {il2 : Option Bool} {it2 : Option Addr} {j0_2 j1_2 j2_2 j3_2 j5_2 : Option Value} {iod2 ian2 : Option Addr} {isl2 : Array (Option Value)} {ioc2 ikV2 idc2 ipm2 icd2 ict2 : Value}
    {im3 iq3 : Str} {iN3 fI3 : Addr} {ib3 iu3 : List Value} {is3 : List Str} {ia3 : Bool} {il3 : Option Bool} {it3 : Option Addr} {j0_3 j1_3 j2_3 j3_3 j5_3 : Option Value} {iod3 ian3 : Option Addr} {isl3 : Array (Option Value)} {ioc3 ikV3 idc3 ipm3 icd3 ict3 : Value}
    {im4 iq4 : Str} {iN4 fI4 : Addr} {ib4 iu4 : List Value} {is4 : List Str} {ia4 : Bool} {il4 : Option Bool} {it4 : Option Addr} {j0_4 j1_4 j2_4 j3_4 j5_4 : Option Value} {iod4 ian4 : Option Addr} {isl4 : Array (Option Value)} {ioc4 ikV4 idc4 ipm4 icd4 ict4 : Value}
    {im5 iq5 : Str} {iN5 fI5 : Addr} {ib5 iu5 : List Value} {is5 : List Str} {ia5 : Bool} {il5 : Option Bool} {it5 : Option Addr} {j0_5 j1_5 j2_5 j3_5 j5_5 : Option Value} {iod5 ian5 : Option Addr} {isl5 : Array (Option Value)} {ioc5 ikV5 idc5 ipm5 icd5 ict5 : Value}
    {im6 iq6 : Str} {iN6 fI6 : Addr} {ib6 iu6 : List Value} {is6 : List Str} {ia6 : Bool} {il6 : Option Bool} {it6 : Option Addr} {j0_6 j1_6 j2_6 j3_6 j5_6 : Option Value} {iod6 ian6 : Option Addr} {isl6 : Array (Option Value)} {ioc6 ikV6 idc6 ipm6 icd6 ict6 : Value}
    {im7 iq7 : Str} {iN7 fI7 : Addr} {ib7 iu7 : List Value} {is7 : List Str} {ia7 : Bool} {il7 : Option Bool} {it7 : Option Addr} {j0_7 j1_7 j2_7 j3_7 j5_7 : Option Value} {iod7 ian7 : Option Addr} {isl7 : Array (Option Value)} {ioc7 ikV7 idc7 ipm7 icd7 ict7 : Value}
    {im8 iq8 : Str} {iN8 fI8 : Addr} {ib8 iu8 : List Value} {is8 : List Str} {ia8 : Bool} {il8 : Option Bool} {it8 : Option Addr} {j0_8 j1_8 j2_8 j3_8 j5_8 : Option Value} {iod8 ian8 : Option Addr} {isl8 : Array (Option Value)} {ioc8 ikV8 idc8 ipm8 icd8 ict8 : Value}
    (a0 : PySem.W.nsIn K mainGlobals "_law_tape" = some (some (.ref f0))) (l0 : K.lookup f0 = some ⟨oc0, od0, .func (PySem.W.fnOf "_law_tape" "_law_tape" (defArgs (topS 14)) (defBody (topS 14)) (defScope (topS 14)) .none kV0 dc0 pm0 an0 cd0 ct0), sl0⟩) (c0 : PySem.W.codeIn K cd0 "_law_tape" = true) (k0 : PySem.W.keepIn K (.ref f0) = true)
    (a1 : PySem.W.nsIn K mainGlobals "_law_draw" = some (some (.ref f1))) (l1 : K.lookup f1 = some ⟨oc1, od1, .func (PySem.W.fnOf "_law_draw" "_law_draw" (defArgs (topS 15)) (defBody (topS 15)) (defScope (topS 15)) .none kV1 dc1 pm1 an1 cd1 ct1), sl1⟩) (c1 : PySem.W.codeIn K cd1 "_law_draw" = true) (k1 : PySem.W.keepIn K (.ref f1) = true)
    (a2 : PySem.W.nsIn K mainGlobals "_law_made" = some (some (.ref f2))) (l2 : K.lookup f2 = some ⟨oc2, od2, .func (PySem.W.fnOf "_law_made" "_law_made" (defArgs (topS 16)) (defBody (topS 16)) (defScope (topS 16)) .none kV2 dc2 pm2 an2 cd2 ct2), sl2⟩) (c2 : PySem.W.codeIn K cd2 "_law_made" = true) (k2 : PySem.W.keepIn K (.ref f2) = true)
    (a3 : PySem.W.nsIn K mainGlobals "_law_is" = some (some (.ref f3))) (l3 : K.lookup f3 = some ⟨oc3, od3, .func (PySem.W.fnOf "_law_is" "_law_is" (defArgs (topS 17)) (defBody (topS 17)) (defScope (topS 17)) .none kV3 dc3 pm3 an3 cd3 ct3), sl3⟩) (c3 : PySem.W.codeIn K cd3 "_law_is" = true) (k3 : PySem.W.keepIn K (.ref f3) = true)
    (a4 : PySem.W.nsIn K mainGlobals "_law_fields" = some (some (.ref f4))) (l4 : K.lookup f4 = some ⟨oc4, od4, .func (PySem.W.fnOf "_law_fields" "_law_fields" (defArgs (topS 18)) (defBody (topS 18)) (defScope (topS 18)) .none kV4 dc4 pm4 an4 cd4 ct4), sl4⟩) (c4 : PySem.W.codeIn K cd4 "_law_fields" = true) (k4 : PySem.W.keepIn K (.ref f4) = true)
    (a5 : PySem.W.nsIn K mainGlobals "law" = some (some (.ref f5))) (l5 : K.lookup f5 = some ⟨oc5, od5, .func (PySem.W.fnOf "law" "law" (defArgs (topS 19)) (defBody (topS 19)) (defScope (topS 19)) .none kV5 dc5 pm5 an5 cd5 ct5), sl5⟩) (c5 : PySem.W.codeIn K cd5 "law" = true) (k5 : PySem.W.keepIn K (.ref f5) = true)
    (z0 : PySem.W.nsIn K mainGlobals "len" = some none)
    (z1 : PySem.W.nsIn K mainGlobals "abs" = some none)
    (z2 : PySem.W.nsIn K mainGlobals "all" = some none)
    (z3 : PySem.W.nsIn K mainGlobals "any" = some none)
    (z4 : PySem.W.nsIn K mainGlobals "sum" = some none)
    (z5 : PySem.W.nsIn K mainGlobals "max" = some none)
    (z6 : PySem.W.nsIn K mainGlobals "min" = some none)
    (z7 : PySem.W.nsIn K mainGlobals "tuple" = some none)
    (z8 : PySem.W.nsIn K mainGlobals "repr" = some none)
    (z9 : PySem.W.nsIn K mainGlobals "str" = some none)
    (z10 : PySem.W.nsIn K mainGlobals "int" = some none)
    (z11 : PySem.W.nsIn K mainGlobals "isinstance" = some none)
    (z12 : PySem.W.nsIn K mainGlobals "range" = some none)
    (z13 : PySem.W.nsIn K mainGlobals "zip" = some none)
    (z14 : PySem.W.nsIn K mainGlobals "list" = some none)
    (z15 : PySem.W.nsIn K mainGlobals "bool" = some none)
    (z16 : PySem.W.nsIn K mainGlobals "enumerate" = some none)
    (z17 : PySem.W.nsIn K mainGlobals "reversed" = some none)
    (z18 : PySem.W.nsIn K mainGlobals "sorted" = some none)
    (z19 : PySem.W.nsIn K mainGlobals "dict" = some none)
    (zv : PySem.W.nsIn K mainGlobals "ValueError" = some none)
    (cx0 : PySem.W.nsIn K mainGlobals "ZeroError" = some (some (.ref ca0)))
    (cx1 : PySem.W.nsIn K mainGlobals "NoSum" = some (some (.ref ca1)))
    (cx2 : PySem.W.nsIn K mainGlobals "NoBasis" = some (some (.ref ca2)))
    (cx3 : PySem.W.nsIn K mainGlobals "NoTold" = some (some (.ref ca3)))
    (cx4 : PySem.W.nsIn K mainGlobals "NoPower" = some (some (.ref ca4)))
    (cx5 : PySem.W.nsIn K mainGlobals "NoLike" = some (some (.ref ca5)))
    (cx6 : PySem.W.nsIn K mainGlobals "NoFinite" = some (some (.ref ca6)))
    (cx7 : PySem.W.nsIn K mainGlobals "NoTree" = some (some (.ref ca7)))
    (cx8 : PySem.W.nsIn K mainGlobals "NoParts" = some (some (.ref ca8)))
    (cx9 : PySem.W.nsIn K mainGlobals "NoRatio" = some (some (.ref ca9)))
    (cx10 : PySem.W.nsIn K mainGlobals "NoText" = some (some (.ref ca10)))
    (cx11 : PySem.W.nsIn K mainGlobals "NoRow" = some (some (.ref ca11)))
    (ce0 : PySem.W.excIn K ca0 [.type "ValueError", .type "Exception", .type "BaseException", .type "object"] "ValueError.__new__" = true)
    (ck0 : PySem.W.keepIn K (.ref ca0) = true) (cs0 : PySem.W.subIn K (.ref ca0) (.type "BaseException") = some true) (ct0 : PySem.W.typeIn K (.ref ca0) = some (.type "type"))
    (hg0 : PySem.W.findIn K (.ref ca0) "__getattribute__" = some (some (.builtin "BaseException.__getattribute__"))) (hk0 : PySem.W.findIn K (.ref ca0) "__getattr__" = some none) (hs0 : PySem.W.subIn K (.ref ca0) (.type "BaseException") = some true) (hd0 : PySem.W.hasDictIn K ca0 = true) (ha0 : PySem.W.findIn K (.ref ca0) "__class__" = some (some (.builtin "object.__class__"))) (hn0 : PySem.W.specialIn K (.builtin "object.__class__") "__get__" = some (some (.builtin "getset_descriptor.__get__"))) (ht0 : PySem.W.takesIn K (.builtin "object.__class__") = some true) (hm0 : PySem.W.mroIn K ca0 (.type "object") = some true)
    (so0_0 : PySem.W.subIn K (.ref ca0) (.type "ValueError") = some true)
    (so0_1 : PySem.W.subIn K (.ref ca0) (.ref ca0) = some true)
    (so0_2 : PySem.W.subIn K (.ref ca0) (.ref ca1) = some false)
    (so0_3 : PySem.W.subIn K (.ref ca0) (.ref ca2) = some false)
    (so0_4 : PySem.W.subIn K (.ref ca0) (.ref ca3) = some false)
    (so0_5 : PySem.W.subIn K (.ref ca0) (.ref ca4) = some false)
    (so0_6 : PySem.W.subIn K (.ref ca0) (.ref ca5) = some false)
    (so0_7 : PySem.W.subIn K (.ref ca0) (.ref ca6) = some false)
    (so0_8 : PySem.W.subIn K (.ref ca0) (.ref ca7) = some false)
    (so0_9 : PySem.W.subIn K (.ref ca0) (.ref ca8) = some false)
    (so0_10 : PySem.W.subIn K (.ref ca0) (.ref ca9) = some false)
    (so0_11 : PySem.W.subIn K (.ref ca0) (.ref ca10) = some false)
    (so0_12 : PySem.W.subIn K (.ref ca0) (.ref ca11) = some false)
    (xL1 : K.lookup ca1 = some (excClassObj im1 iq1 ca1 iN1 ib1 [.ref ca0, .type "ValueError", .type "Exception", .type "BaseException", .type "object"] true is1 iu1 ia1 il1 it1 j0_1 j1_1 j2_1 j3_1 j5_1 "ValueError.__new__"))
    (xs1 : PySem.W.findIn K (.ref ca1) "__setattr__" = some (some (.builtin "object.__setattr__"))) (xn1 : PySem.W.findIn K (.ref ca1) "word" = some none) (xi1 : PySem.W.findIn K (.ref ca1) "__init__" = some (some (.ref fI1))) (xt1 : PySem.W.typeIn K (.ref fI1) = some (.type "function"))
    (xl1 : K.lookup fI1 = some ⟨ioc1, iod1, .func (PySem.W.fnOf "__init__" "NoSum.__init__" (defArgs (initS 2)) (defBody (initS 2)) (defScope (initS 2)) .none ikV1 idc1 ipm1 ian1 icd1 ict1), isl1⟩) (xc1 : PySem.W.codeIn K icd1 "NoSum.__init__" = true) (xk1 : PySem.W.keepIn K (.ref fI1) = true)
    (bg0 : PySem.W.specialIn K (.ref ca0) "__getattribute__" = some (some (.builtin "type.__getattribute__"))) (bt0 : PySem.W.typeIn K (.ref ca0) = some (.type "type")) (br0 : PySem.W.readsIn K ca0 (.type "type") = true) (bf0 : PySem.W.findCls K (.ref ca0) (.type "type") "__init__" = some (.val (.builtin "ValueError.__init__")))
    (ck1 : PySem.W.keepIn K (.ref ca1) = true) (cs1 : PySem.W.subIn K (.ref ca1) (.type "BaseException") = some true) (ct1 : PySem.W.typeIn K (.ref ca1) = some (.type "type"))
    (hg1 : PySem.W.findIn K (.ref ca1) "__getattribute__" = some (some (.builtin "BaseException.__getattribute__"))) (hk1 : PySem.W.findIn K (.ref ca1) "__getattr__" = some none) (hs1 : PySem.W.subIn K (.ref ca1) (.type "BaseException") = some true) (hd1 : PySem.W.hasDictIn K ca1 = true) (ha1 : PySem.W.findIn K (.ref ca1) "__class__" = some (some (.builtin "object.__class__"))) (hn1 : PySem.W.specialIn K (.builtin "object.__class__") "__get__" = some (some (.builtin "getset_descriptor.__get__"))) (ht1 : PySem.W.takesIn K (.builtin "object.__class__") = some true) (hm1 : PySem.W.mroIn K ca1 (.type "object") = some true)
    (so1_0 : PySem.W.subIn K (.ref ca1) (.type "ValueError") = some true)
    (so1_1 : PySem.W.subIn K (.ref ca1) (.ref ca0) = some true)
    (so1_2 : PySem.W.subIn K (.ref ca1) (.ref ca1) = some true)
    (so1_3 : PySem.W.subIn K (.ref ca1) (.ref ca2) = some false)
    (so1_4 : PySem.W.subIn K (.ref ca1) (.ref ca3) = some false)
    (so1_5 : PySem.W.subIn K (.ref ca1) (.ref ca4) = some false)
    (so1_6 : PySem.W.subIn K (.ref ca1) (.ref ca5) = some false)
    (so1_7 : PySem.W.subIn K (.ref ca1) (.ref ca6) = some false)
    (so1_8 : PySem.W.subIn K (.ref ca1) (.ref ca7) = some false)
    (so1_9 : PySem.W.subIn K (.ref ca1) (.ref ca8) = some false)
    (so1_10 : PySem.W.subIn K (.ref ca1) (.ref ca9) = some false)
    (so1_11 : PySem.W.subIn K (.ref ca1) (.ref ca10) = some false)
    (so1_12 : PySem.W.subIn K (.ref ca1) (.ref ca11) = some false)
    (xL2 : K.lookup ca2 = some (excClassObj im2 iq2 ca2 iN2 ib2 [.ref ca0, .type "ValueError", .type "Exception", .type "BaseException", .type "object"] true is2 iu2 ia2 il2 it2 j0_2 j1_2 j2_2 j3_2 j5_2 "ValueError.__new__"))
    (xs2 : PySem.W.findIn K (.ref ca2) "__setattr__" = some (some (.builtin "object.__setattr__"))) (xn2 : PySem.W.findIn K (.ref ca2) "word" = some none) (xi2 : PySem.W.findIn K (.ref ca2) "__init__" = some (some (.ref fI2))) (xt2 : PySem.W.typeIn K (.ref fI2) = some (.type "function"))
    (xl2 : K.lookup fI2 = some ⟨ioc2, iod2, .func (PySem.W.fnOf "__init__" "NoBasis.__init__" (defArgs (initS 3)) (defBody (initS 3)) (defScope (initS 3)) .none ikV2 idc2 ipm2 ian2 icd2 ict2), isl2⟩) (xc2 : PySem.W.codeIn K icd2 "NoBasis.__init__" = true) (xk2 : PySem.W.keepIn K (.ref fI2) = true)
    (xm2 : PySem.W.findIn K (.ref ca2) "at" = some none)
    (ck2 : PySem.W.keepIn K (.ref ca2) = true) (cs2 : PySem.W.subIn K (.ref ca2) (.type "BaseException") = some true) (ct2 : PySem.W.typeIn K (.ref ca2) = some (.type "type"))
    (hg2 : PySem.W.findIn K (.ref ca2) "__getattribute__" = some (some (.builtin "BaseException.__getattribute__"))) (hk2 : PySem.W.findIn K (.ref ca2) "__getattr__" = some none) (hs2 : PySem.W.subIn K (.ref ca2) (.type "BaseException") = some true) (hd2 : PySem.W.hasDictIn K ca2 = true) (ha2 : PySem.W.findIn K (.ref ca2) "__class__" = some (some (.builtin "object.__class__"))) (hn2 : PySem.W.specialIn K (.builtin "object.__class__") "__get__" = some (some (.builtin "getset_descriptor.__get__"))) (ht2 : PySem.W.takesIn K (.builtin "object.__class__") = some true) (hm2 : PySem.W.mroIn K ca2 (.type "object") = some true)
    (so2_0 : PySem.W.subIn K (.ref ca2) (.type "ValueError") = some true)
    (so2_1 : PySem.W.subIn K (.ref ca2) (.ref ca0) = some true)
    (so2_2 : PySem.W.subIn K (.ref ca2) (.ref ca1) = some false)
    (so2_3 : PySem.W.subIn K (.ref ca2) (.ref ca2) = some true)
    (so2_4 : PySem.W.subIn K (.ref ca2) (.ref ca3) = some false)
    (so2_5 : PySem.W.subIn K (.ref ca2) (.ref ca4) = some false)
    (so2_6 : PySem.W.subIn K (.ref ca2) (.ref ca5) = some false)
    (so2_7 : PySem.W.subIn K (.ref ca2) (.ref ca6) = some false)
    (so2_8 : PySem.W.subIn K (.ref ca2) (.ref ca7) = some false)
    (so2_9 : PySem.W.subIn K (.ref ca2) (.ref ca8) = some false)
    (so2_10 : PySem.W.subIn K (.ref ca2) (.ref ca9) = some false)
    (so2_11 : PySem.W.subIn K (.ref ca2) (.ref ca10) = some false)
    (so2_12 : PySem.W.subIn K (.ref ca2) (.ref ca11) = some false)
    (xL3 : K.lookup ca3 = some (excClassObj im3 iq3 ca3 iN3 ib3 [.ref ca0, .type "ValueError", .type "Exception", .type "BaseException", .type "object"] true is3 iu3 ia3 il3 it3 j0_3 j1_3 j2_3 j3_3 j5_3 "ValueError.__new__"))
    (xs3 : PySem.W.findIn K (.ref ca3) "__setattr__" = some (some (.builtin "object.__setattr__"))) (xn3 : PySem.W.findIn K (.ref ca3) "word" = some none) (xi3 : PySem.W.findIn K (.ref ca3) "__init__" = some (some (.ref fI3))) (xt3 : PySem.W.typeIn K (.ref fI3) = some (.type "function"))
    (xl3 : K.lookup fI3 = some ⟨ioc3, iod3, .func (PySem.W.fnOf "__init__" "NoTold.__init__" (defArgs (initS 4)) (defBody (initS 4)) (defScope (initS 4)) .none ikV3 idc3 ipm3 ian3 icd3 ict3), isl3⟩) (xc3 : PySem.W.codeIn K icd3 "NoTold.__init__" = true) (xk3 : PySem.W.keepIn K (.ref fI3) = true)
    (ck3 : PySem.W.keepIn K (.ref ca3) = true) (cs3 : PySem.W.subIn K (.ref ca3) (.type "BaseException") = some true) (ct3 : PySem.W.typeIn K (.ref ca3) = some (.type "type"))
    (hg3 : PySem.W.findIn K (.ref ca3) "__getattribute__" = some (some (.builtin "BaseException.__getattribute__"))) (hk3 : PySem.W.findIn K (.ref ca3) "__getattr__" = some none) (hs3 : PySem.W.subIn K (.ref ca3) (.type "BaseException") = some true) (hd3 : PySem.W.hasDictIn K ca3 = true) (ha3 : PySem.W.findIn K (.ref ca3) "__class__" = some (some (.builtin "object.__class__"))) (hn3 : PySem.W.specialIn K (.builtin "object.__class__") "__get__" = some (some (.builtin "getset_descriptor.__get__"))) (ht3 : PySem.W.takesIn K (.builtin "object.__class__") = some true) (hm3 : PySem.W.mroIn K ca3 (.type "object") = some true)
    (so3_0 : PySem.W.subIn K (.ref ca3) (.type "ValueError") = some true)
    (so3_1 : PySem.W.subIn K (.ref ca3) (.ref ca0) = some true)
    (so3_2 : PySem.W.subIn K (.ref ca3) (.ref ca1) = some false)
    (so3_3 : PySem.W.subIn K (.ref ca3) (.ref ca2) = some false)
    (so3_4 : PySem.W.subIn K (.ref ca3) (.ref ca3) = some true)
    (so3_5 : PySem.W.subIn K (.ref ca3) (.ref ca4) = some false)
    (so3_6 : PySem.W.subIn K (.ref ca3) (.ref ca5) = some false)
    (so3_7 : PySem.W.subIn K (.ref ca3) (.ref ca6) = some false)
    (so3_8 : PySem.W.subIn K (.ref ca3) (.ref ca7) = some false)
    (so3_9 : PySem.W.subIn K (.ref ca3) (.ref ca8) = some false)
    (so3_10 : PySem.W.subIn K (.ref ca3) (.ref ca9) = some false)
    (so3_11 : PySem.W.subIn K (.ref ca3) (.ref ca10) = some false)
    (so3_12 : PySem.W.subIn K (.ref ca3) (.ref ca11) = some false)
    (xL4 : K.lookup ca4 = some (excClassObj im4 iq4 ca4 iN4 ib4 [.ref ca0, .type "ValueError", .type "Exception", .type "BaseException", .type "object"] true is4 iu4 ia4 il4 it4 j0_4 j1_4 j2_4 j3_4 j5_4 "ValueError.__new__"))
    (xs4 : PySem.W.findIn K (.ref ca4) "__setattr__" = some (some (.builtin "object.__setattr__"))) (xn4 : PySem.W.findIn K (.ref ca4) "word" = some none) (xi4 : PySem.W.findIn K (.ref ca4) "__init__" = some (some (.ref fI4))) (xt4 : PySem.W.typeIn K (.ref fI4) = some (.type "function"))
    (xl4 : K.lookup fI4 = some ⟨ioc4, iod4, .func (PySem.W.fnOf "__init__" "NoPower.__init__" (defArgs (initS 5)) (defBody (initS 5)) (defScope (initS 5)) .none ikV4 idc4 ipm4 ian4 icd4 ict4), isl4⟩) (xc4 : PySem.W.codeIn K icd4 "NoPower.__init__" = true) (xk4 : PySem.W.keepIn K (.ref fI4) = true)
    (ck4 : PySem.W.keepIn K (.ref ca4) = true) (cs4 : PySem.W.subIn K (.ref ca4) (.type "BaseException") = some true) (ct4 : PySem.W.typeIn K (.ref ca4) = some (.type "type"))
    (hg4 : PySem.W.findIn K (.ref ca4) "__getattribute__" = some (some (.builtin "BaseException.__getattribute__"))) (hk4 : PySem.W.findIn K (.ref ca4) "__getattr__" = some none) (hs4 : PySem.W.subIn K (.ref ca4) (.type "BaseException") = some true) (hd4 : PySem.W.hasDictIn K ca4 = true) (ha4 : PySem.W.findIn K (.ref ca4) "__class__" = some (some (.builtin "object.__class__"))) (hn4 : PySem.W.specialIn K (.builtin "object.__class__") "__get__" = some (some (.builtin "getset_descriptor.__get__"))) (ht4 : PySem.W.takesIn K (.builtin "object.__class__") = some true) (hm4 : PySem.W.mroIn K ca4 (.type "object") = some true)
    (so4_0 : PySem.W.subIn K (.ref ca4) (.type "ValueError") = some true)
    (so4_1 : PySem.W.subIn K (.ref ca4) (.ref ca0) = some true)
    (so4_2 : PySem.W.subIn K (.ref ca4) (.ref ca1) = some false)
    (so4_3 : PySem.W.subIn K (.ref ca4) (.ref ca2) = some false)
    (so4_4 : PySem.W.subIn K (.ref ca4) (.ref ca3) = some false)
    (so4_5 : PySem.W.subIn K (.ref ca4) (.ref ca4) = some true)
    (so4_6 : PySem.W.subIn K (.ref ca4) (.ref ca5) = some false)
    (so4_7 : PySem.W.subIn K (.ref ca4) (.ref ca6) = some false)
    (so4_8 : PySem.W.subIn K (.ref ca4) (.ref ca7) = some false)
    (so4_9 : PySem.W.subIn K (.ref ca4) (.ref ca8) = some false)
    (so4_10 : PySem.W.subIn K (.ref ca4) (.ref ca9) = some false)
    (so4_11 : PySem.W.subIn K (.ref ca4) (.ref ca10) = some false)
    (so4_12 : PySem.W.subIn K (.ref ca4) (.ref ca11) = some false)
    (xL5 : K.lookup ca5 = some (excClassObj im5 iq5 ca5 iN5 ib5 [.ref ca0, .type "ValueError", .type "Exception", .type "BaseException", .type "object"] true is5 iu5 ia5 il5 it5 j0_5 j1_5 j2_5 j3_5 j5_5 "ValueError.__new__"))
    (xs5 : PySem.W.findIn K (.ref ca5) "__setattr__" = some (some (.builtin "object.__setattr__"))) (xn5 : PySem.W.findIn K (.ref ca5) "word" = some none) (xi5 : PySem.W.findIn K (.ref ca5) "__init__" = some (some (.ref fI5))) (xt5 : PySem.W.typeIn K (.ref fI5) = some (.type "function"))
    (xl5 : K.lookup fI5 = some ⟨ioc5, iod5, .func (PySem.W.fnOf "__init__" "NoLike.__init__" (defArgs (initS 6)) (defBody (initS 6)) (defScope (initS 6)) .none ikV5 idc5 ipm5 ian5 icd5 ict5), isl5⟩) (xc5 : PySem.W.codeIn K icd5 "NoLike.__init__" = true) (xk5 : PySem.W.keepIn K (.ref fI5) = true)
    (ck5 : PySem.W.keepIn K (.ref ca5) = true) (cs5 : PySem.W.subIn K (.ref ca5) (.type "BaseException") = some true) (ct5 : PySem.W.typeIn K (.ref ca5) = some (.type "type"))
    (hg5 : PySem.W.findIn K (.ref ca5) "__getattribute__" = some (some (.builtin "BaseException.__getattribute__"))) (hk5 : PySem.W.findIn K (.ref ca5) "__getattr__" = some none) (hs5 : PySem.W.subIn K (.ref ca5) (.type "BaseException") = some true) (hd5 : PySem.W.hasDictIn K ca5 = true) (ha5 : PySem.W.findIn K (.ref ca5) "__class__" = some (some (.builtin "object.__class__"))) (hn5 : PySem.W.specialIn K (.builtin "object.__class__") "__get__" = some (some (.builtin "getset_descriptor.__get__"))) (ht5 : PySem.W.takesIn K (.builtin "object.__class__") = some true) (hm5 : PySem.W.mroIn K ca5 (.type "object") = some true)
    (so5_0 : PySem.W.subIn K (.ref ca5) (.type "ValueError") = some true)
    (so5_1 : PySem.W.subIn K (.ref ca5) (.ref ca0) = some true)
    (so5_2 : PySem.W.subIn K (.ref ca5) (.ref ca1) = some false)
    (so5_3 : PySem.W.subIn K (.ref ca5) (.ref ca2) = some false)
    (so5_4 : PySem.W.subIn K (.ref ca5) (.ref ca3) = some false)
    (so5_5 : PySem.W.subIn K (.ref ca5) (.ref ca4) = some false)
    (so5_6 : PySem.W.subIn K (.ref ca5) (.ref ca5) = some true)
    (so5_7 : PySem.W.subIn K (.ref ca5) (.ref ca6) = some false)
    (so5_8 : PySem.W.subIn K (.ref ca5) (.ref ca7) = some false)
    (so5_9 : PySem.W.subIn K (.ref ca5) (.ref ca8) = some false)
    (so5_10 : PySem.W.subIn K (.ref ca5) (.ref ca9) = some false)
    (so5_11 : PySem.W.subIn K (.ref ca5) (.ref ca10) = some false)
    (so5_12 : PySem.W.subIn K (.ref ca5) (.ref ca11) = some false)
    (xL6 : K.lookup ca6 = some (excClassObj im6 iq6 ca6 iN6 ib6 [.ref ca0, .type "ValueError", .type "Exception", .type "BaseException", .type "object"] true is6 iu6 ia6 il6 it6 j0_6 j1_6 j2_6 j3_6 j5_6 "ValueError.__new__"))
    (xs6 : PySem.W.findIn K (.ref ca6) "__setattr__" = some (some (.builtin "object.__setattr__"))) (xn6 : PySem.W.findIn K (.ref ca6) "letter" = some none) (xi6 : PySem.W.findIn K (.ref ca6) "__init__" = some (some (.ref fI6))) (xt6 : PySem.W.typeIn K (.ref fI6) = some (.type "function"))
    (xl6 : K.lookup fI6 = some ⟨ioc6, iod6, .func (PySem.W.fnOf "__init__" "NoFinite.__init__" (defArgs (initS 7)) (defBody (initS 7)) (defScope (initS 7)) .none ikV6 idc6 ipm6 ian6 icd6 ict6), isl6⟩) (xc6 : PySem.W.codeIn K icd6 "NoFinite.__init__" = true) (xk6 : PySem.W.keepIn K (.ref fI6) = true)
    (ck6 : PySem.W.keepIn K (.ref ca6) = true) (cs6 : PySem.W.subIn K (.ref ca6) (.type "BaseException") = some true) (ct6 : PySem.W.typeIn K (.ref ca6) = some (.type "type"))
    (hg6 : PySem.W.findIn K (.ref ca6) "__getattribute__" = some (some (.builtin "BaseException.__getattribute__"))) (hk6 : PySem.W.findIn K (.ref ca6) "__getattr__" = some none) (hs6 : PySem.W.subIn K (.ref ca6) (.type "BaseException") = some true) (hd6 : PySem.W.hasDictIn K ca6 = true) (ha6 : PySem.W.findIn K (.ref ca6) "__class__" = some (some (.builtin "object.__class__"))) (hn6 : PySem.W.specialIn K (.builtin "object.__class__") "__get__" = some (some (.builtin "getset_descriptor.__get__"))) (ht6 : PySem.W.takesIn K (.builtin "object.__class__") = some true) (hm6 : PySem.W.mroIn K ca6 (.type "object") = some true)
    (so6_0 : PySem.W.subIn K (.ref ca6) (.type "ValueError") = some true)
    (so6_1 : PySem.W.subIn K (.ref ca6) (.ref ca0) = some true)
    (so6_2 : PySem.W.subIn K (.ref ca6) (.ref ca1) = some false)
    (so6_3 : PySem.W.subIn K (.ref ca6) (.ref ca2) = some false)
    (so6_4 : PySem.W.subIn K (.ref ca6) (.ref ca3) = some false)
    (so6_5 : PySem.W.subIn K (.ref ca6) (.ref ca4) = some false)
    (so6_6 : PySem.W.subIn K (.ref ca6) (.ref ca5) = some false)
    (so6_7 : PySem.W.subIn K (.ref ca6) (.ref ca6) = some true)
    (so6_8 : PySem.W.subIn K (.ref ca6) (.ref ca7) = some false)
    (so6_9 : PySem.W.subIn K (.ref ca6) (.ref ca8) = some false)
    (so6_10 : PySem.W.subIn K (.ref ca6) (.ref ca9) = some false)
    (so6_11 : PySem.W.subIn K (.ref ca6) (.ref ca10) = some false)
    (so6_12 : PySem.W.subIn K (.ref ca6) (.ref ca11) = some false)
    (xL7 : K.lookup ca7 = some (excClassObj im7 iq7 ca7 iN7 ib7 [.ref ca0, .type "ValueError", .type "Exception", .type "BaseException", .type "object"] true is7 iu7 ia7 il7 it7 j0_7 j1_7 j2_7 j3_7 j5_7 "ValueError.__new__"))
    (xs7 : PySem.W.findIn K (.ref ca7) "__setattr__" = some (some (.builtin "object.__setattr__"))) (xn7 : PySem.W.findIn K (.ref ca7) "row" = some none) (xi7 : PySem.W.findIn K (.ref ca7) "__init__" = some (some (.ref fI7))) (xt7 : PySem.W.typeIn K (.ref fI7) = some (.type "function"))
    (xl7 : K.lookup fI7 = some ⟨ioc7, iod7, .func (PySem.W.fnOf "__init__" "NoTree.__init__" (defArgs (initS 8)) (defBody (initS 8)) (defScope (initS 8)) .none ikV7 idc7 ipm7 ian7 icd7 ict7), isl7⟩) (xc7 : PySem.W.codeIn K icd7 "NoTree.__init__" = true) (xk7 : PySem.W.keepIn K (.ref fI7) = true)
    (ck7 : PySem.W.keepIn K (.ref ca7) = true) (cs7 : PySem.W.subIn K (.ref ca7) (.type "BaseException") = some true) (ct7 : PySem.W.typeIn K (.ref ca7) = some (.type "type"))
    (hg7 : PySem.W.findIn K (.ref ca7) "__getattribute__" = some (some (.builtin "BaseException.__getattribute__"))) (hk7 : PySem.W.findIn K (.ref ca7) "__getattr__" = some none) (hs7 : PySem.W.subIn K (.ref ca7) (.type "BaseException") = some true) (hd7 : PySem.W.hasDictIn K ca7 = true) (ha7 : PySem.W.findIn K (.ref ca7) "__class__" = some (some (.builtin "object.__class__"))) (hn7 : PySem.W.specialIn K (.builtin "object.__class__") "__get__" = some (some (.builtin "getset_descriptor.__get__"))) (ht7 : PySem.W.takesIn K (.builtin "object.__class__") = some true) (hm7 : PySem.W.mroIn K ca7 (.type "object") = some true)
    (so7_0 : PySem.W.subIn K (.ref ca7) (.type "ValueError") = some true)
    (so7_1 : PySem.W.subIn K (.ref ca7) (.ref ca0) = some true)
    (so7_2 : PySem.W.subIn K (.ref ca7) (.ref ca1) = some false)
    (so7_3 : PySem.W.subIn K (.ref ca7) (.ref ca2) = some false)
    (so7_4 : PySem.W.subIn K (.ref ca7) (.ref ca3) = some false)
    (so7_5 : PySem.W.subIn K (.ref ca7) (.ref ca4) = some false)
    (so7_6 : PySem.W.subIn K (.ref ca7) (.ref ca5) = some false)
    (so7_7 : PySem.W.subIn K (.ref ca7) (.ref ca6) = some false)
    (so7_8 : PySem.W.subIn K (.ref ca7) (.ref ca7) = some true)
    (so7_9 : PySem.W.subIn K (.ref ca7) (.ref ca8) = some false)
    (so7_10 : PySem.W.subIn K (.ref ca7) (.ref ca9) = some false)
    (so7_11 : PySem.W.subIn K (.ref ca7) (.ref ca10) = some false)
    (so7_12 : PySem.W.subIn K (.ref ca7) (.ref ca11) = some false)
    (xL8 : K.lookup ca8 = some (excClassObj im8 iq8 ca8 iN8 ib8 [.ref ca0, .type "ValueError", .type "Exception", .type "BaseException", .type "object"] true is8 iu8 ia8 il8 it8 j0_8 j1_8 j2_8 j3_8 j5_8 "ValueError.__new__"))
    (xs8 : PySem.W.findIn K (.ref ca8) "__setattr__" = some (some (.builtin "object.__setattr__"))) (xn8 : PySem.W.findIn K (.ref ca8) "word" = some none) (xi8 : PySem.W.findIn K (.ref ca8) "__init__" = some (some (.ref fI8))) (xt8 : PySem.W.typeIn K (.ref fI8) = some (.type "function"))
    (xl8 : K.lookup fI8 = some ⟨ioc8, iod8, .func (PySem.W.fnOf "__init__" "NoParts.__init__" (defArgs (initS 9)) (defBody (initS 9)) (defScope (initS 9)) .none ikV8 idc8 ipm8 ian8 icd8 ict8), isl8⟩) (xc8 : PySem.W.codeIn K icd8 "NoParts.__init__" = true) (xk8 : PySem.W.keepIn K (.ref fI8) = true)
    (ck8 : PySem.W.keepIn K (.ref ca8) = true) (cs8 : PySem.W.subIn K (.ref ca8) (.type "BaseException") = some true) (ct8 : PySem.W.typeIn K (.ref ca8) = some (.type "type"))
    (hg8 : PySem.W.findIn K (.ref ca8) "__getattribute__" = some (some (.builtin "BaseException.__getattribute__"))) (hk8 : PySem.W.findIn K (.ref ca8) "__getattr__" = some none) (hs8 : PySem.W.subIn K (.ref ca8) (.type "BaseException") = some true) (hd8 : PySem.W.hasDictIn K ca8 = true) (ha8 : PySem.W.findIn K (.ref ca8) "__class__" = some (some (.builtin "object.__class__"))) (hn8 : PySem.W.specialIn K (.builtin "object.__class__") "__get__" = some (some (.builtin "getset_descriptor.__get__"))) (ht8 : PySem.W.takesIn K (.builtin "object.__class__") = some true) (hm8 : PySem.W.mroIn K ca8 (.type "object") = some true)
    (so8_0 : PySem.W.subIn K (.ref ca8) (.type "ValueError") = some true)
    (so8_1 : PySem.W.subIn K (.ref ca8) (.ref ca0) = some true)
    (so8_2 : PySem.W.subIn K (.ref ca8) (.ref ca1) = some false)
    (so8_3 : PySem.W.subIn K (.ref ca8) (.ref ca2) = some false)
    (so8_4 : PySem.W.subIn K (.ref ca8) (.ref ca3) = some false)
    (so8_5 : PySem.W.subIn K (.ref ca8) (.ref ca4) = some false)
    (so8_6 : PySem.W.subIn K (.ref ca8) (.ref ca5) = some false)
    (so8_7 : PySem.W.subIn K (.ref ca8) (.ref ca6) = some false)
    (so8_8 : PySem.W.subIn K (.ref ca8) (.ref ca7) = some false)
    (so8_9 : PySem.W.subIn K (.ref ca8) (.ref ca8) = some true)
    (so8_10 : PySem.W.subIn K (.ref ca8) (.ref ca9) = some false)
    (so8_11 : PySem.W.subIn K (.ref ca8) (.ref ca10) = some false)
    (so8_12 : PySem.W.subIn K (.ref ca8) (.ref ca11) = some false)
    (ce9 : PySem.W.excIn K ca9 [.type "ValueError", .type "Exception", .type "BaseException", .type "object"] "ValueError.__new__" = true)
    (ck9 : PySem.W.keepIn K (.ref ca9) = true) (cs9 : PySem.W.subIn K (.ref ca9) (.type "BaseException") = some true) (ct9 : PySem.W.typeIn K (.ref ca9) = some (.type "type"))
    (hg9 : PySem.W.findIn K (.ref ca9) "__getattribute__" = some (some (.builtin "BaseException.__getattribute__"))) (hk9 : PySem.W.findIn K (.ref ca9) "__getattr__" = some none) (hs9 : PySem.W.subIn K (.ref ca9) (.type "BaseException") = some true) (hd9 : PySem.W.hasDictIn K ca9 = true) (ha9 : PySem.W.findIn K (.ref ca9) "__class__" = some (some (.builtin "object.__class__"))) (hn9 : PySem.W.specialIn K (.builtin "object.__class__") "__get__" = some (some (.builtin "getset_descriptor.__get__"))) (ht9 : PySem.W.takesIn K (.builtin "object.__class__") = some true) (hm9 : PySem.W.mroIn K ca9 (.type "object") = some true)
    (so9_0 : PySem.W.subIn K (.ref ca9) (.type "ValueError") = some true)
    (so9_1 : PySem.W.subIn K (.ref ca9) (.ref ca0) = some true)
    (so9_2 : PySem.W.subIn K (.ref ca9) (.ref ca1) = some false)
    (so9_3 : PySem.W.subIn K (.ref ca9) (.ref ca2) = some false)
    (so9_4 : PySem.W.subIn K (.ref ca9) (.ref ca3) = some false)
    (so9_5 : PySem.W.subIn K (.ref ca9) (.ref ca4) = some false)
    (so9_6 : PySem.W.subIn K (.ref ca9) (.ref ca5) = some false)
    (so9_7 : PySem.W.subIn K (.ref ca9) (.ref ca6) = some false)
    (so9_8 : PySem.W.subIn K (.ref ca9) (.ref ca7) = some false)
    (so9_9 : PySem.W.subIn K (.ref ca9) (.ref ca8) = some false)
    (so9_10 : PySem.W.subIn K (.ref ca9) (.ref ca9) = some true)
    (so9_11 : PySem.W.subIn K (.ref ca9) (.ref ca10) = some false)
    (so9_12 : PySem.W.subIn K (.ref ca9) (.ref ca11) = some false)
    (ce10 : PySem.W.excIn K ca10 [.type "ValueError", .type "Exception", .type "BaseException", .type "object"] "ValueError.__new__" = true)
    (ck10 : PySem.W.keepIn K (.ref ca10) = true) (cs10 : PySem.W.subIn K (.ref ca10) (.type "BaseException") = some true) (ct10 : PySem.W.typeIn K (.ref ca10) = some (.type "type"))
    (hg10 : PySem.W.findIn K (.ref ca10) "__getattribute__" = some (some (.builtin "BaseException.__getattribute__"))) (hk10 : PySem.W.findIn K (.ref ca10) "__getattr__" = some none) (hs10 : PySem.W.subIn K (.ref ca10) (.type "BaseException") = some true) (hd10 : PySem.W.hasDictIn K ca10 = true) (ha10 : PySem.W.findIn K (.ref ca10) "__class__" = some (some (.builtin "object.__class__"))) (hn10 : PySem.W.specialIn K (.builtin "object.__class__") "__get__" = some (some (.builtin "getset_descriptor.__get__"))) (ht10 : PySem.W.takesIn K (.builtin "object.__class__") = some true) (hm10 : PySem.W.mroIn K ca10 (.type "object") = some true)
    (so10_0 : PySem.W.subIn K (.ref ca10) (.type "ValueError") = some true)
    (so10_1 : PySem.W.subIn K (.ref ca10) (.ref ca0) = some true)
    (so10_2 : PySem.W.subIn K (.ref ca10) (.ref ca1) = some false)
    (so10_3 : PySem.W.subIn K (.ref ca10) (.ref ca2) = some false)
    (so10_4 : PySem.W.subIn K (.ref ca10) (.ref ca3) = some false)
    (so10_5 : PySem.W.subIn K (.ref ca10) (.ref ca4) = some false)
    (so10_6 : PySem.W.subIn K (.ref ca10) (.ref ca5) = some false)
    (so10_7 : PySem.W.subIn K (.ref ca10) (.ref ca6) = some false)
    (so10_8 : PySem.W.subIn K (.ref ca10) (.ref ca7) = some false)
    (so10_9 : PySem.W.subIn K (.ref ca10) (.ref ca8) = some false)
    (so10_10 : PySem.W.subIn K (.ref ca10) (.ref ca9) = some false)
    (so10_11 : PySem.W.subIn K (.ref ca10) (.ref ca10) = some true)
    (so10_12 : PySem.W.subIn K (.ref ca10) (.ref ca11) = some false)
    (ce11 : PySem.W.excIn K ca11 [.type "ValueError", .type "Exception", .type "BaseException", .type "object"] "ValueError.__new__" = true)
    (ck11 : PySem.W.keepIn K (.ref ca11) = true) (cs11 : PySem.W.subIn K (.ref ca11) (.type "BaseException") = some true) (ct11 : PySem.W.typeIn K (.ref ca11) = some (.type "type"))
    (hg11 : PySem.W.findIn K (.ref ca11) "__getattribute__" = some (some (.builtin "BaseException.__getattribute__"))) (hk11 : PySem.W.findIn K (.ref ca11) "__getattr__" = some none) (hs11 : PySem.W.subIn K (.ref ca11) (.type "BaseException") = some true) (hd11 : PySem.W.hasDictIn K ca11 = true) (ha11 : PySem.W.findIn K (.ref ca11) "__class__" = some (some (.builtin "object.__class__"))) (hn11 : PySem.W.specialIn K (.builtin "object.__class__") "__get__" = some (some (.builtin "getset_descriptor.__get__"))) (ht11 : PySem.W.takesIn K (.builtin "object.__class__") = some true) (hm11 : PySem.W.mroIn K ca11 (.type "object") = some true)
    (so11_0 : PySem.W.subIn K (.ref ca11) (.type "ValueError") = some true)
    (so11_1 : PySem.W.subIn K (.ref ca11) (.ref ca0) = some true)
    (so11_2 : PySem.W.subIn K (.ref ca11) (.ref ca1) = some false)
    (so11_3 : PySem.W.subIn K (.ref ca11) (.ref ca2) = some false)
    (so11_4 : PySem.W.subIn K (.ref ca11) (.ref ca3) = some false)
    (so11_5 : PySem.W.subIn K (.ref ca11) (.ref ca4) = some false)
    (so11_6 : PySem.W.subIn K (.ref ca11) (.ref ca5) = some false)
    (so11_7 : PySem.W.subIn K (.ref ca11) (.ref ca6) = some false)
    (so11_8 : PySem.W.subIn K (.ref ca11) (.ref ca7) = some false)
    (so11_9 : PySem.W.subIn K (.ref ca11) (.ref ca8) = some false)
    (so11_10 : PySem.W.subIn K (.ref ca11) (.ref ca9) = some false)
    (so11_11 : PySem.W.subIn K (.ref ca11) (.ref ca10) = some false)
    (so11_12 : PySem.W.subIn K (.ref ca11) (.ref ca11) = some true)
    : Prg l.prog w K mg fns gls := by
  have F0 := fun_mk (st := topS 14) l0 c0 k0
  have b0 := F0.binds (ps := ["_law_script"]) fun _ _ _ _ _ _ us hl => match us, hl with | [_], _ => rfl
  have F1 := fun_mk (st := topS 15) l1 c1 k1
  have b1 := F1.binds (ps := ["_law_tape_here", "_law_many"]) fun _ _ _ _ _ _ us hl => match us, hl with | [_, _], _ => rfl
  have F2 := fun_mk (st := topS 16) l2 c2 k2
  have b2 := F2.binds (ps := ["_law_at", "_law_word", "_law_number", "_law_row"]) fun _ _ _ _ _ _ us hl => match us, hl with | [_, _, _, _], _ => rfl
  have F3 := fun_mk (st := topS 17) l3 c3 k3
  have b3 := F3.binds (ps := ["_law_e"]) fun _ _ _ _ _ _ us hl => match us, hl with | [_], _ => rfl
  have F4 := fun_mk (st := topS 18) l4 c4 k4
  have b4 := F4.binds (ps := ["_law_at", "_law_e"]) fun _ _ _ _ _ _ us hl => match us, hl with | [_, _], _ => rfl
  have F5 := fun_mk (st := topS 19) l5 c5 k5
  have b5 := F5.binds (ps := ["_law_script"]) fun _ _ _ _ _ _ us hl => match us, hl with | [_], _ => rfl
  have FI1 := fun_mk (st := initS 2) xl1 xc1 xk1
  have bI1 := FI1.binds (ps := ["self", "word"]) fun _ _ _ _ _ _ us hl => match us, hl with | [_, _], _ => rfl
  have IO1 : InitOk K mg ca1 "word" := ⟨⟨⟨_, _, _, _, _, _, _, _, _, _, _, _, _, _, _, xL1, by rfl⟩, xs1, cs1, ct1, ck1⟩, xn1, fI1, ca0, _, _, _, "ZeroError", "word", xi1, xt1, FI1, bI1, oki_NoSum, PySem.W.mg_of X G cx0, ⟨bg0, bt0, br0, bf0⟩⟩
  have FI2 := fun_mk (st := initS 3) xl2 xc2 xk2
  have bI2 := FI2.binds (ps := ["self", "word", "at"]) fun _ _ _ _ _ _ us hl => match us, hl with | [_, _, _], _ => rfl
  have IO2 : InitOk2 K mg ca2 "word" "at" := ⟨⟨⟨_, _, _, _, _, _, _, _, _, _, _, _, _, _, _, xL2, by rfl⟩, xs2, cs2, ct2, ck2⟩, xn2, xm2, fI2, ca0, _, _, _, "ZeroError", "word", "at", xi2, xt2, FI2, bI2, oki_NoBasis, PySem.W.mg_of X G cx0, ⟨bg0, bt0, br0, bf0⟩⟩
  have FI3 := fun_mk (st := initS 4) xl3 xc3 xk3
  have bI3 := FI3.binds (ps := ["self", "word"]) fun _ _ _ _ _ _ us hl => match us, hl with | [_, _], _ => rfl
  have IO3 : InitOk K mg ca3 "word" := ⟨⟨⟨_, _, _, _, _, _, _, _, _, _, _, _, _, _, _, xL3, by rfl⟩, xs3, cs3, ct3, ck3⟩, xn3, fI3, ca0, _, _, _, "ZeroError", "word", xi3, xt3, FI3, bI3, oki_NoTold, PySem.W.mg_of X G cx0, ⟨bg0, bt0, br0, bf0⟩⟩
  have FI4 := fun_mk (st := initS 5) xl4 xc4 xk4
  have bI4 := FI4.binds (ps := ["self", "word"]) fun _ _ _ _ _ _ us hl => match us, hl with | [_, _], _ => rfl
  have IO4 : InitOk K mg ca4 "word" := ⟨⟨⟨_, _, _, _, _, _, _, _, _, _, _, _, _, _, _, xL4, by rfl⟩, xs4, cs4, ct4, ck4⟩, xn4, fI4, ca0, _, _, _, "ZeroError", "word", xi4, xt4, FI4, bI4, oki_NoPower, PySem.W.mg_of X G cx0, ⟨bg0, bt0, br0, bf0⟩⟩
  have FI5 := fun_mk (st := initS 6) xl5 xc5 xk5
  have bI5 := FI5.binds (ps := ["self", "word"]) fun _ _ _ _ _ _ us hl => match us, hl with | [_, _], _ => rfl
  have IO5 : InitOk K mg ca5 "word" := ⟨⟨⟨_, _, _, _, _, _, _, _, _, _, _, _, _, _, _, xL5, by rfl⟩, xs5, cs5, ct5, ck5⟩, xn5, fI5, ca0, _, _, _, "ZeroError", "word", xi5, xt5, FI5, bI5, oki_NoLike, PySem.W.mg_of X G cx0, ⟨bg0, bt0, br0, bf0⟩⟩
  have FI6 := fun_mk (st := initS 7) xl6 xc6 xk6
  have bI6 := FI6.binds (ps := ["self", "letter"]) fun _ _ _ _ _ _ us hl => match us, hl with | [_, _], _ => rfl
  have IO6 : InitOk K mg ca6 "letter" := ⟨⟨⟨_, _, _, _, _, _, _, _, _, _, _, _, _, _, _, xL6, by rfl⟩, xs6, cs6, ct6, ck6⟩, xn6, fI6, ca0, _, _, _, "ZeroError", "letter", xi6, xt6, FI6, bI6, oki_NoFinite, PySem.W.mg_of X G cx0, ⟨bg0, bt0, br0, bf0⟩⟩
  have FI7 := fun_mk (st := initS 8) xl7 xc7 xk7
  have bI7 := FI7.binds (ps := ["self", "row"]) fun _ _ _ _ _ _ us hl => match us, hl with | [_, _], _ => rfl
  have IO7 : InitOk K mg ca7 "row" := ⟨⟨⟨_, _, _, _, _, _, _, _, _, _, _, _, _, _, _, xL7, by rfl⟩, xs7, cs7, ct7, ck7⟩, xn7, fI7, ca0, _, _, _, "ZeroError", "row", xi7, xt7, FI7, bI7, oki_NoTree, PySem.W.mg_of X G cx0, ⟨bg0, bt0, br0, bf0⟩⟩
  have FI8 := fun_mk (st := initS 9) xl8 xc8 xk8
  have bI8 := FI8.binds (ps := ["self", "word"]) fun _ _ _ _ _ _ us hl => match us, hl with | [_, _], _ => rfl
  have IO8 : InitOk K mg ca8 "word" := ⟨⟨⟨_, _, _, _, _, _, _, _, _, _, _, _, _, _, _, xL8, by rfl⟩, xs8, cs8, ct8, ck8⟩, xn8, fI8, ca0, _, _, _, "ZeroError", "word", xi8, xt8, FI8, bI8, oki_NoParts, PySem.W.mg_of X G cx0, ⟨bg0, bt0, br0, bf0⟩⟩
  refine ⟨fun f fn hf => ?_, fun x hx => ?_, fun x d hd hc => ?_, fun x d k sups hd hc => ?_⟩
  · match f, hf with
    | 0, hf => cases hf; exact ⟨topS 14, f0, _, F0, PySem.W.mg_of X G a0, b0, ok_law_tape⟩
    | 1, hf => cases hf; exact ⟨topS 15, f1, _, F1, PySem.W.mg_of X G a1, b1, ok_law_draw⟩
    | 2, hf => cases hf; exact ⟨topS 16, f2, _, F2, PySem.W.mg_of X G a2, b2, ok_law_made⟩
    | 3, hf => cases hf; exact ⟨topS 17, f3, _, F3, PySem.W.mg_of X G a3, b3, ok_law_is⟩
    | 4, hf => cases hf; exact ⟨topS 18, f4, _, F4, PySem.W.mg_of X G a4, b4, ok_law_fields⟩
    | 5, hf => cases hf; exact ⟨topS 19, f5, _, F5, PySem.W.mg_of X G a5, b5, ok_law⟩
    | n + 6, hf => exact absurd hf (by simp [fns])
  · simp only [bltNames, List.mem_cons, List.not_mem_nil, or_false] at hx
    rcases hx with rfl | rfl | rfl | rfl | rfl | rfl | rfl | rfl | rfl | rfl | rfl | rfl | rfl | rfl | rfl | rfl | rfl | rfl | rfl | rfl
    · exact PySem.W.mg_none_of X G z0
    · exact PySem.W.mg_none_of X G z1
    · exact PySem.W.mg_none_of X G z2
    · exact PySem.W.mg_none_of X G z3
    · exact PySem.W.mg_none_of X G z4
    · exact PySem.W.mg_none_of X G z5
    · exact PySem.W.mg_none_of X G z6
    · exact PySem.W.mg_none_of X G z7
    · exact PySem.W.mg_none_of X G z8
    · exact PySem.W.mg_none_of X G z9
    · exact PySem.W.mg_none_of X G z10
    · exact PySem.W.mg_none_of X G z11
    · exact PySem.W.mg_none_of X G z12
    · exact PySem.W.mg_none_of X G z13
    · exact PySem.W.mg_none_of X G z14
    · exact PySem.W.mg_none_of X G z15
    · exact PySem.W.mg_none_of X G z16
    · exact PySem.W.mg_none_of X G z17
    · exact PySem.W.mg_none_of X G z18
    · exact PySem.W.mg_none_of X G z19
  · unfold gls at hd
    simp only [List.lookup] at hd
    split at hd
    · cases hd; cases hc
    split at hd
    · cases hd; cases hc
    split at hd
    · cases hd; cases hc
    split at hd
    · cases hd; cases hc
    split at hd
    · cases hd; cases hc
    split at hd
    · cases hd; cases hc
    split at hd
    · cases hd; cases hc
    split at hd
    · cases hd; cases hc
    split at hd
    · cases hd; cases hc
    split at hd
    · cases hd; cases hc
    split at hd
    · cases hd; cases hc
    split at hd
    · cases hd; cases hc
    cases hd
  · unfold gls at hd
    simp only [List.lookup] at hd
    split at hd
    · rename_i e; rw [beq_iff_eq] at e; subst e; cases hd; cases hc
      refine ⟨ca0, PySem.W.mg_of X G cx0, ⟨(fun _ => ce0), (fun f z => by cases z), ck0, cs0, ct0, ⟨hg0, hk0, hs0, hd0, ha0, hn0, ht0, hm0⟩, cx0, (fun f g z => by cases z)⟩, fun y hy => ?_⟩
      have hy : y ∈ (["ValueError", "ZeroError", "NoSum", "NoBasis", "NoTold", "NoPower", "NoLike", "NoFinite", "NoTree", "NoParts", "NoRatio", "NoText", "NoRow"] : List Str) := hy
      simp only [List.mem_cons, List.not_mem_nil, or_false] at hy
      rcases hy with rfl | rfl | rfl | rfl | rfl | rfl | rfl | rfl | rfl | rfl | rfl | rfl | rfl
      · exact ⟨.type "ValueError", ⟨.inr ⟨PySem.W.mg_none_of X G zv, rfl, by decide⟩, .inr ⟨_, rfl⟩⟩, (kit_ty' (by decide) so0_0).trans (by decide +kernel), (exm_ty' (by rfl) (by decide) so0_0).trans (by decide +kernel)⟩
      · exact ⟨.ref ca0, ⟨.inl (PySem.W.mg_of X G cx0), .inl ⟨_, rfl⟩⟩, (kit_ref' hd0 ct0 so0_1 so0_1).trans (by decide +kernel), (PySem.W.exm_ref cs0 hd0 ct0 so0_1).trans (by decide +kernel)⟩
      · exact ⟨.ref ca1, ⟨.inl (PySem.W.mg_of X G cx1), .inl ⟨_, rfl⟩⟩, (kit_ref' hd1 ct1 so1_2 so0_2).trans (by decide +kernel), (PySem.W.exm_ref cs1 hd1 ct1 so0_2).trans (by decide +kernel)⟩
      · exact ⟨.ref ca2, ⟨.inl (PySem.W.mg_of X G cx2), .inl ⟨_, rfl⟩⟩, (kit_ref' hd2 ct2 so2_3 so0_3).trans (by decide +kernel), (PySem.W.exm_ref cs2 hd2 ct2 so0_3).trans (by decide +kernel)⟩
      · exact ⟨.ref ca3, ⟨.inl (PySem.W.mg_of X G cx3), .inl ⟨_, rfl⟩⟩, (kit_ref' hd3 ct3 so3_4 so0_4).trans (by decide +kernel), (PySem.W.exm_ref cs3 hd3 ct3 so0_4).trans (by decide +kernel)⟩
      · exact ⟨.ref ca4, ⟨.inl (PySem.W.mg_of X G cx4), .inl ⟨_, rfl⟩⟩, (kit_ref' hd4 ct4 so4_5 so0_5).trans (by decide +kernel), (PySem.W.exm_ref cs4 hd4 ct4 so0_5).trans (by decide +kernel)⟩
      · exact ⟨.ref ca5, ⟨.inl (PySem.W.mg_of X G cx5), .inl ⟨_, rfl⟩⟩, (kit_ref' hd5 ct5 so5_6 so0_6).trans (by decide +kernel), (PySem.W.exm_ref cs5 hd5 ct5 so0_6).trans (by decide +kernel)⟩
      · exact ⟨.ref ca6, ⟨.inl (PySem.W.mg_of X G cx6), .inl ⟨_, rfl⟩⟩, (kit_ref' hd6 ct6 so6_7 so0_7).trans (by decide +kernel), (PySem.W.exm_ref cs6 hd6 ct6 so0_7).trans (by decide +kernel)⟩
      · exact ⟨.ref ca7, ⟨.inl (PySem.W.mg_of X G cx7), .inl ⟨_, rfl⟩⟩, (kit_ref' hd7 ct7 so7_8 so0_8).trans (by decide +kernel), (PySem.W.exm_ref cs7 hd7 ct7 so0_8).trans (by decide +kernel)⟩
      · exact ⟨.ref ca8, ⟨.inl (PySem.W.mg_of X G cx8), .inl ⟨_, rfl⟩⟩, (kit_ref' hd8 ct8 so8_9 so0_9).trans (by decide +kernel), (PySem.W.exm_ref cs8 hd8 ct8 so0_9).trans (by decide +kernel)⟩
      · exact ⟨.ref ca9, ⟨.inl (PySem.W.mg_of X G cx9), .inl ⟨_, rfl⟩⟩, (kit_ref' hd9 ct9 so9_10 so0_10).trans (by decide +kernel), (PySem.W.exm_ref cs9 hd9 ct9 so0_10).trans (by decide +kernel)⟩
      · exact ⟨.ref ca10, ⟨.inl (PySem.W.mg_of X G cx10), .inl ⟨_, rfl⟩⟩, (kit_ref' hd10 ct10 so10_11 so0_11).trans (by decide +kernel), (PySem.W.exm_ref cs10 hd10 ct10 so0_11).trans (by decide +kernel)⟩
      · exact ⟨.ref ca11, ⟨.inl (PySem.W.mg_of X G cx11), .inl ⟨_, rfl⟩⟩, (kit_ref' hd11 ct11 so11_12 so0_12).trans (by decide +kernel), (PySem.W.exm_ref cs11 hd11 ct11 so0_12).trans (by decide +kernel)⟩
    split at hd
    · rename_i e; rw [beq_iff_eq] at e; subst e; cases hd; cases hc
      refine ⟨ca1, PySem.W.mg_of X G cx1, ⟨(fun z => by cases z), (fun f z => by cases z; exact IO1), ck1, cs1, ct1, ⟨hg1, hk1, hs1, hd1, ha1, hn1, ht1, hm1⟩, cx1, (fun f g z => by cases z)⟩, fun y hy => ?_⟩
      have hy : y ∈ (["ValueError", "ZeroError", "NoSum", "NoBasis", "NoTold", "NoPower", "NoLike", "NoFinite", "NoTree", "NoParts", "NoRatio", "NoText", "NoRow"] : List Str) := hy
      simp only [List.mem_cons, List.not_mem_nil, or_false] at hy
      rcases hy with rfl | rfl | rfl | rfl | rfl | rfl | rfl | rfl | rfl | rfl | rfl | rfl | rfl
      · exact ⟨.type "ValueError", ⟨.inr ⟨PySem.W.mg_none_of X G zv, rfl, by decide⟩, .inr ⟨_, rfl⟩⟩, (kit_ty' (by decide) so1_0).trans (by decide +kernel), (exm_ty' (by rfl) (by decide) so1_0).trans (by decide +kernel)⟩
      · exact ⟨.ref ca0, ⟨.inl (PySem.W.mg_of X G cx0), .inl ⟨_, rfl⟩⟩, (kit_ref' hd0 ct0 so0_1 so1_1).trans (by decide +kernel), (PySem.W.exm_ref cs0 hd0 ct0 so1_1).trans (by decide +kernel)⟩
      · exact ⟨.ref ca1, ⟨.inl (PySem.W.mg_of X G cx1), .inl ⟨_, rfl⟩⟩, (kit_ref' hd1 ct1 so1_2 so1_2).trans (by decide +kernel), (PySem.W.exm_ref cs1 hd1 ct1 so1_2).trans (by decide +kernel)⟩
      · exact ⟨.ref ca2, ⟨.inl (PySem.W.mg_of X G cx2), .inl ⟨_, rfl⟩⟩, (kit_ref' hd2 ct2 so2_3 so1_3).trans (by decide +kernel), (PySem.W.exm_ref cs2 hd2 ct2 so1_3).trans (by decide +kernel)⟩
      · exact ⟨.ref ca3, ⟨.inl (PySem.W.mg_of X G cx3), .inl ⟨_, rfl⟩⟩, (kit_ref' hd3 ct3 so3_4 so1_4).trans (by decide +kernel), (PySem.W.exm_ref cs3 hd3 ct3 so1_4).trans (by decide +kernel)⟩
      · exact ⟨.ref ca4, ⟨.inl (PySem.W.mg_of X G cx4), .inl ⟨_, rfl⟩⟩, (kit_ref' hd4 ct4 so4_5 so1_5).trans (by decide +kernel), (PySem.W.exm_ref cs4 hd4 ct4 so1_5).trans (by decide +kernel)⟩
      · exact ⟨.ref ca5, ⟨.inl (PySem.W.mg_of X G cx5), .inl ⟨_, rfl⟩⟩, (kit_ref' hd5 ct5 so5_6 so1_6).trans (by decide +kernel), (PySem.W.exm_ref cs5 hd5 ct5 so1_6).trans (by decide +kernel)⟩
      · exact ⟨.ref ca6, ⟨.inl (PySem.W.mg_of X G cx6), .inl ⟨_, rfl⟩⟩, (kit_ref' hd6 ct6 so6_7 so1_7).trans (by decide +kernel), (PySem.W.exm_ref cs6 hd6 ct6 so1_7).trans (by decide +kernel)⟩
      · exact ⟨.ref ca7, ⟨.inl (PySem.W.mg_of X G cx7), .inl ⟨_, rfl⟩⟩, (kit_ref' hd7 ct7 so7_8 so1_8).trans (by decide +kernel), (PySem.W.exm_ref cs7 hd7 ct7 so1_8).trans (by decide +kernel)⟩
      · exact ⟨.ref ca8, ⟨.inl (PySem.W.mg_of X G cx8), .inl ⟨_, rfl⟩⟩, (kit_ref' hd8 ct8 so8_9 so1_9).trans (by decide +kernel), (PySem.W.exm_ref cs8 hd8 ct8 so1_9).trans (by decide +kernel)⟩
      · exact ⟨.ref ca9, ⟨.inl (PySem.W.mg_of X G cx9), .inl ⟨_, rfl⟩⟩, (kit_ref' hd9 ct9 so9_10 so1_10).trans (by decide +kernel), (PySem.W.exm_ref cs9 hd9 ct9 so1_10).trans (by decide +kernel)⟩
      · exact ⟨.ref ca10, ⟨.inl (PySem.W.mg_of X G cx10), .inl ⟨_, rfl⟩⟩, (kit_ref' hd10 ct10 so10_11 so1_11).trans (by decide +kernel), (PySem.W.exm_ref cs10 hd10 ct10 so1_11).trans (by decide +kernel)⟩
      · exact ⟨.ref ca11, ⟨.inl (PySem.W.mg_of X G cx11), .inl ⟨_, rfl⟩⟩, (kit_ref' hd11 ct11 so11_12 so1_12).trans (by decide +kernel), (PySem.W.exm_ref cs11 hd11 ct11 so1_12).trans (by decide +kernel)⟩
    split at hd
    · rename_i e; rw [beq_iff_eq] at e; subst e; cases hd; cases hc
      refine ⟨ca2, PySem.W.mg_of X G cx2, ⟨(fun z => by cases z), (fun f z => by cases z), ck2, cs2, ct2, ⟨hg2, hk2, hs2, hd2, ha2, hn2, ht2, hm2⟩, cx2, (fun f g z => by cases z; exact IO2)⟩, fun y hy => ?_⟩
      have hy : y ∈ (["ValueError", "ZeroError", "NoSum", "NoBasis", "NoTold", "NoPower", "NoLike", "NoFinite", "NoTree", "NoParts", "NoRatio", "NoText", "NoRow"] : List Str) := hy
      simp only [List.mem_cons, List.not_mem_nil, or_false] at hy
      rcases hy with rfl | rfl | rfl | rfl | rfl | rfl | rfl | rfl | rfl | rfl | rfl | rfl | rfl
      · exact ⟨.type "ValueError", ⟨.inr ⟨PySem.W.mg_none_of X G zv, rfl, by decide⟩, .inr ⟨_, rfl⟩⟩, (kit_ty' (by decide) so2_0).trans (by decide +kernel), (exm_ty' (by rfl) (by decide) so2_0).trans (by decide +kernel)⟩
      · exact ⟨.ref ca0, ⟨.inl (PySem.W.mg_of X G cx0), .inl ⟨_, rfl⟩⟩, (kit_ref' hd0 ct0 so0_1 so2_1).trans (by decide +kernel), (PySem.W.exm_ref cs0 hd0 ct0 so2_1).trans (by decide +kernel)⟩
      · exact ⟨.ref ca1, ⟨.inl (PySem.W.mg_of X G cx1), .inl ⟨_, rfl⟩⟩, (kit_ref' hd1 ct1 so1_2 so2_2).trans (by decide +kernel), (PySem.W.exm_ref cs1 hd1 ct1 so2_2).trans (by decide +kernel)⟩
      · exact ⟨.ref ca2, ⟨.inl (PySem.W.mg_of X G cx2), .inl ⟨_, rfl⟩⟩, (kit_ref' hd2 ct2 so2_3 so2_3).trans (by decide +kernel), (PySem.W.exm_ref cs2 hd2 ct2 so2_3).trans (by decide +kernel)⟩
      · exact ⟨.ref ca3, ⟨.inl (PySem.W.mg_of X G cx3), .inl ⟨_, rfl⟩⟩, (kit_ref' hd3 ct3 so3_4 so2_4).trans (by decide +kernel), (PySem.W.exm_ref cs3 hd3 ct3 so2_4).trans (by decide +kernel)⟩
      · exact ⟨.ref ca4, ⟨.inl (PySem.W.mg_of X G cx4), .inl ⟨_, rfl⟩⟩, (kit_ref' hd4 ct4 so4_5 so2_5).trans (by decide +kernel), (PySem.W.exm_ref cs4 hd4 ct4 so2_5).trans (by decide +kernel)⟩
      · exact ⟨.ref ca5, ⟨.inl (PySem.W.mg_of X G cx5), .inl ⟨_, rfl⟩⟩, (kit_ref' hd5 ct5 so5_6 so2_6).trans (by decide +kernel), (PySem.W.exm_ref cs5 hd5 ct5 so2_6).trans (by decide +kernel)⟩
      · exact ⟨.ref ca6, ⟨.inl (PySem.W.mg_of X G cx6), .inl ⟨_, rfl⟩⟩, (kit_ref' hd6 ct6 so6_7 so2_7).trans (by decide +kernel), (PySem.W.exm_ref cs6 hd6 ct6 so2_7).trans (by decide +kernel)⟩
      · exact ⟨.ref ca7, ⟨.inl (PySem.W.mg_of X G cx7), .inl ⟨_, rfl⟩⟩, (kit_ref' hd7 ct7 so7_8 so2_8).trans (by decide +kernel), (PySem.W.exm_ref cs7 hd7 ct7 so2_8).trans (by decide +kernel)⟩
      · exact ⟨.ref ca8, ⟨.inl (PySem.W.mg_of X G cx8), .inl ⟨_, rfl⟩⟩, (kit_ref' hd8 ct8 so8_9 so2_9).trans (by decide +kernel), (PySem.W.exm_ref cs8 hd8 ct8 so2_9).trans (by decide +kernel)⟩
      · exact ⟨.ref ca9, ⟨.inl (PySem.W.mg_of X G cx9), .inl ⟨_, rfl⟩⟩, (kit_ref' hd9 ct9 so9_10 so2_10).trans (by decide +kernel), (PySem.W.exm_ref cs9 hd9 ct9 so2_10).trans (by decide +kernel)⟩
      · exact ⟨.ref ca10, ⟨.inl (PySem.W.mg_of X G cx10), .inl ⟨_, rfl⟩⟩, (kit_ref' hd10 ct10 so10_11 so2_11).trans (by decide +kernel), (PySem.W.exm_ref cs10 hd10 ct10 so2_11).trans (by decide +kernel)⟩
      · exact ⟨.ref ca11, ⟨.inl (PySem.W.mg_of X G cx11), .inl ⟨_, rfl⟩⟩, (kit_ref' hd11 ct11 so11_12 so2_12).trans (by decide +kernel), (PySem.W.exm_ref cs11 hd11 ct11 so2_12).trans (by decide +kernel)⟩
    split at hd
    · rename_i e; rw [beq_iff_eq] at e; subst e; cases hd; cases hc
      refine ⟨ca3, PySem.W.mg_of X G cx3, ⟨(fun z => by cases z), (fun f z => by cases z; exact IO3), ck3, cs3, ct3, ⟨hg3, hk3, hs3, hd3, ha3, hn3, ht3, hm3⟩, cx3, (fun f g z => by cases z)⟩, fun y hy => ?_⟩
      have hy : y ∈ (["ValueError", "ZeroError", "NoSum", "NoBasis", "NoTold", "NoPower", "NoLike", "NoFinite", "NoTree", "NoParts", "NoRatio", "NoText", "NoRow"] : List Str) := hy
      simp only [List.mem_cons, List.not_mem_nil, or_false] at hy
      rcases hy with rfl | rfl | rfl | rfl | rfl | rfl | rfl | rfl | rfl | rfl | rfl | rfl | rfl
      · exact ⟨.type "ValueError", ⟨.inr ⟨PySem.W.mg_none_of X G zv, rfl, by decide⟩, .inr ⟨_, rfl⟩⟩, (kit_ty' (by decide) so3_0).trans (by decide +kernel), (exm_ty' (by rfl) (by decide) so3_0).trans (by decide +kernel)⟩
      · exact ⟨.ref ca0, ⟨.inl (PySem.W.mg_of X G cx0), .inl ⟨_, rfl⟩⟩, (kit_ref' hd0 ct0 so0_1 so3_1).trans (by decide +kernel), (PySem.W.exm_ref cs0 hd0 ct0 so3_1).trans (by decide +kernel)⟩
      · exact ⟨.ref ca1, ⟨.inl (PySem.W.mg_of X G cx1), .inl ⟨_, rfl⟩⟩, (kit_ref' hd1 ct1 so1_2 so3_2).trans (by decide +kernel), (PySem.W.exm_ref cs1 hd1 ct1 so3_2).trans (by decide +kernel)⟩
      · exact ⟨.ref ca2, ⟨.inl (PySem.W.mg_of X G cx2), .inl ⟨_, rfl⟩⟩, (kit_ref' hd2 ct2 so2_3 so3_3).trans (by decide +kernel), (PySem.W.exm_ref cs2 hd2 ct2 so3_3).trans (by decide +kernel)⟩
      · exact ⟨.ref ca3, ⟨.inl (PySem.W.mg_of X G cx3), .inl ⟨_, rfl⟩⟩, (kit_ref' hd3 ct3 so3_4 so3_4).trans (by decide +kernel), (PySem.W.exm_ref cs3 hd3 ct3 so3_4).trans (by decide +kernel)⟩
      · exact ⟨.ref ca4, ⟨.inl (PySem.W.mg_of X G cx4), .inl ⟨_, rfl⟩⟩, (kit_ref' hd4 ct4 so4_5 so3_5).trans (by decide +kernel), (PySem.W.exm_ref cs4 hd4 ct4 so3_5).trans (by decide +kernel)⟩
      · exact ⟨.ref ca5, ⟨.inl (PySem.W.mg_of X G cx5), .inl ⟨_, rfl⟩⟩, (kit_ref' hd5 ct5 so5_6 so3_6).trans (by decide +kernel), (PySem.W.exm_ref cs5 hd5 ct5 so3_6).trans (by decide +kernel)⟩
      · exact ⟨.ref ca6, ⟨.inl (PySem.W.mg_of X G cx6), .inl ⟨_, rfl⟩⟩, (kit_ref' hd6 ct6 so6_7 so3_7).trans (by decide +kernel), (PySem.W.exm_ref cs6 hd6 ct6 so3_7).trans (by decide +kernel)⟩
      · exact ⟨.ref ca7, ⟨.inl (PySem.W.mg_of X G cx7), .inl ⟨_, rfl⟩⟩, (kit_ref' hd7 ct7 so7_8 so3_8).trans (by decide +kernel), (PySem.W.exm_ref cs7 hd7 ct7 so3_8).trans (by decide +kernel)⟩
      · exact ⟨.ref ca8, ⟨.inl (PySem.W.mg_of X G cx8), .inl ⟨_, rfl⟩⟩, (kit_ref' hd8 ct8 so8_9 so3_9).trans (by decide +kernel), (PySem.W.exm_ref cs8 hd8 ct8 so3_9).trans (by decide +kernel)⟩
      · exact ⟨.ref ca9, ⟨.inl (PySem.W.mg_of X G cx9), .inl ⟨_, rfl⟩⟩, (kit_ref' hd9 ct9 so9_10 so3_10).trans (by decide +kernel), (PySem.W.exm_ref cs9 hd9 ct9 so3_10).trans (by decide +kernel)⟩
      · exact ⟨.ref ca10, ⟨.inl (PySem.W.mg_of X G cx10), .inl ⟨_, rfl⟩⟩, (kit_ref' hd10 ct10 so10_11 so3_11).trans (by decide +kernel), (PySem.W.exm_ref cs10 hd10 ct10 so3_11).trans (by decide +kernel)⟩
      · exact ⟨.ref ca11, ⟨.inl (PySem.W.mg_of X G cx11), .inl ⟨_, rfl⟩⟩, (kit_ref' hd11 ct11 so11_12 so3_12).trans (by decide +kernel), (PySem.W.exm_ref cs11 hd11 ct11 so3_12).trans (by decide +kernel)⟩
    split at hd
    · rename_i e; rw [beq_iff_eq] at e; subst e; cases hd; cases hc
      refine ⟨ca4, PySem.W.mg_of X G cx4, ⟨(fun z => by cases z), (fun f z => by cases z; exact IO4), ck4, cs4, ct4, ⟨hg4, hk4, hs4, hd4, ha4, hn4, ht4, hm4⟩, cx4, (fun f g z => by cases z)⟩, fun y hy => ?_⟩
      have hy : y ∈ (["ValueError", "ZeroError", "NoSum", "NoBasis", "NoTold", "NoPower", "NoLike", "NoFinite", "NoTree", "NoParts", "NoRatio", "NoText", "NoRow"] : List Str) := hy
      simp only [List.mem_cons, List.not_mem_nil, or_false] at hy
      rcases hy with rfl | rfl | rfl | rfl | rfl | rfl | rfl | rfl | rfl | rfl | rfl | rfl | rfl
      · exact ⟨.type "ValueError", ⟨.inr ⟨PySem.W.mg_none_of X G zv, rfl, by decide⟩, .inr ⟨_, rfl⟩⟩, (kit_ty' (by decide) so4_0).trans (by decide +kernel), (exm_ty' (by rfl) (by decide) so4_0).trans (by decide +kernel)⟩
      · exact ⟨.ref ca0, ⟨.inl (PySem.W.mg_of X G cx0), .inl ⟨_, rfl⟩⟩, (kit_ref' hd0 ct0 so0_1 so4_1).trans (by decide +kernel), (PySem.W.exm_ref cs0 hd0 ct0 so4_1).trans (by decide +kernel)⟩
      · exact ⟨.ref ca1, ⟨.inl (PySem.W.mg_of X G cx1), .inl ⟨_, rfl⟩⟩, (kit_ref' hd1 ct1 so1_2 so4_2).trans (by decide +kernel), (PySem.W.exm_ref cs1 hd1 ct1 so4_2).trans (by decide +kernel)⟩
      · exact ⟨.ref ca2, ⟨.inl (PySem.W.mg_of X G cx2), .inl ⟨_, rfl⟩⟩, (kit_ref' hd2 ct2 so2_3 so4_3).trans (by decide +kernel), (PySem.W.exm_ref cs2 hd2 ct2 so4_3).trans (by decide +kernel)⟩
      · exact ⟨.ref ca3, ⟨.inl (PySem.W.mg_of X G cx3), .inl ⟨_, rfl⟩⟩, (kit_ref' hd3 ct3 so3_4 so4_4).trans (by decide +kernel), (PySem.W.exm_ref cs3 hd3 ct3 so4_4).trans (by decide +kernel)⟩
      · exact ⟨.ref ca4, ⟨.inl (PySem.W.mg_of X G cx4), .inl ⟨_, rfl⟩⟩, (kit_ref' hd4 ct4 so4_5 so4_5).trans (by decide +kernel), (PySem.W.exm_ref cs4 hd4 ct4 so4_5).trans (by decide +kernel)⟩
      · exact ⟨.ref ca5, ⟨.inl (PySem.W.mg_of X G cx5), .inl ⟨_, rfl⟩⟩, (kit_ref' hd5 ct5 so5_6 so4_6).trans (by decide +kernel), (PySem.W.exm_ref cs5 hd5 ct5 so4_6).trans (by decide +kernel)⟩
      · exact ⟨.ref ca6, ⟨.inl (PySem.W.mg_of X G cx6), .inl ⟨_, rfl⟩⟩, (kit_ref' hd6 ct6 so6_7 so4_7).trans (by decide +kernel), (PySem.W.exm_ref cs6 hd6 ct6 so4_7).trans (by decide +kernel)⟩
      · exact ⟨.ref ca7, ⟨.inl (PySem.W.mg_of X G cx7), .inl ⟨_, rfl⟩⟩, (kit_ref' hd7 ct7 so7_8 so4_8).trans (by decide +kernel), (PySem.W.exm_ref cs7 hd7 ct7 so4_8).trans (by decide +kernel)⟩
      · exact ⟨.ref ca8, ⟨.inl (PySem.W.mg_of X G cx8), .inl ⟨_, rfl⟩⟩, (kit_ref' hd8 ct8 so8_9 so4_9).trans (by decide +kernel), (PySem.W.exm_ref cs8 hd8 ct8 so4_9).trans (by decide +kernel)⟩
      · exact ⟨.ref ca9, ⟨.inl (PySem.W.mg_of X G cx9), .inl ⟨_, rfl⟩⟩, (kit_ref' hd9 ct9 so9_10 so4_10).trans (by decide +kernel), (PySem.W.exm_ref cs9 hd9 ct9 so4_10).trans (by decide +kernel)⟩
      · exact ⟨.ref ca10, ⟨.inl (PySem.W.mg_of X G cx10), .inl ⟨_, rfl⟩⟩, (kit_ref' hd10 ct10 so10_11 so4_11).trans (by decide +kernel), (PySem.W.exm_ref cs10 hd10 ct10 so4_11).trans (by decide +kernel)⟩
      · exact ⟨.ref ca11, ⟨.inl (PySem.W.mg_of X G cx11), .inl ⟨_, rfl⟩⟩, (kit_ref' hd11 ct11 so11_12 so4_12).trans (by decide +kernel), (PySem.W.exm_ref cs11 hd11 ct11 so4_12).trans (by decide +kernel)⟩
    split at hd
    · rename_i e; rw [beq_iff_eq] at e; subst e; cases hd; cases hc
      refine ⟨ca5, PySem.W.mg_of X G cx5, ⟨(fun z => by cases z), (fun f z => by cases z; exact IO5), ck5, cs5, ct5, ⟨hg5, hk5, hs5, hd5, ha5, hn5, ht5, hm5⟩, cx5, (fun f g z => by cases z)⟩, fun y hy => ?_⟩
      have hy : y ∈ (["ValueError", "ZeroError", "NoSum", "NoBasis", "NoTold", "NoPower", "NoLike", "NoFinite", "NoTree", "NoParts", "NoRatio", "NoText", "NoRow"] : List Str) := hy
      simp only [List.mem_cons, List.not_mem_nil, or_false] at hy
      rcases hy with rfl | rfl | rfl | rfl | rfl | rfl | rfl | rfl | rfl | rfl | rfl | rfl | rfl
      · exact ⟨.type "ValueError", ⟨.inr ⟨PySem.W.mg_none_of X G zv, rfl, by decide⟩, .inr ⟨_, rfl⟩⟩, (kit_ty' (by decide) so5_0).trans (by decide +kernel), (exm_ty' (by rfl) (by decide) so5_0).trans (by decide +kernel)⟩
      · exact ⟨.ref ca0, ⟨.inl (PySem.W.mg_of X G cx0), .inl ⟨_, rfl⟩⟩, (kit_ref' hd0 ct0 so0_1 so5_1).trans (by decide +kernel), (PySem.W.exm_ref cs0 hd0 ct0 so5_1).trans (by decide +kernel)⟩
      · exact ⟨.ref ca1, ⟨.inl (PySem.W.mg_of X G cx1), .inl ⟨_, rfl⟩⟩, (kit_ref' hd1 ct1 so1_2 so5_2).trans (by decide +kernel), (PySem.W.exm_ref cs1 hd1 ct1 so5_2).trans (by decide +kernel)⟩
      · exact ⟨.ref ca2, ⟨.inl (PySem.W.mg_of X G cx2), .inl ⟨_, rfl⟩⟩, (kit_ref' hd2 ct2 so2_3 so5_3).trans (by decide +kernel), (PySem.W.exm_ref cs2 hd2 ct2 so5_3).trans (by decide +kernel)⟩
      · exact ⟨.ref ca3, ⟨.inl (PySem.W.mg_of X G cx3), .inl ⟨_, rfl⟩⟩, (kit_ref' hd3 ct3 so3_4 so5_4).trans (by decide +kernel), (PySem.W.exm_ref cs3 hd3 ct3 so5_4).trans (by decide +kernel)⟩
      · exact ⟨.ref ca4, ⟨.inl (PySem.W.mg_of X G cx4), .inl ⟨_, rfl⟩⟩, (kit_ref' hd4 ct4 so4_5 so5_5).trans (by decide +kernel), (PySem.W.exm_ref cs4 hd4 ct4 so5_5).trans (by decide +kernel)⟩
      · exact ⟨.ref ca5, ⟨.inl (PySem.W.mg_of X G cx5), .inl ⟨_, rfl⟩⟩, (kit_ref' hd5 ct5 so5_6 so5_6).trans (by decide +kernel), (PySem.W.exm_ref cs5 hd5 ct5 so5_6).trans (by decide +kernel)⟩
      · exact ⟨.ref ca6, ⟨.inl (PySem.W.mg_of X G cx6), .inl ⟨_, rfl⟩⟩, (kit_ref' hd6 ct6 so6_7 so5_7).trans (by decide +kernel), (PySem.W.exm_ref cs6 hd6 ct6 so5_7).trans (by decide +kernel)⟩
      · exact ⟨.ref ca7, ⟨.inl (PySem.W.mg_of X G cx7), .inl ⟨_, rfl⟩⟩, (kit_ref' hd7 ct7 so7_8 so5_8).trans (by decide +kernel), (PySem.W.exm_ref cs7 hd7 ct7 so5_8).trans (by decide +kernel)⟩
      · exact ⟨.ref ca8, ⟨.inl (PySem.W.mg_of X G cx8), .inl ⟨_, rfl⟩⟩, (kit_ref' hd8 ct8 so8_9 so5_9).trans (by decide +kernel), (PySem.W.exm_ref cs8 hd8 ct8 so5_9).trans (by decide +kernel)⟩
      · exact ⟨.ref ca9, ⟨.inl (PySem.W.mg_of X G cx9), .inl ⟨_, rfl⟩⟩, (kit_ref' hd9 ct9 so9_10 so5_10).trans (by decide +kernel), (PySem.W.exm_ref cs9 hd9 ct9 so5_10).trans (by decide +kernel)⟩
      · exact ⟨.ref ca10, ⟨.inl (PySem.W.mg_of X G cx10), .inl ⟨_, rfl⟩⟩, (kit_ref' hd10 ct10 so10_11 so5_11).trans (by decide +kernel), (PySem.W.exm_ref cs10 hd10 ct10 so5_11).trans (by decide +kernel)⟩
      · exact ⟨.ref ca11, ⟨.inl (PySem.W.mg_of X G cx11), .inl ⟨_, rfl⟩⟩, (kit_ref' hd11 ct11 so11_12 so5_12).trans (by decide +kernel), (PySem.W.exm_ref cs11 hd11 ct11 so5_12).trans (by decide +kernel)⟩
    split at hd
    · rename_i e; rw [beq_iff_eq] at e; subst e; cases hd; cases hc
      refine ⟨ca6, PySem.W.mg_of X G cx6, ⟨(fun z => by cases z), (fun f z => by cases z; exact IO6), ck6, cs6, ct6, ⟨hg6, hk6, hs6, hd6, ha6, hn6, ht6, hm6⟩, cx6, (fun f g z => by cases z)⟩, fun y hy => ?_⟩
      have hy : y ∈ (["ValueError", "ZeroError", "NoSum", "NoBasis", "NoTold", "NoPower", "NoLike", "NoFinite", "NoTree", "NoParts", "NoRatio", "NoText", "NoRow"] : List Str) := hy
      simp only [List.mem_cons, List.not_mem_nil, or_false] at hy
      rcases hy with rfl | rfl | rfl | rfl | rfl | rfl | rfl | rfl | rfl | rfl | rfl | rfl | rfl
      · exact ⟨.type "ValueError", ⟨.inr ⟨PySem.W.mg_none_of X G zv, rfl, by decide⟩, .inr ⟨_, rfl⟩⟩, (kit_ty' (by decide) so6_0).trans (by decide +kernel), (exm_ty' (by rfl) (by decide) so6_0).trans (by decide +kernel)⟩
      · exact ⟨.ref ca0, ⟨.inl (PySem.W.mg_of X G cx0), .inl ⟨_, rfl⟩⟩, (kit_ref' hd0 ct0 so0_1 so6_1).trans (by decide +kernel), (PySem.W.exm_ref cs0 hd0 ct0 so6_1).trans (by decide +kernel)⟩
      · exact ⟨.ref ca1, ⟨.inl (PySem.W.mg_of X G cx1), .inl ⟨_, rfl⟩⟩, (kit_ref' hd1 ct1 so1_2 so6_2).trans (by decide +kernel), (PySem.W.exm_ref cs1 hd1 ct1 so6_2).trans (by decide +kernel)⟩
      · exact ⟨.ref ca2, ⟨.inl (PySem.W.mg_of X G cx2), .inl ⟨_, rfl⟩⟩, (kit_ref' hd2 ct2 so2_3 so6_3).trans (by decide +kernel), (PySem.W.exm_ref cs2 hd2 ct2 so6_3).trans (by decide +kernel)⟩
      · exact ⟨.ref ca3, ⟨.inl (PySem.W.mg_of X G cx3), .inl ⟨_, rfl⟩⟩, (kit_ref' hd3 ct3 so3_4 so6_4).trans (by decide +kernel), (PySem.W.exm_ref cs3 hd3 ct3 so6_4).trans (by decide +kernel)⟩
      · exact ⟨.ref ca4, ⟨.inl (PySem.W.mg_of X G cx4), .inl ⟨_, rfl⟩⟩, (kit_ref' hd4 ct4 so4_5 so6_5).trans (by decide +kernel), (PySem.W.exm_ref cs4 hd4 ct4 so6_5).trans (by decide +kernel)⟩
      · exact ⟨.ref ca5, ⟨.inl (PySem.W.mg_of X G cx5), .inl ⟨_, rfl⟩⟩, (kit_ref' hd5 ct5 so5_6 so6_6).trans (by decide +kernel), (PySem.W.exm_ref cs5 hd5 ct5 so6_6).trans (by decide +kernel)⟩
      · exact ⟨.ref ca6, ⟨.inl (PySem.W.mg_of X G cx6), .inl ⟨_, rfl⟩⟩, (kit_ref' hd6 ct6 so6_7 so6_7).trans (by decide +kernel), (PySem.W.exm_ref cs6 hd6 ct6 so6_7).trans (by decide +kernel)⟩
      · exact ⟨.ref ca7, ⟨.inl (PySem.W.mg_of X G cx7), .inl ⟨_, rfl⟩⟩, (kit_ref' hd7 ct7 so7_8 so6_8).trans (by decide +kernel), (PySem.W.exm_ref cs7 hd7 ct7 so6_8).trans (by decide +kernel)⟩
      · exact ⟨.ref ca8, ⟨.inl (PySem.W.mg_of X G cx8), .inl ⟨_, rfl⟩⟩, (kit_ref' hd8 ct8 so8_9 so6_9).trans (by decide +kernel), (PySem.W.exm_ref cs8 hd8 ct8 so6_9).trans (by decide +kernel)⟩
      · exact ⟨.ref ca9, ⟨.inl (PySem.W.mg_of X G cx9), .inl ⟨_, rfl⟩⟩, (kit_ref' hd9 ct9 so9_10 so6_10).trans (by decide +kernel), (PySem.W.exm_ref cs9 hd9 ct9 so6_10).trans (by decide +kernel)⟩
      · exact ⟨.ref ca10, ⟨.inl (PySem.W.mg_of X G cx10), .inl ⟨_, rfl⟩⟩, (kit_ref' hd10 ct10 so10_11 so6_11).trans (by decide +kernel), (PySem.W.exm_ref cs10 hd10 ct10 so6_11).trans (by decide +kernel)⟩
      · exact ⟨.ref ca11, ⟨.inl (PySem.W.mg_of X G cx11), .inl ⟨_, rfl⟩⟩, (kit_ref' hd11 ct11 so11_12 so6_12).trans (by decide +kernel), (PySem.W.exm_ref cs11 hd11 ct11 so6_12).trans (by decide +kernel)⟩
    split at hd
    · rename_i e; rw [beq_iff_eq] at e; subst e; cases hd; cases hc
      refine ⟨ca7, PySem.W.mg_of X G cx7, ⟨(fun z => by cases z), (fun f z => by cases z; exact IO7), ck7, cs7, ct7, ⟨hg7, hk7, hs7, hd7, ha7, hn7, ht7, hm7⟩, cx7, (fun f g z => by cases z)⟩, fun y hy => ?_⟩
      have hy : y ∈ (["ValueError", "ZeroError", "NoSum", "NoBasis", "NoTold", "NoPower", "NoLike", "NoFinite", "NoTree", "NoParts", "NoRatio", "NoText", "NoRow"] : List Str) := hy
      simp only [List.mem_cons, List.not_mem_nil, or_false] at hy
      rcases hy with rfl | rfl | rfl | rfl | rfl | rfl | rfl | rfl | rfl | rfl | rfl | rfl | rfl
      · exact ⟨.type "ValueError", ⟨.inr ⟨PySem.W.mg_none_of X G zv, rfl, by decide⟩, .inr ⟨_, rfl⟩⟩, (kit_ty' (by decide) so7_0).trans (by decide +kernel), (exm_ty' (by rfl) (by decide) so7_0).trans (by decide +kernel)⟩
      · exact ⟨.ref ca0, ⟨.inl (PySem.W.mg_of X G cx0), .inl ⟨_, rfl⟩⟩, (kit_ref' hd0 ct0 so0_1 so7_1).trans (by decide +kernel), (PySem.W.exm_ref cs0 hd0 ct0 so7_1).trans (by decide +kernel)⟩
      · exact ⟨.ref ca1, ⟨.inl (PySem.W.mg_of X G cx1), .inl ⟨_, rfl⟩⟩, (kit_ref' hd1 ct1 so1_2 so7_2).trans (by decide +kernel), (PySem.W.exm_ref cs1 hd1 ct1 so7_2).trans (by decide +kernel)⟩
      · exact ⟨.ref ca2, ⟨.inl (PySem.W.mg_of X G cx2), .inl ⟨_, rfl⟩⟩, (kit_ref' hd2 ct2 so2_3 so7_3).trans (by decide +kernel), (PySem.W.exm_ref cs2 hd2 ct2 so7_3).trans (by decide +kernel)⟩
      · exact ⟨.ref ca3, ⟨.inl (PySem.W.mg_of X G cx3), .inl ⟨_, rfl⟩⟩, (kit_ref' hd3 ct3 so3_4 so7_4).trans (by decide +kernel), (PySem.W.exm_ref cs3 hd3 ct3 so7_4).trans (by decide +kernel)⟩
      · exact ⟨.ref ca4, ⟨.inl (PySem.W.mg_of X G cx4), .inl ⟨_, rfl⟩⟩, (kit_ref' hd4 ct4 so4_5 so7_5).trans (by decide +kernel), (PySem.W.exm_ref cs4 hd4 ct4 so7_5).trans (by decide +kernel)⟩
      · exact ⟨.ref ca5, ⟨.inl (PySem.W.mg_of X G cx5), .inl ⟨_, rfl⟩⟩, (kit_ref' hd5 ct5 so5_6 so7_6).trans (by decide +kernel), (PySem.W.exm_ref cs5 hd5 ct5 so7_6).trans (by decide +kernel)⟩
      · exact ⟨.ref ca6, ⟨.inl (PySem.W.mg_of X G cx6), .inl ⟨_, rfl⟩⟩, (kit_ref' hd6 ct6 so6_7 so7_7).trans (by decide +kernel), (PySem.W.exm_ref cs6 hd6 ct6 so7_7).trans (by decide +kernel)⟩
      · exact ⟨.ref ca7, ⟨.inl (PySem.W.mg_of X G cx7), .inl ⟨_, rfl⟩⟩, (kit_ref' hd7 ct7 so7_8 so7_8).trans (by decide +kernel), (PySem.W.exm_ref cs7 hd7 ct7 so7_8).trans (by decide +kernel)⟩
      · exact ⟨.ref ca8, ⟨.inl (PySem.W.mg_of X G cx8), .inl ⟨_, rfl⟩⟩, (kit_ref' hd8 ct8 so8_9 so7_9).trans (by decide +kernel), (PySem.W.exm_ref cs8 hd8 ct8 so7_9).trans (by decide +kernel)⟩
      · exact ⟨.ref ca9, ⟨.inl (PySem.W.mg_of X G cx9), .inl ⟨_, rfl⟩⟩, (kit_ref' hd9 ct9 so9_10 so7_10).trans (by decide +kernel), (PySem.W.exm_ref cs9 hd9 ct9 so7_10).trans (by decide +kernel)⟩
      · exact ⟨.ref ca10, ⟨.inl (PySem.W.mg_of X G cx10), .inl ⟨_, rfl⟩⟩, (kit_ref' hd10 ct10 so10_11 so7_11).trans (by decide +kernel), (PySem.W.exm_ref cs10 hd10 ct10 so7_11).trans (by decide +kernel)⟩
      · exact ⟨.ref ca11, ⟨.inl (PySem.W.mg_of X G cx11), .inl ⟨_, rfl⟩⟩, (kit_ref' hd11 ct11 so11_12 so7_12).trans (by decide +kernel), (PySem.W.exm_ref cs11 hd11 ct11 so7_12).trans (by decide +kernel)⟩
    split at hd
    · rename_i e; rw [beq_iff_eq] at e; subst e; cases hd; cases hc
      refine ⟨ca8, PySem.W.mg_of X G cx8, ⟨(fun z => by cases z), (fun f z => by cases z; exact IO8), ck8, cs8, ct8, ⟨hg8, hk8, hs8, hd8, ha8, hn8, ht8, hm8⟩, cx8, (fun f g z => by cases z)⟩, fun y hy => ?_⟩
      have hy : y ∈ (["ValueError", "ZeroError", "NoSum", "NoBasis", "NoTold", "NoPower", "NoLike", "NoFinite", "NoTree", "NoParts", "NoRatio", "NoText", "NoRow"] : List Str) := hy
      simp only [List.mem_cons, List.not_mem_nil, or_false] at hy
      rcases hy with rfl | rfl | rfl | rfl | rfl | rfl | rfl | rfl | rfl | rfl | rfl | rfl | rfl
      · exact ⟨.type "ValueError", ⟨.inr ⟨PySem.W.mg_none_of X G zv, rfl, by decide⟩, .inr ⟨_, rfl⟩⟩, (kit_ty' (by decide) so8_0).trans (by decide +kernel), (exm_ty' (by rfl) (by decide) so8_0).trans (by decide +kernel)⟩
      · exact ⟨.ref ca0, ⟨.inl (PySem.W.mg_of X G cx0), .inl ⟨_, rfl⟩⟩, (kit_ref' hd0 ct0 so0_1 so8_1).trans (by decide +kernel), (PySem.W.exm_ref cs0 hd0 ct0 so8_1).trans (by decide +kernel)⟩
      · exact ⟨.ref ca1, ⟨.inl (PySem.W.mg_of X G cx1), .inl ⟨_, rfl⟩⟩, (kit_ref' hd1 ct1 so1_2 so8_2).trans (by decide +kernel), (PySem.W.exm_ref cs1 hd1 ct1 so8_2).trans (by decide +kernel)⟩
      · exact ⟨.ref ca2, ⟨.inl (PySem.W.mg_of X G cx2), .inl ⟨_, rfl⟩⟩, (kit_ref' hd2 ct2 so2_3 so8_3).trans (by decide +kernel), (PySem.W.exm_ref cs2 hd2 ct2 so8_3).trans (by decide +kernel)⟩
      · exact ⟨.ref ca3, ⟨.inl (PySem.W.mg_of X G cx3), .inl ⟨_, rfl⟩⟩, (kit_ref' hd3 ct3 so3_4 so8_4).trans (by decide +kernel), (PySem.W.exm_ref cs3 hd3 ct3 so8_4).trans (by decide +kernel)⟩
      · exact ⟨.ref ca4, ⟨.inl (PySem.W.mg_of X G cx4), .inl ⟨_, rfl⟩⟩, (kit_ref' hd4 ct4 so4_5 so8_5).trans (by decide +kernel), (PySem.W.exm_ref cs4 hd4 ct4 so8_5).trans (by decide +kernel)⟩
      · exact ⟨.ref ca5, ⟨.inl (PySem.W.mg_of X G cx5), .inl ⟨_, rfl⟩⟩, (kit_ref' hd5 ct5 so5_6 so8_6).trans (by decide +kernel), (PySem.W.exm_ref cs5 hd5 ct5 so8_6).trans (by decide +kernel)⟩
      · exact ⟨.ref ca6, ⟨.inl (PySem.W.mg_of X G cx6), .inl ⟨_, rfl⟩⟩, (kit_ref' hd6 ct6 so6_7 so8_7).trans (by decide +kernel), (PySem.W.exm_ref cs6 hd6 ct6 so8_7).trans (by decide +kernel)⟩
      · exact ⟨.ref ca7, ⟨.inl (PySem.W.mg_of X G cx7), .inl ⟨_, rfl⟩⟩, (kit_ref' hd7 ct7 so7_8 so8_8).trans (by decide +kernel), (PySem.W.exm_ref cs7 hd7 ct7 so8_8).trans (by decide +kernel)⟩
      · exact ⟨.ref ca8, ⟨.inl (PySem.W.mg_of X G cx8), .inl ⟨_, rfl⟩⟩, (kit_ref' hd8 ct8 so8_9 so8_9).trans (by decide +kernel), (PySem.W.exm_ref cs8 hd8 ct8 so8_9).trans (by decide +kernel)⟩
      · exact ⟨.ref ca9, ⟨.inl (PySem.W.mg_of X G cx9), .inl ⟨_, rfl⟩⟩, (kit_ref' hd9 ct9 so9_10 so8_10).trans (by decide +kernel), (PySem.W.exm_ref cs9 hd9 ct9 so8_10).trans (by decide +kernel)⟩
      · exact ⟨.ref ca10, ⟨.inl (PySem.W.mg_of X G cx10), .inl ⟨_, rfl⟩⟩, (kit_ref' hd10 ct10 so10_11 so8_11).trans (by decide +kernel), (PySem.W.exm_ref cs10 hd10 ct10 so8_11).trans (by decide +kernel)⟩
      · exact ⟨.ref ca11, ⟨.inl (PySem.W.mg_of X G cx11), .inl ⟨_, rfl⟩⟩, (kit_ref' hd11 ct11 so11_12 so8_12).trans (by decide +kernel), (PySem.W.exm_ref cs11 hd11 ct11 so8_12).trans (by decide +kernel)⟩
    split at hd
    · rename_i e; rw [beq_iff_eq] at e; subst e; cases hd; cases hc
      refine ⟨ca9, PySem.W.mg_of X G cx9, ⟨(fun _ => ce9), (fun f z => by cases z), ck9, cs9, ct9, ⟨hg9, hk9, hs9, hd9, ha9, hn9, ht9, hm9⟩, cx9, (fun f g z => by cases z)⟩, fun y hy => ?_⟩
      have hy : y ∈ (["ValueError", "ZeroError", "NoSum", "NoBasis", "NoTold", "NoPower", "NoLike", "NoFinite", "NoTree", "NoParts", "NoRatio", "NoText", "NoRow"] : List Str) := hy
      simp only [List.mem_cons, List.not_mem_nil, or_false] at hy
      rcases hy with rfl | rfl | rfl | rfl | rfl | rfl | rfl | rfl | rfl | rfl | rfl | rfl | rfl
      · exact ⟨.type "ValueError", ⟨.inr ⟨PySem.W.mg_none_of X G zv, rfl, by decide⟩, .inr ⟨_, rfl⟩⟩, (kit_ty' (by decide) so9_0).trans (by decide +kernel), (exm_ty' (by rfl) (by decide) so9_0).trans (by decide +kernel)⟩
      · exact ⟨.ref ca0, ⟨.inl (PySem.W.mg_of X G cx0), .inl ⟨_, rfl⟩⟩, (kit_ref' hd0 ct0 so0_1 so9_1).trans (by decide +kernel), (PySem.W.exm_ref cs0 hd0 ct0 so9_1).trans (by decide +kernel)⟩
      · exact ⟨.ref ca1, ⟨.inl (PySem.W.mg_of X G cx1), .inl ⟨_, rfl⟩⟩, (kit_ref' hd1 ct1 so1_2 so9_2).trans (by decide +kernel), (PySem.W.exm_ref cs1 hd1 ct1 so9_2).trans (by decide +kernel)⟩
      · exact ⟨.ref ca2, ⟨.inl (PySem.W.mg_of X G cx2), .inl ⟨_, rfl⟩⟩, (kit_ref' hd2 ct2 so2_3 so9_3).trans (by decide +kernel), (PySem.W.exm_ref cs2 hd2 ct2 so9_3).trans (by decide +kernel)⟩
      · exact ⟨.ref ca3, ⟨.inl (PySem.W.mg_of X G cx3), .inl ⟨_, rfl⟩⟩, (kit_ref' hd3 ct3 so3_4 so9_4).trans (by decide +kernel), (PySem.W.exm_ref cs3 hd3 ct3 so9_4).trans (by decide +kernel)⟩
      · exact ⟨.ref ca4, ⟨.inl (PySem.W.mg_of X G cx4), .inl ⟨_, rfl⟩⟩, (kit_ref' hd4 ct4 so4_5 so9_5).trans (by decide +kernel), (PySem.W.exm_ref cs4 hd4 ct4 so9_5).trans (by decide +kernel)⟩
      · exact ⟨.ref ca5, ⟨.inl (PySem.W.mg_of X G cx5), .inl ⟨_, rfl⟩⟩, (kit_ref' hd5 ct5 so5_6 so9_6).trans (by decide +kernel), (PySem.W.exm_ref cs5 hd5 ct5 so9_6).trans (by decide +kernel)⟩
      · exact ⟨.ref ca6, ⟨.inl (PySem.W.mg_of X G cx6), .inl ⟨_, rfl⟩⟩, (kit_ref' hd6 ct6 so6_7 so9_7).trans (by decide +kernel), (PySem.W.exm_ref cs6 hd6 ct6 so9_7).trans (by decide +kernel)⟩
      · exact ⟨.ref ca7, ⟨.inl (PySem.W.mg_of X G cx7), .inl ⟨_, rfl⟩⟩, (kit_ref' hd7 ct7 so7_8 so9_8).trans (by decide +kernel), (PySem.W.exm_ref cs7 hd7 ct7 so9_8).trans (by decide +kernel)⟩
      · exact ⟨.ref ca8, ⟨.inl (PySem.W.mg_of X G cx8), .inl ⟨_, rfl⟩⟩, (kit_ref' hd8 ct8 so8_9 so9_9).trans (by decide +kernel), (PySem.W.exm_ref cs8 hd8 ct8 so9_9).trans (by decide +kernel)⟩
      · exact ⟨.ref ca9, ⟨.inl (PySem.W.mg_of X G cx9), .inl ⟨_, rfl⟩⟩, (kit_ref' hd9 ct9 so9_10 so9_10).trans (by decide +kernel), (PySem.W.exm_ref cs9 hd9 ct9 so9_10).trans (by decide +kernel)⟩
      · exact ⟨.ref ca10, ⟨.inl (PySem.W.mg_of X G cx10), .inl ⟨_, rfl⟩⟩, (kit_ref' hd10 ct10 so10_11 so9_11).trans (by decide +kernel), (PySem.W.exm_ref cs10 hd10 ct10 so9_11).trans (by decide +kernel)⟩
      · exact ⟨.ref ca11, ⟨.inl (PySem.W.mg_of X G cx11), .inl ⟨_, rfl⟩⟩, (kit_ref' hd11 ct11 so11_12 so9_12).trans (by decide +kernel), (PySem.W.exm_ref cs11 hd11 ct11 so9_12).trans (by decide +kernel)⟩
    split at hd
    · rename_i e; rw [beq_iff_eq] at e; subst e; cases hd; cases hc
      refine ⟨ca10, PySem.W.mg_of X G cx10, ⟨(fun _ => ce10), (fun f z => by cases z), ck10, cs10, ct10, ⟨hg10, hk10, hs10, hd10, ha10, hn10, ht10, hm10⟩, cx10, (fun f g z => by cases z)⟩, fun y hy => ?_⟩
      have hy : y ∈ (["ValueError", "ZeroError", "NoSum", "NoBasis", "NoTold", "NoPower", "NoLike", "NoFinite", "NoTree", "NoParts", "NoRatio", "NoText", "NoRow"] : List Str) := hy
      simp only [List.mem_cons, List.not_mem_nil, or_false] at hy
      rcases hy with rfl | rfl | rfl | rfl | rfl | rfl | rfl | rfl | rfl | rfl | rfl | rfl | rfl
      · exact ⟨.type "ValueError", ⟨.inr ⟨PySem.W.mg_none_of X G zv, rfl, by decide⟩, .inr ⟨_, rfl⟩⟩, (kit_ty' (by decide) so10_0).trans (by decide +kernel), (exm_ty' (by rfl) (by decide) so10_0).trans (by decide +kernel)⟩
      · exact ⟨.ref ca0, ⟨.inl (PySem.W.mg_of X G cx0), .inl ⟨_, rfl⟩⟩, (kit_ref' hd0 ct0 so0_1 so10_1).trans (by decide +kernel), (PySem.W.exm_ref cs0 hd0 ct0 so10_1).trans (by decide +kernel)⟩
      · exact ⟨.ref ca1, ⟨.inl (PySem.W.mg_of X G cx1), .inl ⟨_, rfl⟩⟩, (kit_ref' hd1 ct1 so1_2 so10_2).trans (by decide +kernel), (PySem.W.exm_ref cs1 hd1 ct1 so10_2).trans (by decide +kernel)⟩
      · exact ⟨.ref ca2, ⟨.inl (PySem.W.mg_of X G cx2), .inl ⟨_, rfl⟩⟩, (kit_ref' hd2 ct2 so2_3 so10_3).trans (by decide +kernel), (PySem.W.exm_ref cs2 hd2 ct2 so10_3).trans (by decide +kernel)⟩
      · exact ⟨.ref ca3, ⟨.inl (PySem.W.mg_of X G cx3), .inl ⟨_, rfl⟩⟩, (kit_ref' hd3 ct3 so3_4 so10_4).trans (by decide +kernel), (PySem.W.exm_ref cs3 hd3 ct3 so10_4).trans (by decide +kernel)⟩
      · exact ⟨.ref ca4, ⟨.inl (PySem.W.mg_of X G cx4), .inl ⟨_, rfl⟩⟩, (kit_ref' hd4 ct4 so4_5 so10_5).trans (by decide +kernel), (PySem.W.exm_ref cs4 hd4 ct4 so10_5).trans (by decide +kernel)⟩
      · exact ⟨.ref ca5, ⟨.inl (PySem.W.mg_of X G cx5), .inl ⟨_, rfl⟩⟩, (kit_ref' hd5 ct5 so5_6 so10_6).trans (by decide +kernel), (PySem.W.exm_ref cs5 hd5 ct5 so10_6).trans (by decide +kernel)⟩
      · exact ⟨.ref ca6, ⟨.inl (PySem.W.mg_of X G cx6), .inl ⟨_, rfl⟩⟩, (kit_ref' hd6 ct6 so6_7 so10_7).trans (by decide +kernel), (PySem.W.exm_ref cs6 hd6 ct6 so10_7).trans (by decide +kernel)⟩
      · exact ⟨.ref ca7, ⟨.inl (PySem.W.mg_of X G cx7), .inl ⟨_, rfl⟩⟩, (kit_ref' hd7 ct7 so7_8 so10_8).trans (by decide +kernel), (PySem.W.exm_ref cs7 hd7 ct7 so10_8).trans (by decide +kernel)⟩
      · exact ⟨.ref ca8, ⟨.inl (PySem.W.mg_of X G cx8), .inl ⟨_, rfl⟩⟩, (kit_ref' hd8 ct8 so8_9 so10_9).trans (by decide +kernel), (PySem.W.exm_ref cs8 hd8 ct8 so10_9).trans (by decide +kernel)⟩
      · exact ⟨.ref ca9, ⟨.inl (PySem.W.mg_of X G cx9), .inl ⟨_, rfl⟩⟩, (kit_ref' hd9 ct9 so9_10 so10_10).trans (by decide +kernel), (PySem.W.exm_ref cs9 hd9 ct9 so10_10).trans (by decide +kernel)⟩
      · exact ⟨.ref ca10, ⟨.inl (PySem.W.mg_of X G cx10), .inl ⟨_, rfl⟩⟩, (kit_ref' hd10 ct10 so10_11 so10_11).trans (by decide +kernel), (PySem.W.exm_ref cs10 hd10 ct10 so10_11).trans (by decide +kernel)⟩
      · exact ⟨.ref ca11, ⟨.inl (PySem.W.mg_of X G cx11), .inl ⟨_, rfl⟩⟩, (kit_ref' hd11 ct11 so11_12 so10_12).trans (by decide +kernel), (PySem.W.exm_ref cs11 hd11 ct11 so10_12).trans (by decide +kernel)⟩
    split at hd
    · rename_i e; rw [beq_iff_eq] at e; subst e; cases hd; cases hc
      refine ⟨ca11, PySem.W.mg_of X G cx11, ⟨(fun _ => ce11), (fun f z => by cases z), ck11, cs11, ct11, ⟨hg11, hk11, hs11, hd11, ha11, hn11, ht11, hm11⟩, cx11, (fun f g z => by cases z)⟩, fun y hy => ?_⟩
      have hy : y ∈ (["ValueError", "ZeroError", "NoSum", "NoBasis", "NoTold", "NoPower", "NoLike", "NoFinite", "NoTree", "NoParts", "NoRatio", "NoText", "NoRow"] : List Str) := hy
      simp only [List.mem_cons, List.not_mem_nil, or_false] at hy
      rcases hy with rfl | rfl | rfl | rfl | rfl | rfl | rfl | rfl | rfl | rfl | rfl | rfl | rfl
      · exact ⟨.type "ValueError", ⟨.inr ⟨PySem.W.mg_none_of X G zv, rfl, by decide⟩, .inr ⟨_, rfl⟩⟩, (kit_ty' (by decide) so11_0).trans (by decide +kernel), (exm_ty' (by rfl) (by decide) so11_0).trans (by decide +kernel)⟩
      · exact ⟨.ref ca0, ⟨.inl (PySem.W.mg_of X G cx0), .inl ⟨_, rfl⟩⟩, (kit_ref' hd0 ct0 so0_1 so11_1).trans (by decide +kernel), (PySem.W.exm_ref cs0 hd0 ct0 so11_1).trans (by decide +kernel)⟩
      · exact ⟨.ref ca1, ⟨.inl (PySem.W.mg_of X G cx1), .inl ⟨_, rfl⟩⟩, (kit_ref' hd1 ct1 so1_2 so11_2).trans (by decide +kernel), (PySem.W.exm_ref cs1 hd1 ct1 so11_2).trans (by decide +kernel)⟩
      · exact ⟨.ref ca2, ⟨.inl (PySem.W.mg_of X G cx2), .inl ⟨_, rfl⟩⟩, (kit_ref' hd2 ct2 so2_3 so11_3).trans (by decide +kernel), (PySem.W.exm_ref cs2 hd2 ct2 so11_3).trans (by decide +kernel)⟩
      · exact ⟨.ref ca3, ⟨.inl (PySem.W.mg_of X G cx3), .inl ⟨_, rfl⟩⟩, (kit_ref' hd3 ct3 so3_4 so11_4).trans (by decide +kernel), (PySem.W.exm_ref cs3 hd3 ct3 so11_4).trans (by decide +kernel)⟩
      · exact ⟨.ref ca4, ⟨.inl (PySem.W.mg_of X G cx4), .inl ⟨_, rfl⟩⟩, (kit_ref' hd4 ct4 so4_5 so11_5).trans (by decide +kernel), (PySem.W.exm_ref cs4 hd4 ct4 so11_5).trans (by decide +kernel)⟩
      · exact ⟨.ref ca5, ⟨.inl (PySem.W.mg_of X G cx5), .inl ⟨_, rfl⟩⟩, (kit_ref' hd5 ct5 so5_6 so11_6).trans (by decide +kernel), (PySem.W.exm_ref cs5 hd5 ct5 so11_6).trans (by decide +kernel)⟩
      · exact ⟨.ref ca6, ⟨.inl (PySem.W.mg_of X G cx6), .inl ⟨_, rfl⟩⟩, (kit_ref' hd6 ct6 so6_7 so11_7).trans (by decide +kernel), (PySem.W.exm_ref cs6 hd6 ct6 so11_7).trans (by decide +kernel)⟩
      · exact ⟨.ref ca7, ⟨.inl (PySem.W.mg_of X G cx7), .inl ⟨_, rfl⟩⟩, (kit_ref' hd7 ct7 so7_8 so11_8).trans (by decide +kernel), (PySem.W.exm_ref cs7 hd7 ct7 so11_8).trans (by decide +kernel)⟩
      · exact ⟨.ref ca8, ⟨.inl (PySem.W.mg_of X G cx8), .inl ⟨_, rfl⟩⟩, (kit_ref' hd8 ct8 so8_9 so11_9).trans (by decide +kernel), (PySem.W.exm_ref cs8 hd8 ct8 so11_9).trans (by decide +kernel)⟩
      · exact ⟨.ref ca9, ⟨.inl (PySem.W.mg_of X G cx9), .inl ⟨_, rfl⟩⟩, (kit_ref' hd9 ct9 so9_10 so11_10).trans (by decide +kernel), (PySem.W.exm_ref cs9 hd9 ct9 so11_10).trans (by decide +kernel)⟩
      · exact ⟨.ref ca10, ⟨.inl (PySem.W.mg_of X G cx10), .inl ⟨_, rfl⟩⟩, (kit_ref' hd10 ct10 so10_11 so11_11).trans (by decide +kernel), (PySem.W.exm_ref cs10 hd10 ct10 so11_11).trans (by decide +kernel)⟩
      · exact ⟨.ref ca11, ⟨.inl (PySem.W.mg_of X G cx11), .inl ⟨_, rfl⟩⟩, (kit_ref' hd11 ct11 so11_12 so11_12).trans (by decide +kernel), (PySem.W.exm_ref cs11 hd11 ct11 so11_12).trans (by decide +kernel)⟩
    cases hd
end K17
open PySem PySem.W PyProof.Rows
set_option maxHeartbeats 0 in
theorem PySem.Challenge.cw_commonzeros_k17_refusals_made_by_hand_holds : PySem.Challenge.rw_commonzeros_k17_refusals_made_by_hand.Holds := by
  w_on; o_law; k_head; (case hw => w_witness2)
  k_fill
  refine Mn.walk_mn (l := PySem.Challenge.rw_commonzeros_k17_refusals_made_by_hand) (n := 63) (k := 6) (x := "_law_script") (fns := K17.fns) (gls := K17.gls) (Wn := Mn.Wb) (li := 5) (fn := (K17.f_law_15 0 1 2 4 3)) rfl (by decide) rfl ⟨rfl, by decide, by decide⟩ (fun w h Y => PySem.W.kIn_of Y) rfl rfl rfl ?G ?S
  case G =>
    intro w mg h KX G
    refine' K17.prg KX G ?a0 ?l0 ?c0 ?k0 ?a1 ?l1 ?c1 ?k1 ?a2 ?l2 ?c2 ?k2 ?a3 ?l3 ?c3 ?k3 ?a4 ?l4 ?c4 ?k4 ?a5 ?l5 ?c5 ?k5 ?z0 ?z1 ?z2 ?z3 ?z4 ?z5 ?z6 ?z7 ?z8 ?z9 ?z10 ?z11 ?z12 ?z13 ?z14 ?z15 ?z16 ?z17 ?z18 ?z19 ?zv ?cx0 ?cx1 ?cx2 ?cx3 ?cx4 ?cx5 ?cx6 ?cx7 ?cx8 ?cx9 ?cx10 ?cx11 ?ce0 ?ck0 ?cs0 ?ct0 ?hg0 ?hk0 ?hs0 ?hd0 ?ha0 ?hn0 ?ht0 ?hm0 ?so0_0 ?so0_1 ?so0_2 ?so0_3 ?so0_4 ?so0_5 ?so0_6 ?so0_7 ?so0_8 ?so0_9 ?so0_10 ?so0_11 ?so0_12 ?xL1 ?xs1 ?xn1 ?xi1 ?xt1 ?xl1 ?xc1 ?xk1 ?bg0 ?bt0 ?br0 ?bf0 ?ck1 ?cs1 ?ct1 ?hg1 ?hk1 ?hs1 ?hd1 ?ha1 ?hn1 ?ht1 ?hm1 ?so1_0 ?so1_1 ?so1_2 ?so1_3 ?so1_4 ?so1_5 ?so1_6 ?so1_7 ?so1_8 ?so1_9 ?so1_10 ?so1_11 ?so1_12 ?xL2 ?xs2 ?xn2 ?xi2 ?xt2 ?xl2 ?xc2 ?xk2 ?xm2 ?ck2 ?cs2 ?ct2 ?hg2 ?hk2 ?hs2 ?hd2 ?ha2 ?hn2 ?ht2 ?hm2 ?so2_0 ?so2_1 ?so2_2 ?so2_3 ?so2_4 ?so2_5 ?so2_6 ?so2_7 ?so2_8 ?so2_9 ?so2_10 ?so2_11 ?so2_12 ?xL3 ?xs3 ?xn3 ?xi3 ?xt3 ?xl3 ?xc3 ?xk3 ?ck3 ?cs3 ?ct3 ?hg3 ?hk3 ?hs3 ?hd3 ?ha3 ?hn3 ?ht3 ?hm3 ?so3_0 ?so3_1 ?so3_2 ?so3_3 ?so3_4 ?so3_5 ?so3_6 ?so3_7 ?so3_8 ?so3_9 ?so3_10 ?so3_11 ?so3_12 ?xL4 ?xs4 ?xn4 ?xi4 ?xt4 ?xl4 ?xc4 ?xk4 ?ck4 ?cs4 ?ct4 ?hg4 ?hk4 ?hs4 ?hd4 ?ha4 ?hn4 ?ht4 ?hm4 ?so4_0 ?so4_1 ?so4_2 ?so4_3 ?so4_4 ?so4_5 ?so4_6 ?so4_7 ?so4_8 ?so4_9 ?so4_10 ?so4_11 ?so4_12 ?xL5 ?xs5 ?xn5 ?xi5 ?xt5 ?xl5 ?xc5 ?xk5 ?ck5 ?cs5 ?ct5 ?hg5 ?hk5 ?hs5 ?hd5 ?ha5 ?hn5 ?ht5 ?hm5 ?so5_0 ?so5_1 ?so5_2 ?so5_3 ?so5_4 ?so5_5 ?so5_6 ?so5_7 ?so5_8 ?so5_9 ?so5_10 ?so5_11 ?so5_12 ?xL6 ?xs6 ?xn6 ?xi6 ?xt6 ?xl6 ?xc6 ?xk6 ?ck6 ?cs6 ?ct6 ?hg6 ?hk6 ?hs6 ?hd6 ?ha6 ?hn6 ?ht6 ?hm6 ?so6_0 ?so6_1 ?so6_2 ?so6_3 ?so6_4 ?so6_5 ?so6_6 ?so6_7 ?so6_8 ?so6_9 ?so6_10 ?so6_11 ?so6_12 ?xL7 ?xs7 ?xn7 ?xi7 ?xt7 ?xl7 ?xc7 ?xk7 ?ck7 ?cs7 ?ct7 ?hg7 ?hk7 ?hs7 ?hd7 ?ha7 ?hn7 ?ht7 ?hm7 ?so7_0 ?so7_1 ?so7_2 ?so7_3 ?so7_4 ?so7_5 ?so7_6 ?so7_7 ?so7_8 ?so7_9 ?so7_10 ?so7_11 ?so7_12 ?xL8 ?xs8 ?xn8 ?xi8 ?xt8 ?xl8 ?xc8 ?xk8 ?ck8 ?cs8 ?ct8 ?hg8 ?hk8 ?hs8 ?hd8 ?ha8 ?hn8 ?ht8 ?hm8 ?so8_0 ?so8_1 ?so8_2 ?so8_3 ?so8_4 ?so8_5 ?so8_6 ?so8_7 ?so8_8 ?so8_9 ?so8_10 ?so8_11 ?so8_12 ?ce9 ?ck9 ?cs9 ?ct9 ?hg9 ?hk9 ?hs9 ?hd9 ?ha9 ?hn9 ?ht9 ?hm9 ?so9_0 ?so9_1 ?so9_2 ?so9_3 ?so9_4 ?so9_5 ?so9_6 ?so9_7 ?so9_8 ?so9_9 ?so9_10 ?so9_11 ?so9_12 ?ce10 ?ck10 ?cs10 ?ct10 ?hg10 ?hk10 ?hs10 ?hd10 ?ha10 ?hn10 ?ht10 ?hm10 ?so10_0 ?so10_1 ?so10_2 ?so10_3 ?so10_4 ?so10_5 ?so10_6 ?so10_7 ?so10_8 ?so10_9 ?so10_10 ?so10_11 ?so10_12 ?ce11 ?ck11 ?cs11 ?ct11 ?hg11 ?hk11 ?hs11 ?hd11 ?ha11 ?hn11 ?ht11 ?hm11 ?so11_0 ?so11_1 ?so11_2 ?so11_3 ?so11_4 ?so11_5 ?so11_6 ?so11_7 ?so11_8 ?so11_9 ?so11_10 ?so11_11 ?so11_12
    (case a0 => k_is); (case l0 => k_is); (case c0 => k_is); (case k0 => k_is); (case a1 => k_is); (case l1 => k_is); (case c1 => k_is); (case k1 => k_is); (case a2 => k_is); (case l2 => k_is); (case c2 => k_is); (case k2 => k_is); (case a3 => k_is); (case l3 => k_is); (case c3 => k_is); (case k3 => k_is); (case a4 => k_is); (case l4 => k_is); (case c4 => k_is); (case k4 => k_is); (case a5 => k_is); (case l5 => k_is); (case c5 => k_is); (case k5 => k_is); (case z0 => k_is); (case z1 => k_is); (case z2 => k_is); (case z3 => k_is); (case z4 => k_is); (case z5 => k_is); (case z6 => k_is); (case z7 => k_is); (case z8 => k_is); (case z9 => k_is); (case z10 => k_is); (case z11 => k_is); (case z12 => k_is); (case z13 => k_is); (case z14 => k_is); (case z15 => k_is); (case z16 => k_is); (case z17 => k_is); (case z18 => k_is); (case z19 => k_is); (case zv => k_is); (case cx0 => k_is); (case cx1 => k_is); (case cx2 => k_is); (case cx3 => k_is); (case cx4 => k_is); (case cx5 => k_is); (case cx6 => k_is); (case cx7 => k_is); (case cx8 => k_is); (case cx9 => k_is); (case cx10 => k_is); (case cx11 => k_is); (case ce0 => k_exc); (case ck0 => k_is); (case cs0 => k_is); (case ct0 => k_is); (case hg0 => k_is); (case hk0 => k_is); (case hs0 => k_is); (case hd0 => k_is); (case ha0 => k_is); (case hn0 => k_is); (case ht0 => k_is); (case hm0 => k_is); (case so0_0 => k_is); (case so0_1 => k_is); (case so0_2 => k_is); (case so0_3 => k_is); (case so0_4 => k_is); (case so0_5 => k_is); (case so0_6 => k_is); (case so0_7 => k_is); (case so0_8 => k_is); (case so0_9 => k_is); (case so0_10 => k_is); (case so0_11 => k_is); (case so0_12 => k_is); (case xL1 => k_is); (case xs1 => k_is); (case xn1 => k_is); (case xi1 => k_is); (case xt1 => k_is); (case xl1 => k_is); (case xc1 => k_is); (case xk1 => k_is); (case bg0 => k_is); (case bt0 => k_is); (case br0 => k_is); (case bf0 => k_is); (case ck1 => k_is); (case cs1 => k_is); (case ct1 => k_is); (case hg1 => k_is); (case hk1 => k_is); (case hs1 => k_is); (case hd1 => k_is); (case ha1 => k_is); (case hn1 => k_is); (case ht1 => k_is); (case hm1 => k_is); (case so1_0 => k_is); (case so1_1 => k_is); (case so1_2 => k_is); (case so1_3 => k_is); (case so1_4 => k_is); (case so1_5 => k_is); (case so1_6 => k_is); (case so1_7 => k_is); (case so1_8 => k_is); (case so1_9 => k_is); (case so1_10 => k_is); (case so1_11 => k_is); (case so1_12 => k_is); (case xL2 => k_is); (case xs2 => k_is); (case xn2 => k_is); (case xi2 => k_is); (case xt2 => k_is); (case xl2 => k_is); (case xc2 => k_is); (case xk2 => k_is); (case xm2 => k_is); (case ck2 => k_is); (case cs2 => k_is); (case ct2 => k_is); (case hg2 => k_is); (case hk2 => k_is); (case hs2 => k_is); (case hd2 => k_is); (case ha2 => k_is); (case hn2 => k_is); (case ht2 => k_is); (case hm2 => k_is); (case so2_0 => k_is); (case so2_1 => k_is); (case so2_2 => k_is); (case so2_3 => k_is); (case so2_4 => k_is); (case so2_5 => k_is); (case so2_6 => k_is); (case so2_7 => k_is); (case so2_8 => k_is); (case so2_9 => k_is); (case so2_10 => k_is); (case so2_11 => k_is); (case so2_12 => k_is); (case xL3 => k_is); (case xs3 => k_is); (case xn3 => k_is); (case xi3 => k_is); (case xt3 => k_is); (case xl3 => k_is); (case xc3 => k_is); (case xk3 => k_is); (case ck3 => k_is); (case cs3 => k_is); (case ct3 => k_is); (case hg3 => k_is); (case hk3 => k_is); (case hs3 => k_is); (case hd3 => k_is); (case ha3 => k_is); (case hn3 => k_is); (case ht3 => k_is); (case hm3 => k_is); (case so3_0 => k_is); (case so3_1 => k_is); (case so3_2 => k_is); (case so3_3 => k_is); (case so3_4 => k_is); (case so3_5 => k_is); (case so3_6 => k_is); (case so3_7 => k_is); (case so3_8 => k_is); (case so3_9 => k_is); (case so3_10 => k_is); (case so3_11 => k_is); (case so3_12 => k_is); (case xL4 => k_is); (case xs4 => k_is); (case xn4 => k_is); (case xi4 => k_is); (case xt4 => k_is); (case xl4 => k_is); (case xc4 => k_is); (case xk4 => k_is); (case ck4 => k_is); (case cs4 => k_is); (case ct4 => k_is); (case hg4 => k_is); (case hk4 => k_is); (case hs4 => k_is); (case hd4 => k_is); (case ha4 => k_is); (case hn4 => k_is); (case ht4 => k_is); (case hm4 => k_is); (case so4_0 => k_is); (case so4_1 => k_is); (case so4_2 => k_is); (case so4_3 => k_is); (case so4_4 => k_is); (case so4_5 => k_is); (case so4_6 => k_is); (case so4_7 => k_is); (case so4_8 => k_is); (case so4_9 => k_is); (case so4_10 => k_is); (case so4_11 => k_is); (case so4_12 => k_is); (case xL5 => k_is); (case xs5 => k_is); (case xn5 => k_is); (case xi5 => k_is); (case xt5 => k_is); (case xl5 => k_is); (case xc5 => k_is); (case xk5 => k_is); (case ck5 => k_is); (case cs5 => k_is); (case ct5 => k_is); (case hg5 => k_is); (case hk5 => k_is); (case hs5 => k_is); (case hd5 => k_is); (case ha5 => k_is); (case hn5 => k_is); (case ht5 => k_is); (case hm5 => k_is); (case so5_0 => k_is); (case so5_1 => k_is); (case so5_2 => k_is); (case so5_3 => k_is); (case so5_4 => k_is); (case so5_5 => k_is); (case so5_6 => k_is); (case so5_7 => k_is); (case so5_8 => k_is); (case so5_9 => k_is); (case so5_10 => k_is); (case so5_11 => k_is); (case so5_12 => k_is); (case xL6 => k_is); (case xs6 => k_is); (case xn6 => k_is); (case xi6 => k_is); (case xt6 => k_is); (case xl6 => k_is); (case xc6 => k_is); (case xk6 => k_is); (case ck6 => k_is); (case cs6 => k_is); (case ct6 => k_is); (case hg6 => k_is); (case hk6 => k_is); (case hs6 => k_is); (case hd6 => k_is); (case ha6 => k_is); (case hn6 => k_is); (case ht6 => k_is); (case hm6 => k_is); (case so6_0 => k_is); (case so6_1 => k_is); (case so6_2 => k_is); (case so6_3 => k_is); (case so6_4 => k_is); (case so6_5 => k_is); (case so6_6 => k_is); (case so6_7 => k_is); (case so6_8 => k_is); (case so6_9 => k_is); (case so6_10 => k_is); (case so6_11 => k_is); (case so6_12 => k_is); (case xL7 => k_is); (case xs7 => k_is); (case xn7 => k_is); (case xi7 => k_is); (case xt7 => k_is); (case xl7 => k_is); (case xc7 => k_is); (case xk7 => k_is); (case ck7 => k_is); (case cs7 => k_is); (case ct7 => k_is); (case hg7 => k_is); (case hk7 => k_is); (case hs7 => k_is); (case hd7 => k_is); (case ha7 => k_is); (case hn7 => k_is); (case ht7 => k_is); (case hm7 => k_is); (case so7_0 => k_is); (case so7_1 => k_is); (case so7_2 => k_is); (case so7_3 => k_is); (case so7_4 => k_is); (case so7_5 => k_is); (case so7_6 => k_is); (case so7_7 => k_is); (case so7_8 => k_is); (case so7_9 => k_is); (case so7_10 => k_is); (case so7_11 => k_is); (case so7_12 => k_is); (case xL8 => k_is); (case xs8 => k_is); (case xn8 => k_is); (case xi8 => k_is); (case xt8 => k_is); (case xl8 => k_is); (case xc8 => k_is); (case xk8 => k_is); (case ck8 => k_is); (case cs8 => k_is); (case ct8 => k_is); (case hg8 => k_is); (case hk8 => k_is); (case hs8 => k_is); (case hd8 => k_is); (case ha8 => k_is); (case hn8 => k_is); (case ht8 => k_is); (case hm8 => k_is); (case so8_0 => k_is); (case so8_1 => k_is); (case so8_2 => k_is); (case so8_3 => k_is); (case so8_4 => k_is); (case so8_5 => k_is); (case so8_6 => k_is); (case so8_7 => k_is); (case so8_8 => k_is); (case so8_9 => k_is); (case so8_10 => k_is); (case so8_11 => k_is); (case so8_12 => k_is); (case ce9 => k_exc); (case ck9 => k_is); (case cs9 => k_is); (case ct9 => k_is); (case hg9 => k_is); (case hk9 => k_is); (case hs9 => k_is); (case hd9 => k_is); (case ha9 => k_is); (case hn9 => k_is); (case ht9 => k_is); (case hm9 => k_is); (case so9_0 => k_is); (case so9_1 => k_is); (case so9_2 => k_is); (case so9_3 => k_is); (case so9_4 => k_is); (case so9_5 => k_is); (case so9_6 => k_is); (case so9_7 => k_is); (case so9_8 => k_is); (case so9_9 => k_is); (case so9_10 => k_is); (case so9_11 => k_is); (case so9_12 => k_is); (case ce10 => k_exc); (case ck10 => k_is); (case cs10 => k_is); (case ct10 => k_is); (case hg10 => k_is); (case hk10 => k_is); (case hs10 => k_is); (case hd10 => k_is); (case ha10 => k_is); (case hn10 => k_is); (case ht10 => k_is); (case hm10 => k_is); (case so10_0 => k_is); (case so10_1 => k_is); (case so10_2 => k_is); (case so10_3 => k_is); (case so10_4 => k_is); (case so10_5 => k_is); (case so10_6 => k_is); (case so10_7 => k_is); (case so10_8 => k_is); (case so10_9 => k_is); (case so10_10 => k_is); (case so10_11 => k_is); (case so10_12 => k_is); (case ce11 => k_exc); (case ck11 => k_is); (case cs11 => k_is); (case ct11 => k_is); (case hg11 => k_is); (case hk11 => k_is); (case hs11 => k_is); (case hd11 => k_is); (case ha11 => k_is); (case hn11 => k_is); (case ht11 => k_is); (case hm11 => k_is); (case so11_0 => k_is); (case so11_1 => k_is); (case so11_2 => k_is); (case so11_3 => k_is); (case so11_4 => k_is); (case so11_5 => k_is); (case so11_6 => k_is); (case so11_7 => k_is); (case so11_8 => k_is); (case so11_9 => k_is); (case so11_10 => k_is); (case so11_11 => k_is); (case so11_12 => k_is)
  case S => exact K17.all_true
