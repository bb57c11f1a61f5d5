import PyProof.Rows.All
import Wide.All
import OpenK.AllK
import Wide.FinOn
import HandS.ForMost
import HandS.ForExc
import KE.DataEq
import KE.DataCmp
import KE.DataIsa
import KE.DataMinMax
import KE.SortData
import PyProof.ReprRoads
import HandS.CallSlots
import HandS.TupAny
import HandS.TupLe
import HandS.TupMul
import HandS.Zip
import HandS.Rev
import HandS.RevRange
import HandS.IsInst
import HandS.Wide
import HandS.Conv
import HandS.Walk
import HandS.Deep
import HandS.More
import HandS.Style
import HandS.TryOnly
import KE.KDictDisplayH
import HandS.Dict
import PyProof.TupleKey
import PyProof.DictRoadsH
import KE.KDictSum
import KE.KDictPairs
import HandS.SortKw
import PyProof.Rows.SortWalk
import HandS.Exc
import HandS.ExcIs
import HandS.ExcOwn
import PyProof.ExcBaseAll.ValueError
import PyProof.ReprLen
import PyProof.Rows.StrDigitsNeg
import PyProof.Rows.StrJoinMade
import PyProof.StrLawsRepr
import PySem.Challenge.RW_commonzeros_k01_ratios
set_option Elab.async false
set_option linter.all false
set_option maxRecDepth 100000
set_option autoImplicit false
namespace Mn
open PySem PySem.Spec L2

/-! ## values: plain data; slots -/
abbrev D := PyData
inductive Sl where
  | no
  | val (d : D)
  | own (d : D)
  | lck (d : D)
abbrev Mu := List Sl
abbrev Ads := Addr → Prop
def setN (i : Nat) (d : D) (μ : Mu) : Mu := μ.set i (.val d)

/-- a tuple of the written part -/
def WrT (K : PySem.W.Frag) (a : Addr) (xs : List V) : Prop :=
  ∃ (its : Array Value) (n : Nat), K.lookup a = some { cls := .type "tuple", data := .seq its n } ∧ its.size ≤ sizeLine ∧ Vals xs its.toList
theorem WrT.sq {K : PySem.W.Frag} {H : Hp} {a : Addr} {xs : List V} (h : WrT K a xs) : SqT K H a xs := by
  obtain ⟨its, n, h1, h4, h5⟩ := h
  exact .inr ⟨_, its, n, h1, rfl, rfl, h4, h5⟩
/-- a tuple made here: its object has no dict -/
def Tp (H : Hp) (a : Addr) (xs : List V) : Prop := ∃ (its : Array Value) (n : Nat), H a = some (.frz { cls := .type "tuple", data := .seq its n } (.tup xs))
theorem Tp.rd {H : Hp} {a : Addr} {xs : List V} (h : Tp H a xs) : Rd H a (.tup xs) := by
  obtain ⟨_, _, h⟩ := h
  exact .inr ⟨_, h⟩

/-- a list of the written part -/
def WrL (K : PySem.W.Frag) (a : Addr) (xs : List V) : Prop :=
  ∃ (its : Array Value) (n : Nat), K.lookup a = some { cls := .type "list", data := .seq its n } ∧ its.size ≤ sizeLine ∧ Vals xs its.toList
theorem WrL.sq {K : PySem.W.Frag} {H : Hp} {a : Addr} {xs : List V} (h : WrL K a xs) : SqL K H a xs := by
  obtain ⟨its, n, h1, h2, h3⟩ := h
  exact .inr ⟨_, its, n, h1, rfl, rfl, rfl, h2, h3⟩

/-! dicts whose keys are tuples of ints -/
def hI (ks : List Int) : Int := reduceHash (Builtin.Tuple.tupleHashOf (ks.map hashInt))
abbrev Ent3 := List Int × Addr × Value
def entI (x : Ent3) : DictEntry := ⟨hI x.1, .ref x.2.1, x.2.2⟩
def DictO (a : Addr) (o : Obj) : HO := .ext fun h => h.get? a = some o
/-- the dict at a, entry by entry -/
def IsDct (H : Hp) (a : Addr) (xs : List Ent3) : Prop :=
  ∃ o es ep, H a = some (DictO a o) ∧ (a == sysModules) = false ∧ o.ExactDict ∧ o.data = .dict es ep ∧ es.toList = xs.map entI ∧ (xs.map (·.1)).Nodup ∧ xs.length ≤ sizeLine

mutual
/-- a value bears plain data; none of its lists, tuples, dicts that the heap tracks stands in L -/
inductive Dv (K : PySem.W.Frag) (H : Hp) (L : Ads) : D → V → Prop
  | non : Dv K H L .none .non
  | bl (b : Bool) : Dv K H L (.bool b) (.bl b)
  | int (i : Int) : Dv K H L (.int i) (.int i)
  | str (x : Str) : Dv K H L (.str x) (.str x)
  | tup {a : Addr} {vs : List V} {ds : List D} : ¬ L a → Tp H a vs → Dvs K H L ds vs → Dv K H L (.tuple ds) (.ref a)
  | tupK {a : Addr} {vs : List V} {ds : List D} : WrT K a vs → Dvs K H L ds vs → Dv K H L (.tuple ds) (.ref a)
  | lst {a : Addr} {vs : List V} {ds : List D} : ¬ L a → Rd H a (.lst vs) → Dvs K H L ds vs → Dv K H L (.list ds) (.ref a)
  | lstK {a : Addr} {vs : List V} {ds : List D} : WrL K a vs → Dvs K H L ds vs → Dv K H L (.list ds) (.ref a)
  | dct {a : Addr} {es : List (D × D)} {xs : List Ent3} : ¬ L a → IsDct H a xs → Dvk K H L es xs → Dv K H L (.dict es) (.ref a)
inductive Dvs (K : PySem.W.Frag) (H : Hp) (L : Ads) : List D → List V → Prop
  | nil : Dvs K H L [] []
  | cons {d : D} {v : V} {ds : List D} {vs : List V} : Dv K H L d v → Dvs K H L ds vs → Dvs K H L (d :: ds) (v :: vs)
inductive Dvk (K : PySem.W.Frag) (H : Hp) (L : Ads) : List (D × D) → List Ent3 → Prop
  | nil : Dvk K H L [] []
  | cons {k : List Int} {b : Addr} {u : Value} {d : D} {v : V} {es : List (D × D)} {xs : List Ent3} : Dv K H L (.tuple (k.map .int)) (.ref b) → RelV v u → Dv K H L d v → Dvk K H L es xs → Dvk K H L ((.tuple (k.map .int), d) :: es) ((k, b, u) :: xs)
end

/-- what stands outside M stays -/
def Kp (M : Ads) (H H' : Hp) : Prop := ∀ a o, H a = some o → ¬ M a → H' a = some o
theorem Kp.refl {M : Ads} {H : Hp} : Kp M H H := fun _ _ h _ => h
theorem Kp.trans {M : Ads} {H H1 H2 : Hp} (a : Kp M H H1) (b : Kp M H1 H2) : Kp M H H2 := fun c o h n => b c o (a c o h n) n
theorem Kp.mono {M M' : Ads} {H H' : Hp} (k : Kp M H H') (h : ∀ a, M a → M' a) : Kp M' H H' := fun a o e n => k a o e fun m => n (h a m)
theorem Kp.laid {M : Ads} {H : Hp} {a : Addr} {o : HO} (n : H a = none) : Kp M H (upd H a o) := fun b u e _ => by rw [upd_ne (ne_of_none e n)]; exact e

section
variable {K : PySem.W.Frag} {H H' : Hp} {L L' : Ads}
theorem Rd.keep {a : Addr} {u : HO} (r : Rd H a u) (k : Kp L H H') (n : ¬ L a) : Rd H' a u := by
  rcases r with r | ⟨o, r⟩
  · exact .inl (k _ _ r n)
  · exact .inr ⟨o, k _ _ r n⟩
theorem IsDct.keep {a : Addr} {xs : List Ent3} (k : Kp L H H') (r : IsDct H a xs) (n : ¬ L a) : IsDct H' a xs := by
  obtain ⟨o, es, ep, h, q⟩ := r
  exact ⟨o, es, ep, k _ _ h n, q⟩
theorem IsDct.ne {a b : Addr} {xs : List Ent3} (r : IsDct H a xs) (n : H b = none) : a ≠ b := by
  obtain ⟨o, es, ep, h, q⟩ := r
  exact ne_of_none h n
theorem Tp.keep {a : Addr} {u : List V} (r : Tp H a u) (k : Kp L H H') (n : ¬ L a) : Tp H' a u := by
  obtain ⟨i, m, h⟩ := r
  exact ⟨i, m, k _ _ h n⟩
mutual
theorem Dv.keep (k : Kp L H H') : ∀ {d : D} {v : V}, Dv K H L d v → Dv K H' L d v
  | _, _, .non => .non
  | _, _, .bl b => .bl b
  | _, _, .int i => .int i
  | _, _, .str x => .str x
  | _, _, .tup n r s => .tup n (Tp.keep r k n) (Dvs.keep k s)
  | _, _, .tupK w s => .tupK w (Dvs.keep k s)
  | _, _, .lstK w s => .lstK w (Dvs.keep k s)
  | _, _, .lst n r s => .lst n (Rd.keep r k n) (Dvs.keep k s)
  | _, _, .dct n r s => .dct n (IsDct.keep k r n) (Dvk.keep k s)
theorem Dvs.keep (k : Kp L H H') : ∀ {ds : List D} {vs : List V}, Dvs K H L ds vs → Dvs K H' L ds vs
  | _, _, .nil => .nil
  | _, _, .cons h t => .cons (Dv.keep k h) (Dvs.keep k t)
theorem Dvk.keep (k : Kp L H H') : ∀ {es : List (D × D)} {kvs : List Ent3}, Dvk K H L es kvs → Dvk K H' L es kvs
  | _, _, .nil => .nil
  | _, _, .cons g r h t => .cons (Dv.keep k g) r (Dv.keep k h) (Dvk.keep k t)
end
mutual
/-- fewer addresses to be kept off -/
theorem Dv.anti (h : ∀ a, L' a → L a) : ∀ {d : D} {v : V}, Dv K H L d v → Dv K H L' d v
  | _, _, .non => .non
  | _, _, .bl b => .bl b
  | _, _, .int i => .int i
  | _, _, .str x => .str x
  | _, _, .tup n r s => .tup (fun z => n (h _ z)) r (Dvs.anti h s)
  | _, _, .tupK w s => .tupK w (Dvs.anti h s)
  | _, _, .lstK w s => .lstK w (Dvs.anti h s)
  | _, _, .lst n r s => .lst (fun z => n (h _ z)) r (Dvs.anti h s)
  | _, _, .dct n r s => .dct (fun z => n (h _ z)) r (Dvk.anti h s)
theorem Dvs.anti (h : ∀ a, L' a → L a) : ∀ {ds : List D} {vs : List V}, Dvs K H L ds vs → Dvs K H L' ds vs
  | _, _, .nil => .nil
  | _, _, .cons x t => .cons (Dv.anti h x) (Dvs.anti h t)
theorem Dvk.anti (h : ∀ a, L' a → L a) : ∀ {es : List (D × D)} {kvs : List Ent3}, Dvk K H L es kvs → Dvk K H L' es kvs
  | _, _, .nil => .nil
  | _, _, .cons g r x t => .cons (Dv.anti h g) r (Dv.anti h x) (Dvk.anti h t)
end
/-- one address more, at which nothing stood -/
def plusA (L : Ads) (a : Addr) : Ads := fun b => L b ∨ b = a
def lessA (L : Ads) (a : Addr) : Ads := fun b => L b ∧ b ≠ a
theorem Rd.ne {a b : Addr} {u : HO} (r : Rd H a u) (n : H b = none) : a ≠ b := by
  rcases r with r | ⟨o, r⟩
  · exact ne_of_none r n
  · exact ne_of_none r n
mutual
theorem Dv.plus {b : Addr} (n0 : H b = none) : ∀ {d : D} {v : V}, Dv K H L d v → Dv K H (plusA L b) d v
  | _, _, .non => .non
  | _, _, .bl b => .bl b
  | _, _, .int i => .int i
  | _, _, .str x => .str x
  | _, _, .tup n r s => .tup (fun z => z.elim n (Rd.ne r.rd n0)) r (Dvs.plus n0 s)
  | _, _, .tupK w s => .tupK w (Dvs.plus n0 s)
  | _, _, .lstK w s => .lstK w (Dvs.plus n0 s)
  | _, _, .lst n r s => .lst (fun z => z.elim n (Rd.ne r n0)) r (Dvs.plus n0 s)
  | _, _, .dct n r s => .dct (fun z => z.elim n (IsDct.ne r n0)) r (Dvk.plus n0 s)
theorem Dvs.plus {b : Addr} (n0 : H b = none) : ∀ {ds : List D} {vs : List V}, Dvs K H L ds vs → Dvs K H (plusA L b) ds vs
  | _, _, .nil => .nil
  | _, _, .cons x t => .cons (Dv.plus n0 x) (Dvs.plus n0 t)
theorem Dvk.plus {b : Addr} (n0 : H b = none) : ∀ {es : List (D × D)} {kvs : List Ent3}, Dvk K H L es kvs → Dvk K H (plusA L b) es kvs
  | _, _, .nil => .nil
  | _, _, .cons g r x t => .cons (Dv.plus n0 g) r (Dv.plus n0 x) (Dvk.plus n0 t)
end
mutual
/-- other addresses to be kept off, if they are among the elder ones or nothing stood there -/
theorem Dv.grow (h : ∀ a, L' a → L a ∨ H a = none) : ∀ {d : D} {v : V}, Dv K H L d v → Dv K H L' d v
  | _, _, .non => .non
  | _, _, .bl b => .bl b
  | _, _, .int i => .int i
  | _, _, .str x => .str x
  | _, _, .tup n r s => .tup (fun z => (h _ z).elim n fun q => Rd.ne r.rd q rfl) r (Dvs.grow h s)
  | _, _, .tupK w s => .tupK w (Dvs.grow h s)
  | _, _, .lstK w s => .lstK w (Dvs.grow h s)
  | _, _, .lst n r s => .lst (fun z => (h _ z).elim n fun q => Rd.ne r q rfl) r (Dvs.grow h s)
  | _, _, .dct n r s => .dct (fun z => (h _ z).elim n fun q => IsDct.ne r q rfl) r (Dvk.grow h s)
theorem Dvs.grow (h : ∀ a, L' a → L a ∨ H a = none) : ∀ {ds : List D} {vs : List V}, Dvs K H L ds vs → Dvs K H L' ds vs
  | _, _, .nil => .nil
  | _, _, .cons x t => .cons (Dv.grow h x) (Dvs.grow h t)
theorem Dvk.grow (h : ∀ a, L' a → L a ∨ H a = none) : ∀ {es : List (D × D)} {kvs : List Ent3}, Dvk K H L es kvs → Dvk K H L' es kvs
  | _, _, .nil => .nil
  | _, _, .cons g r x t => .cons (Dv.grow h g) r (Dv.grow h x) (Dvk.grow h t)
end
theorem Dvs.length : ∀ {ds : List D} {vs : List V}, Dvs K H L ds vs → ds.length = vs.length
  | _, _, .nil => rfl
  | _, _, .cons _ t => congrArg (· + 1) (Dvs.length t)
theorem Dvs.get : ∀ {ds : List D} {vs : List V} {i : Nat} {v : V}, Dvs K H L ds vs → vs[i]? = some v → ∃ d, ds[i]? = some d ∧ Dv K H L d v
  | _, _, _, _, .nil, e => by simp at e
  | _, _, 0, _, .cons x _, e => by simp at e; subst e; exact ⟨_, rfl, x⟩
  | _, _, i + 1, v, .cons _ t, e => by
    obtain ⟨d, h1, h2⟩ := Dvs.get (i := i) (v := v) t (by simpa using e)
    exact ⟨d, by simpa using h1, h2⟩
theorem Dvs.getD : ∀ {ds : List D} {vs : List V} {i : Nat} {d : D}, Dvs K H L ds vs → ds[i]? = some d → ∃ v, vs[i]? = some v ∧ Dv K H L d v
  | _, _, _, _, .nil, e => by simp at e
  | _, _, 0, _, .cons x _, e => by simp at e; subst e; exact ⟨_, rfl, x⟩
  | _, _, i + 1, d, .cons _ t, e => by
    obtain ⟨v, h1, h2⟩ := Dvs.getD (i := i) (d := d) t (by simpa using e)
    exact ⟨v, by simpa using h1, h2⟩
theorem Dvs.append : ∀ {ds es : List D} {vs ws : List V}, Dvs K H L ds vs → Dvs K H L es ws → Dvs K H L (ds ++ es) (vs ++ ws)
  | _, _, _, _, .nil, s => s
  | _, _, _, _, .cons x t, s => .cons x (Dvs.append t s)
theorem Dvs.take : ∀ {ds : List D} {vs : List V} (n : Nat), Dvs K H L ds vs → Dvs K H L (ds.take n) (vs.take n)
  | _, _, 0, _ => .nil
  | _, _, _ + 1, .nil => .nil
  | _, _, n + 1, .cons x t => .cons x (Dvs.take n t)
theorem Dvs.drop : ∀ {ds : List D} {vs : List V} (n : Nat), Dvs K H L ds vs → Dvs K H L (ds.drop n) (vs.drop n)
  | _, _, 0, r => r
  | _, _, _ + 1, .nil => .nil
  | _, _, n + 1, .cons _ t => Dvs.drop n t
theorem Dvs.set {d : D} {v : V} (x : Dv K H L d v) : ∀ {ds : List D} {vs : List V} (n : Nat), Dvs K H L ds vs → Dvs K H L (ds.set n d) (vs.set n v)
  | _, _, _, .nil => .nil
  | _, _, 0, .cons _ t => .cons x t
  | _, _, n + 1, .cons y t => .cons y (Dvs.set x n t)
theorem Dvs.rev {ds : List D} {vs : List V} (h : Dvs K H L ds vs) : Dvs K H L ds.reverse vs.reverse := by
  induction ds generalizing vs with
  | nil => cases h; exact .nil
  | cons d ds ih => cases h with | cons x t => rw [List.reverse_cons, List.reverse_cons]; exact (ih t).append (.cons x .nil)
theorem Dvs.ints {vs : List V} : ∀ {ns : List Int}, Dvs K H L (ns.map PyData.int) vs → vs = ns.map V.int
  | [], .nil => rfl
  | n :: ns, .cons x t => by cases x; rw [Dvs.ints t]; rfl
theorem Dvs.ofInts : ∀ (ns : List Int), Dvs K H L (ns.map PyData.int) (ns.map V.int)
  | [] => .nil
  | n :: ns => .cons (.int n) (Dvs.ofInts ns)
theorem Dvs.bools {vs : List V} : ∀ {ns : List Bool}, Dvs K H L (ns.map PyData.bool) vs → vs = ns.map V.bl
  | [], .nil => rfl
  | n :: ns, .cons x t => by cases x; rw [Dvs.bools t]; rfl
theorem Dvs.replicate {d : D} {v : V} (x : Dv K H L d v) : ∀ n, Dvs K H L (List.replicate n d) (List.replicate n v)
  | 0 => .nil
  | n + 1 => .cons x (Dvs.replicate x n)
theorem Dvs.flat {ds : List D} {vs : List V} (x : Dvs K H L ds vs) : ∀ n, Dvs K H L (List.replicate n ds).flatten (List.replicate n vs).flatten
  | 0 => .nil
  | n + 1 => x.append (Dvs.flat x n)
mutual
theorem Dv.dp : ∀ {d : D} {v : V}, Dv K H L d v → PyData.plain d = true → Dp K H v d
  | _, _, .non, _ => .non
  | _, _, .bl b, _ => .bl b
  | _, _, .int i, _ => .int i
  | _, _, .str x, _ => .str x
  | _, _, .tup n r s, h => .tup (.inl r.rd) (Dvs.dp s h)
  | _, _, .tupK w s, h => .tup w.sq (Dvs.dp s h)
  | _, _, .lstK w s, h => .lst w.sq (Dvs.dp s h)
  | _, _, .lst n r s, h => .lst (.inl r) (Dvs.dp s h)
  | _, _, .dct n r s, h => by cases h
theorem Dvs.dp : ∀ {ds : List D} {vs : List V}, Dvs K H L ds vs → PyData.plainAll ds = true → DpAll K H vs ds
  | _, _, .nil, _ => .nil
  | _, _, .cons x t, h => by
    have h' : (PyData.plain _ && PyData.plainAll _) = true := h
    rw [Bool.and_eq_true] at h'
    exact .cons (Dv.dp x h'.1) (Dvs.dp t h'.2)
end
theorem Dv.tuple {ds : List D} {v : V} (h : Dv K H L (.tuple ds) v) : ∃ a vs, v = .ref a ∧ SqT K H a vs ∧ Dvs K H L ds vs := by
  cases h with
  | tup n r s => exact ⟨_, _, rfl, .inl r.rd, s⟩
  | tupK w s => exact ⟨_, _, rfl, w.sq, s⟩
theorem Dv.list {ds : List D} {v : V} (h : Dv K H L (.list ds) v) : ∃ a vs, v = .ref a ∧ SqL K H a vs ∧ Dvs K H L ds vs := by
  cases h with
  | lst n r s => exact ⟨_, _, rfl, .inl r, s⟩
  | lstK w s => exact ⟨_, _, rfl, w.sq, s⟩
theorem Dv.int_inv {i : Int} {v : V} (h : Dv K H L (.int i) v) : v = .int i := by cases h; rfl
theorem Dv.bool_inv {i : Bool} {v : V} (h : Dv K H L (.bool i) v) : v = .bl i := by cases h; rfl
theorem Dv.str_inv {i : Str} {v : V} (h : Dv K H L (.str i) v) : v = .str i := by cases h; rfl
theorem Dv.none_inv {v : V} (h : Dv K H L .none v) : v = .non := by cases h; rfl
end

/-! ## the frame: what the slots hold -/
/-- what stood at a def's entry: the heap, the lent addresses (by slot), what is to be kept off -/
structure Ent where
  H0 : Hp
  L0 : Ads
  io : List (Nat × Addr)
  lks : List (Nat × Addr)
def Ent.M0 (c : Ent) : Ads := fun a => ∃ p ∈ c.io, p.2 = a
def Ent.lk (c : Ent) : Ads := fun a => ∃ p ∈ c.lks, p.2 = a

def OwnAt (K : PySem.W.Frag) (H : Hp) (L : Ads) (d : D) (a : Addr) : Prop :=
  (∃ ds vs, d = .list ds ∧ H a = some (.lst vs) ∧ Dvs K H L ds vs) ∨ (∃ es xs, d = .dict es ∧ IsDct H a xs ∧ Dvk K H L es xs)
def Sl.held : Sl → Bool
  | .own _ => true
  | .lck _ => true
  | _ => false
structure Sr (K : PySem.W.Frag) (c : Ent) (L M : Ads) (μ : Mu) (σ : St) (H : Hp) : Prop where
  len : μ.length = σ.length
  val : ∀ (i : Nat) (d : D), μ[i]? = some (.val d) → ∃ v, σ[i]? = some (some v) ∧ Dv K H L d v
  own : ∀ (i : Nat) (d : D), μ[i]? = some (.own d) → ∃ a, σ[i]? = some (some (.ref a)) ∧ OwnAt K H L d a ∧ M a
  lck : ∀ (i : Nat) (d : D), μ[i]? = some (.lck d) → ∃ a, σ[i]? = some (some (.ref a)) ∧ OwnAt K H L d a ∧ (i, a) ∈ c.lks
  inj : ∀ (i j : Nat) (s t : Sl) (a : Addr), μ[i]? = some s → s.held = true → μ[j]? = some t → t.held = true → σ[i]? = some (some (.ref a)) → σ[j]? = some (some (.ref a)) → i = j
  ml : ∀ a, M a → L a
  lkl : ∀ a, c.lk a → L a ∧ ¬ M a
  l0 : ∀ a, c.L0 a → L a
  m0 : ∀ a, M a → c.M0 a ∨ c.H0 a = none
  l00 : ∀ a, c.L0 a → c.H0 a ≠ none
  trk : ∀ a, L a → H a ≠ none
  keep : ∀ a o, c.H0 a = some o → ¬ c.M0 a → H a = some o
  io : ∀ p ∈ c.io, σ[p.1]? = some (some (.ref p.2)) ∧ ∃ s, μ[p.1]? = some s ∧ s.held = true
  lks : ∀ p ∈ c.lks, σ[p.1]? = some (some (.ref p.2)) ∧ ∃ d, μ[p.1]? = some (.lck d)

section
variable {K : PySem.W.Frag} {c : Ent} {L L' M M' : Ads} {μ μ' : Mu} {σ σ' : St} {H H' : Hp}
theorem OwnAt.there {d : D} {a : Addr} (h : OwnAt K H L d a) : ∃ o, H a = some o := by
  rcases h with ⟨_, _, _, e, _⟩ | ⟨_, _, _, ⟨_, _, _, e, _⟩, _⟩
  · exact ⟨_, e⟩
  · exact ⟨_, e⟩
theorem IsDct.to {a : Addr} {xs : List Ent3} (r : IsDct H a xs) (n : ∀ o, H a = some o → H' a = some o) : IsDct H' a xs := by
  obtain ⟨o, es, ep, h, q⟩ := r
  exact ⟨o, es, ep, n _ h, q⟩
theorem OwnAt.anti (h : ∀ a, L' a → L a) {d : D} {a : Addr} (x : OwnAt K H L d a) : OwnAt K H L' d a := by
  rcases x with ⟨ds, vs, e1, e2, e3⟩ | ⟨ds, vs, e1, e2, e3⟩
  · exact .inl ⟨ds, vs, e1, e2, e3.anti h⟩
  · exact .inr ⟨ds, vs, e1, e2, e3.anti h⟩
theorem OwnAt.grow (h : ∀ a, L' a → L a ∨ H a = none) {d : D} {a : Addr} (x : OwnAt K H L d a) : OwnAt K H L' d a := by
  rcases x with ⟨ds, vs, e1, e2, e3⟩ | ⟨ds, vs, e1, e2, e3⟩
  · exact .inl ⟨ds, vs, e1, e2, e3.grow h⟩
  · exact .inr ⟨ds, vs, e1, e2, e3.grow h⟩
theorem OwnAt.keep {d : D} {a : Addr} (x : OwnAt K H L d a) (k : Kp L H H') (n : ∀ o, H a = some o → H' a = some o) : OwnAt K H' L d a := by
  rcases x with ⟨ds, vs, e1, e2, e3⟩ | ⟨ds, vs, e1, e2, e3⟩
  · exact .inl ⟨ds, vs, e1, n _ e2, e3.keep k⟩
  · exact .inr ⟨ds, vs, e1, e2.to n, e3.keep k⟩
theorem OwnAt.plus {d : D} {a b : Addr} (x : OwnAt K H L d a) (n : H b = none) : OwnAt K H (plusA L b) d a := by
  rcases x with ⟨ds, vs, e1, e2, e3⟩ | ⟨ds, vs, e1, e2, e3⟩
  · exact .inl ⟨ds, vs, e1, e2, e3.plus n⟩
  · exact .inr ⟨ds, vs, e1, e2, e3.plus n⟩
/-- the heap changes outside of all that is held, nothing tracked is let go -/
theorem Sr.mut (S : Sr K c L M μ σ H) (k : ∀ a o, H a = some o → H' a = some o) : Sr K c L M μ σ H' := by
  have k' : Kp L H H' := fun a o e _ => k a o e
  refine ⟨S.len, fun i d e => ?_, fun i d e => ?_, fun i d e => ?_, S.inj, S.ml, S.lkl, S.l0, S.m0, S.l00, fun a h => ?_, fun a o e n => k _ _ (S.keep a o e n), S.io, S.lks⟩
  · obtain ⟨v, e1, e2⟩ := S.val i d e; exact ⟨v, e1, e2.keep k'⟩
  · obtain ⟨a, e1, e2, e3⟩ := S.own i d e; exact ⟨a, e1, e2.keep k' (k a), e3⟩
  · obtain ⟨a, e1, e2, e3⟩ := S.lck i d e; exact ⟨a, e1, e2.keep k' (k a), e3⟩
  · cases q : H a with
    | none => exact absurd q (S.trk a h)
    | some o => rw [k a o q]; simp
theorem Sr.laid (S : Sr K c L M μ σ H) {a : Addr} {o : HO} (n : H a = none) : Sr K c L M μ σ (upd H a o) :=
  S.mut fun b u e => by rw [upd_ne (ne_of_none e n)]; exact e
/-- a smaller set to be kept off -/
theorem Sr.anti (S : Sr K c L M μ σ H) (h : ∀ a, L' a → L a) (hM : ∀ a, M a → L' a) (h0 : ∀ a, c.L0 a → L' a) (hl : ∀ a, c.lk a → L' a) : Sr K c L' M μ σ H := by
  refine ⟨S.len, fun i d e => ?_, fun i d e => ?_, fun i d e => ?_, S.inj, hM, fun a q => ⟨hl a q, (S.lkl a q).2⟩, h0, S.m0, S.l00, fun a q => S.trk a (h a q), S.keep, S.io, S.lks⟩
  · obtain ⟨v, e1, e2⟩ := S.val i d e; exact ⟨v, e1, e2.anti h⟩
  · obtain ⟨a, e1, e2, e3⟩ := S.own i d e; exact ⟨a, e1, e2.anti h, e3⟩
  · obtain ⟨a, e1, e2, e3⟩ := S.lck i d e; exact ⟨a, e1, e2.anti h, e3⟩
theorem Sr.free (S : Sr K c L M μ σ H) {a : Addr} (n : H a = none) : ¬ L a := fun h => S.trk a h n
/-- one more address to be kept off: a new object -/
theorem Sr.plus (S : Sr K c L M μ σ H) {a : Addr} {o : HO} (n : H a = none) : Sr K c (plusA L a) M μ σ (upd H a o) := by
  have k : ∀ b u, H b = some u → upd H a o b = some u := fun b u e => by rw [upd_ne (ne_of_none e n)]; exact e
  have k' : Kp (plusA L a) H (upd H a o) := fun b u e _ => k b u e
  refine ⟨S.len, fun i d e => ?_, fun i d e => ?_, fun i d e => ?_, S.inj, fun b h => .inl (S.ml b h), fun b h => ⟨.inl (S.lkl b h).1, (S.lkl b h).2⟩, fun b h => .inl (S.l0 b h), S.m0, S.l00, fun b h => ?_, fun b u e m => k _ _ (S.keep b u e m), S.io, S.lks⟩
  · obtain ⟨v, e1, e2⟩ := S.val i d e; exact ⟨v, e1, (e2.plus n).keep k'⟩
  · obtain ⟨b, e1, e2, e3⟩ := S.own i d e; exact ⟨b, e1, (e2.plus n).keep k' (k b), e3⟩
  · obtain ⟨b, e1, e2, e3⟩ := S.lck i d e; exact ⟨b, e1, (e2.plus n).keep k' (k b), e3⟩
  · rcases h with h | rfl
    · cases q : H b with
      | none => exact absurd q (S.trk b h)
      | some u => rw [k b u q]; simp
    · rw [upd_same]; simp
/-- back again -/
theorem Sr.minus {a : Addr} (S : Sr K c (plusA L a) M μ σ H) (S0 : ∀ a, M a → L a) (h0 : ∀ a, c.L0 a → L a) (hl : ∀ a, c.lk a → L a) : Sr K c L M μ σ H :=
  S.anti (fun _ h => .inl h) S0 h0 hl
/-- an address that is kept off and none of the slots' own is written -/
theorem Sr.wr (S : Sr K c L M μ σ H) {a : Addr} {o : HO} (hL : L a) (nM : ¬ M a) (nk : ¬ c.lk a) (n0 : c.H0 a = none ∨ c.M0 a) : Sr K c L M μ σ (upd H a o) := by
  have k : Kp L H (upd H a o) := fun b u e n => by
    have z : b ≠ a := fun z => n (by rw [z]; exact hL)
    rw [upd_ne z]; exact e
  refine ⟨S.len, fun i d e => ?_, fun i d e => ?_, fun i d e => ?_, S.inj, S.ml, S.lkl, S.l0, S.m0, S.l00, fun b h => ?_, fun b u e m => ?_, S.io, S.lks⟩
  · obtain ⟨v, e1, e2⟩ := S.val i d e; exact ⟨v, e1, e2.keep k⟩
  · obtain ⟨b, e1, e2, e3⟩ := S.own i d e
    have z : b ≠ a := fun z => nM (z ▸ e3)
    exact ⟨b, e1, e2.keep k fun u q => by rw [upd_ne z]; exact q, e3⟩
  · obtain ⟨b, e1, e2, e3⟩ := S.lck i d e
    have z : b ≠ a := fun z => nk ⟨_, e3, z⟩
    exact ⟨b, e1, e2.keep k fun u q => by rw [upd_ne z]; exact q, e3⟩
  · by_cases q : b = a
    · subst q; rw [upd_same]; simp
    · rw [upd_ne q]; exact S.trk b h
  · have : b ≠ a := fun z => by
      subst z
      rcases n0 with n0 | n0
      · rw [n0] at e; cases e
      · exact m n0
    rw [upd_ne this]; exact S.keep b u e m
/-- an own object is written -/
theorem Sr.put (S : Sr K c L M μ σ H) {i : Nat} {d d' : D} {a : Addr} {o : HO} (hi : μ[i]? = some (.own d)) (ha : σ[i]? = some (some (.ref a))) (hM : M a) (hn : OwnAt K (upd H a o) L d' a) : Sr K c L M (μ.set i (.own d')) σ (upd H a o) := by
  have hL := S.ml a hM
  have k : Kp L H (upd H a o) := fun b u e n => by
    have z : b ≠ a := fun z => n (by rw [z]; exact hL)
    rw [upd_ne z]; exact e
  have il : i < μ.length := (List.getElem?_eq_some_iff.mp hi).1
  have other : ∀ (j : Nat) (s : Sl), (μ.set i (.own d'))[j]? = some s → j ≠ i → μ[j]? = some s := fun j s e n => by rw [List.getElem?_set_ne (Ne.symm n)] at e; exact e
  have back : ∀ (j : Nat) (s : Sl), (μ.set i (.own d'))[j]? = some s → s.held = true → ∃ t, μ[j]? = some t ∧ t.held = true := fun j s e h => by
    by_cases n : j = i
    · subst n; exact ⟨_, hi, rfl⟩
    · exact ⟨s, other j s e n, h⟩
  refine ⟨by rw [List.length_set]; exact S.len, fun j e q => ?_, fun j e q => ?_, fun j e q => ?_, fun j j' s t b q1 h1 q2 h2 e1 e2 => ?_, S.ml, S.lkl, S.l0, S.m0, S.l00, fun b h => ?_, fun b u e m => ?_, fun p hp => ?_, fun p hp => ?_⟩
  · by_cases n : j = i
    · subst n; rw [List.getElem?_set_self il] at q; cases q
    · obtain ⟨v, e1, e2⟩ := S.val j e (other j _ q n); exact ⟨v, e1, e2.keep k⟩
  · by_cases n : j = i
    · subst n; rw [List.getElem?_set_self il] at q; cases q
      exact ⟨a, ha, hn, hM⟩
    · have q' := other j _ q n
      obtain ⟨b, e1, e2, e3⟩ := S.own j e q'
      have z : b ≠ a := fun z => n (S.inj j i _ _ a q' rfl hi rfl (z ▸ e1) ha)
      exact ⟨b, e1, e2.keep k fun u q => by rw [upd_ne z]; exact q, e3⟩
  · by_cases n : j = i
    · subst n; rw [List.getElem?_set_self il] at q; cases q
    · obtain ⟨b, e1, e2, e3⟩ := S.lck j e (other j _ q n)
      have z : b ≠ a := fun z => (S.lkl b ⟨_, e3, rfl⟩).2 (z ▸ hM)
      exact ⟨b, e1, e2.keep k fun u q => by rw [upd_ne z]; exact q, e3⟩
  · obtain ⟨s', a1, a2⟩ := back j s q1 h1
    obtain ⟨t', b1, b2⟩ := back j' t q2 h2
    exact S.inj j j' s' t' b a1 a2 b1 b2 e1 e2
  · by_cases q : b = a
    · subst q; rw [upd_same]; simp
    · rw [upd_ne q]; exact S.trk b h
  · have : b ≠ a := fun z => by
      subst z
      rcases S.m0 b hM with n0 | n0
      · exact m n0
      · rw [n0] at e; cases e
    rw [upd_ne this]; exact S.keep b u e m
  · obtain ⟨e1, s, e2, e3⟩ := S.io p hp
    refine ⟨e1, ?_⟩
    by_cases n : p.1 = i
    · rw [n, List.getElem?_set_self il]; exact ⟨_, rfl, rfl⟩
    · rw [List.getElem?_set_ne (Ne.symm n)]; exact ⟨s, e2, e3⟩
  · obtain ⟨e1, dd, e2⟩ := S.lks p hp
    refine ⟨e1, dd, ?_⟩
    have n : p.1 ≠ i := fun z => by rw [z, hi] at e2; cases e2
    rw [List.getElem?_set_ne (Ne.symm n)]; exact e2
/-- a slot is given a value -/
theorem Sr.set (S : Sr K c L M μ σ H) {i : Nat} {d : D} {v : V} (w : Dv K H L d v) (hio : ∀ p ∈ c.io, p.1 ≠ i) (hlk : ∀ e, μ[i]? ≠ some (.lck e)) (hi : i < σ.length) : Sr K c L M (setN i d μ) (σ.set i (some v)) H := by
  have il : i < μ.length := by rw [S.len]; exact hi
  have ne : ∀ (j : Nat) (s : Sl), (setN i d μ)[j]? = some s → j ≠ i → μ[j]? = some s ∧ (σ.set i (some v))[j]? = σ[j]? := fun j s e n => by
    unfold setN at e
    rw [List.getElem?_set_ne (Ne.symm n)] at e
    exact ⟨e, List.getElem?_set_ne (Ne.symm n)⟩
  have at_ : ∀ s, (setN i d μ)[i]? = some s → s = .val d := fun s e => by
    unfold setN at e
    rw [List.getElem?_set_self il] at e; cases e; rfl
  have held : ∀ (j : Nat) (s : Sl), (setN i d μ)[j]? = some s → s.held = true → j ≠ i := fun j s e h n => by
    subst n; rw [at_ s e] at h; cases h
  refine ⟨by unfold setN; rw [List.length_set, List.length_set]; exact S.len, fun j e q => ?_, fun j e q => ?_, fun j e q => ?_, fun j j' s t b q1 h1 q2 h2 e1 e2 => ?_, S.ml, S.lkl, S.l0, S.m0, S.l00, S.trk, S.keep, fun p hp => ?_, fun p hp => ?_⟩
  · by_cases n : j = i
    · subst n; cases at_ _ q; exact ⟨v, List.getElem?_set_self hi, w⟩
    · obtain ⟨a1, a2⟩ := ne j _ q n; rw [a2]; exact S.val j e a1
  · have n := held j _ q rfl
    obtain ⟨a1, a2⟩ := ne j _ q n; rw [a2]; exact S.own j e a1
  · have n := held j _ q rfl
    obtain ⟨a1, a2⟩ := ne j _ q n; rw [a2]; exact S.lck j e a1
  · obtain ⟨a1, a2⟩ := ne j _ q1 (held j _ q1 h1)
    obtain ⟨b1, b2⟩ := ne j' _ q2 (held j' _ q2 h2)
    rw [a2] at e1; rw [b2] at e2
    exact S.inj j j' s t b a1 h1 b1 h2 e1 e2
  · obtain ⟨e1, s, e2, e3⟩ := S.io p hp
    have n := hio p hp
    refine ⟨by rw [List.getElem?_set_ne (Ne.symm n)]; exact e1, s, ?_, e3⟩
    unfold setN; rw [List.getElem?_set_ne (Ne.symm n)]; exact e2
  · obtain ⟨e1, dd, e2⟩ := S.lks p hp
    have n : p.1 ≠ i := fun z => hlk dd (by rw [← z]; exact e2)
    refine ⟨by rw [List.getElem?_set_ne (Ne.symm n)]; exact e1, dd, ?_⟩
    unfold setN; rw [List.getElem?_set_ne (Ne.symm n)]; exact e2
end
end Mn
set_option Elab.async false
set_option linter.all false
set_option maxRecDepth 100000
set_option autoImplicit false
namespace Mn
open PySem PySem.Spec L2

/-! ## the small language -/
inductive BOp where | add | sub | mul | fdiv | mod | pow
  deriving DecidableEq
inductive COp where | eq | ne | lt | le | gt | ge | isin | notin | isn | isnot
  deriving DecidableEq
/-- built-ins of one argument -/
inductive B1 where | len | abs | all | any | sum | max | min | tuple | repr | str | int
  deriving DecidableEq
inductive B2 where | max | min
  deriving DecidableEq
inductive Ty where | int | bool | tuple | list | str
  deriving DecidableEq

mutual
inductive E where
  | var (i : Nat)
  | int (i : Int) | bl (b : Bool) | str (x : Str) | non
  | glob (x : Str) (d : D)
  | bin (op : BOp) (a b : E)
  | neg (a : E)
  | cmp (op : COp) (a b : P)
  | and (es : Es) | or (es : Es) | not (a : E)
  | ife (c a b : E)
  | tup (es : Es)
  | ix (a : P) (b : E)
  | sl (a : P) (lo hi : O)
  | slSt (a : E) (s : Int)
  | fre (f : FE)
  | call (f : Nat) (as : As)
  | b1 (b : B1) (p : P)
  | b2 (b : B2) (x y : E)
  | isi (a : E) (t : Ty)
  | dix (p : P) (k : E)
  | get (p : P) (k d : E)
  | pop (i : Nat) (b : E)
inductive Es where | nil | cons (e : E) (es : Es)
/-- what is looked at: a value, or a slot's own object -/
inductive P where | e (e : E) | pk (i : Nat)
inductive O where | none | some (e : E)
inductive A where | v (e : E) | io (i : Nat)
inductive As where | nil | cons (a : A) (as : As)
/-- new lists and dicts -/
inductive FE where
  | disp (es : Es)
  | comp (elt : E) (t : List Nat) (tup : Bool) (it : I) (c : O)
  | listOf (it : I)
  | cat (a b : P)
  | rep (a : P) (b : E)
  | sortedRev (p : P)
  | dict0
  | dict2 (a b c d : E)
  | dictOf (a : E)
  | call (f : Nat) (as : As)
/-- what is walked -/
inductive I where
  | seq (p : P) | rng1 (a : E) | rng2 (a b : E) | rng3 (a b c : E) | zip (a b : E) | enum (p : P) | rev (p : P) | revr (a : E)
end

/-- a test of a caught exception: isinstance(e, y); not isinstance(e, (y, ..)) -/
inductive Ht where | is1 (y : Str) | isn (ys : List Str)
/-- an except clause: the class, e's slot, the slot that is set, to what at first, the tests, to what then; by classes: whether it is caught, and what the tests say -/
structure Hd where
  cn : Str
  i : Nat
  j : Nat
  pre : Option D
  ts : List Ht
  v : D
  tab : List (Option Bool)
mutual
inductive S where
  | asg (i : Nat) (e : E)
  | own (i : Nat) (f : FE)
  | par (i j : Nat) (a b : E)
  | unp (is : List Nat) (e : E)
  | unpL (is : List Nat) (e : E)
  | seti (i : Nat) (k e : E)
  | dset (i : Nat) (k e : E)
  | app (i : Nat) (e : E)
  | ext (i : Nat) (e : E)
  | ins (i : Nat) (a b : E)
  | app2 (i : Nat) (k e : E)
  | ex (e : E)
  | ife (c : E) (a b : Ss)
  | whl (c : E) (b : Ss)
  | for_ (t : List Nat) (tup : Bool) (it : I) (b : Ss)
  | ret (e : E)
  | retF (f : FE)
  | pass
  | never
  | rse (c : Nat) (x : Str)
  | tryX (b : Ss) (h : Hd)
inductive Ss where
  | nil | cons (s : S) (r : Ss) | frz (i : Nat) (r : Ss)
end

/-! ## what it does -/
/-- an exception: its class (by number), its fields -/
structure Xc where
  cls : Nat
  fs : List D
inductive Rs (α : Type) where
  | ok (a : α) (μ : Mu)
  | ex (x : Xc) (μ : Mu)
  | st
def Rs.bind {α β : Type} (r : Rs α) (k : α → Mu → Rs β) : Rs β := match r with
  | .ok a μ => k a μ
  | .ex x μ => .ex x μ
  | .st => .st
/-- nothing is raised -/
def Rs.nox {α : Type} (r : Rs α) : Rs α := match r with
  | .ok a μ => .ok a μ
  | _ => .st
def Rs.opt {α : Type} (o : Option α) (μ : Mu) : Rs α := match o with
  | some a => .ok a μ
  | none => .st
/-- the slots otherwise -/
def Rs.mu {α : Type} (g : Mu → Mu) (r : Rs α) : Rs α := match r with
  | .ok a μ => .ok a (g μ)
  | .ex x μ => .ex x (g μ)
  | .st => .st
inductive Fl where | nx | rt (d : D) | rf (d : D)
/-- what a def gives: its value, and what the lent objects hold behind -/
inductive FR where
  | ok (d : D) (outs : List D)
  | fr (d : D) (outs : List D)
  | ex (x : Xc) (outs : List D)
  | st

def sizeOkN (n : Nat) : Bool := decide (n ≤ 16777216)
/-- products: together below a million bits -/
def mulOk (i j : Int) : Bool := decide (i.natAbs.log2 + j.natAbs.log2 < 1000000)
def divOk (j : Int) : Bool := decide (j ≠ 0) && decide (j.natAbs.log2 < 8900)
def addD : D → D → Option D
  | .int i, .int j => some (.int (i + j))
  | .str x, .str y => if sizeOkN (x.length + y.length) then some (.str (x ++ y)) else none
  | .tuple xs, .tuple ys => if sizeOkN (xs.length + ys.length) then some (.tuple (xs ++ ys)) else none
  | .list xs, .list ys => if sizeOkN (xs.length + ys.length) then some (.list (xs ++ ys)) else none
  | _, _ => none
def subD : D → D → Option D
  | .int i, .int j => some (.int (i - j))
  | _, _ => none
def mulD : D → D → Option D
  | .int i, .int j => if mulOk i j then some (.int (i * j)) else none
  | .tuple xs, .int j => if decide (0 ≤ j) && decide (j ≤ 1000) && !xs.isEmpty && decide (xs.length ≤ 1000) then some (.tuple (List.replicate j.toNat xs).flatten) else none
  | _, _ => none
def fdivD : D → D → Option D
  | .int i, .int j => if divOk j then some (.int (i.fdiv j)) else none
  | _, _ => none
def modD : D → D → Option D
  | .int i, .int j => if decide (j ≠ 0) then some (.int (i.fmod j)) else none
  | _, _ => none
def powD : D → D → Option D
  | .int i, .int j => if decide (0 ≤ j) && decide (j ≤ 1000000) && decide (i.natAbs < 2 ^ 64) then some (.int (i ^ j.toNat)) else none
  | _, _ => none
def binD : BOp → D → D → Option D
  | .add => addD
  | .sub => subD
  | .mul => mulD
  | .fdiv => fdivD
  | .mod => modD
  | .pow => powD
def intsOf : List D → Option (List Int)
  | [] => some []
  | .int i :: r => (intsOf r).map (i :: ·)
  | _ => none
def boolsOf : List D → Option (List Bool)
  | [] => some []
  | .bool b :: r => (boolsOf r).map (b :: ·)
  | _ => none
def lexLt : List Int → List Int → Bool
  | [], [] => false
  | [], _ :: _ => true
  | _ :: _, [] => false
  | x :: xs, y :: ys => if x = y then lexLt xs ys else decide (x < y)
def eqD (x y : D) : Option Bool := if x.plain && y.plain && decide (min x.depth y.depth ≤ 60) then some (PyData.eqv x y) else none
def isNone : D → Bool
  | .none => true
  | _ => false
def ltOk (x y : D) : Bool := x.plain && y.plain && PySem.W.alike x y && !isNone x && decide (min x.depth y.depth ≤ 60)
def ltD (x y : D) : Option Bool := if ltOk x y then some (PySem.W.dataLt x y) else none
def geD (x y : D) : Option Bool := if ltOk x y then some (!PySem.W.dataLt x y) else none
def gtD (x y : D) : Option Bool := if ltOk x y then some (PySem.W.dataLt y x) else none
def leD (x y : D) : Option Bool := if ltOk x y then some (!PySem.W.dataLt y x) else none
def inD (x : D) : D → Option Bool
  | .list ys => if x.plain && PyData.plainAll ys && decide (x.depth ≤ 60) then some (ys.any fun y => PyData.eqv y x) else none
  | .tuple ys => if x.plain && PyData.plainAll ys && decide (x.depth ≤ 60) then some (ys.any fun y => PyData.eqv y x) else none
  | _ => none
def isD (x y : D) : Option Bool := match x, y with
  | .none, .none => some true
  | .bool _, .none | .int _, .none | .str _, .none | .tuple _, .none | .list _, .none => some false
  | .bool a, .bool b => some (decide (a = b))
  | _, _ => none
def cmpD : COp → D → D → Option Bool
  | .eq => eqD
  | .ne => fun x y => (eqD x y).map (!·)
  | .lt => ltD
  | .gt => gtD
  | .le => leD
  | .ge => geD
  | .isn => isD
  | .isnot => fun x y => (isD x y).map (!·)
  | .isin => inD
  | .notin => fun x y => (inD x y).map (!·)
def maxL : List Int → Int → Int
  | [], m => m
  | x :: r, m => maxL r (if m < x then x else m)
def minL : List Int → Int → Int
  | [], m => m
  | x :: r, m => minL r (if x < m then x else m)
def lenD : D → Option D
  | .list xs => some (.int xs.length)
  | .tuple xs => some (.int xs.length)
  | _ => none
def absD : D → Option D
  | .int i => some (.int i.natAbs)
  | _ => none
def allD : D → Option D
  | .list xs => (boolsOf xs).map fun bs => .bool (bs.all id)
  | _ => none
def anyD : D → Option D
  | .list xs => (boolsOf xs).map fun bs => .bool (bs.any id)
  | _ => none
def sumD : D → Option D
  | .list xs => (intsOf xs).map fun ns => .int ns.sum
  | _ => none
def listsOf : List D → Option (List (List Int))
  | [] => some []
  | .list xs :: r => match intsOf xs, listsOf r with
    | some k, some ks => some (k :: ks)
    | _, _ => none
  | _ => none
def maxK : List (List Int) → List Int → List Int
  | [], m => m
  | x :: r, m => maxK r (if m < x then x else m)
def maxKD (xs : List D) : Option D := match listsOf xs with
  | some (k :: ks) => some (.list ((maxK ks k).map .int))
  | _ => none
def maxD : D → Option D
  | .list xs => match intsOf xs with
    | some (n :: ns) => some (.int (maxL ns n))
    | _ => maxKD xs
  | _ => none
def minD : D → Option D
  | .list xs => match intsOf xs with
    | some (n :: ns) => some (.int (minL ns n))
    | _ => none
  | _ => none
def tupD : D → Option D
  | .list xs => some (.tuple xs)
  | .tuple xs => some (.tuple xs)
  | _ => none
def reprD (d : D) : Option D := if d.plain && d.showable && decide (d.shown.length ≤ 16777216) && decide (d.depth ≤ 60) then some (.str d.shown) else none
def intD : D → Option D
  | .bool b => some (.int (if b then 1 else 0))
  | .int i => some (.int i)
  | _ => none
def strD : D → Option D
  | .int i => if decide (i.natAbs.log2 < 1920) then some (.str (toString i)) else none
  | _ => none
def b1D : B1 → D → Option D
  | .len => lenD
  | .abs => absD
  | .all => allD
  | .any => anyD
  | .sum => sumD
  | .max => maxD
  | .min => minD
  | .tuple => tupD
  | .repr => reprD
  | .str => strD
  | .int => intD
def b2D : B2 → D → D → Option D
  | .max, .int i, .int j => some (.int (if i < j then j else i))
  | .min, .int i, .int j => some (.int (if j < i then j else i))
  | _, _, _ => none
def isiD (d : D) (t : Ty) : Option Bool := if d.plain then some (match t with
  | .int => d.isInt
  | .bool => d.isBool
  | .tuple => d.isTuple
  | .list => d.isList
  | .str => d.isStr) else none
def dget : List (D × D) → D → Option D
  | [], _ => none
  | (k, v) :: r, x => if PyData.eqv k x then some v else dget r x
def dput : List (D × D) → D → D → List (D × D)
  | [], x, v => [(x, v)]
  | (k, w) :: r, x, v => if PyData.eqv k x then (k, v) :: r else (k, w) :: dput r x v
/-- a key: a tuple of ints -/
def isKey : D → Bool
  | .tuple xs => (intsOf xs).isSome
  | _ => false
def ixD : D → D → Option D
  | .list xs, .int i => atI xs i
  | .tuple xs, .int i => atI xs i
  | _, _ => none
/-- xs[lo:hi] -/
def cutD (xs : List D) (lo hi : Option Int) : List D := (xs.drop (HT.sIx xs.length 0 lo)).take (HT.sIx xs.length xs.length hi - HT.sIx xs.length 0 lo)
def slD : D → Option Int → Option Int → Option D
  | .tuple xs, lo, hi => some (.tuple (cutD xs lo hi))
  | .list xs, lo, hi => some (.list (cutD xs lo hi))
  | _, _, _ => none
/-- falling -/
def sortK (ks : List (List Int)) : List (List Int) := ks.mergeSort fun a b => !decide (a < b)
def keysI : List (D × D) → Option (List (List Int))
  | [] => some []
  | (.tuple xs, _) :: r => match intsOf xs, keysI r with
    | some k, some ks => some (k :: ks)
    | _, _ => none
  | _ => none
def sortD : D → Option D
  | .dict es => match keysI es with
    | some ks => if ks.all fun k => !k.isEmpty then some (.list ((sortK ks).map fun k => .tuple (k.map .int))) else none
    | none => none
  | _ => none
def pairsD : List D → Option (List (D × D))
  | [] => some []
  | .tuple [k, v] :: r => if isKey k then (pairsD r).map ((k, v) :: ·) else none
  | _ => none
def dictD (es : List (D × D)) : List (D × D) := es.foldl (fun c p => dput c p.1 p.2) []
def dictOfD : D → Option D
  | .tuple xs => if sizeOkN xs.length then (pairsD xs).map fun es => .dict (dictD es) else none
  | _ => none

/-- every second one -/
def evens {α : Type} : List α → List α
  | [] => []
  | [x] => [x]
  | x :: _ :: r => x :: evens r
/-- t[::2], t[::-1] -/
def slStD (s : Int) : D → Option D
  | .tuple xs => if s = 2 then some (.tuple (evens xs)) else if s = -1 then some (.tuple xs.reverse) else none
  | _ => none
/-! slots -/
def look (μ : Mu) (i : Nat) : Option D := match μ[i]? with
  | some (.val d) => some d
  | _ => none
def peek (μ : Mu) (i : Nat) : Option D := match μ[i]? with
  | some (.val d) => some d
  | some (.own d) => some d
  | some (.lck d) => some d
  | _ => none
def owned (μ : Mu) (i : Nat) : Option D := match μ[i]? with
  | some (.own d) => some d
  | _ => none
def heldD (μ : Mu) (i : Nat) : Option D := match μ[i]? with
  | some (.own d) => some d
  | some (.lck d) => some d
  | _ => none
def isLck (μ : Mu) (i : Nat) : Bool := match μ[i]? with
  | some (.lck _) => true
  | _ => false
def setAll : List Nat → List D → Mu → Option Mu
  | [], [], μ => some μ
  | i :: is, d :: ds, μ => if isLck μ i then none else setAll is ds (setN i d μ)
  | _, _, _ => none
/-- two values that a walk hands out at once (no value of a slot) -/
def pairD (x y : D) : D := .dict [(.none, .tuple [x, y])]
def isPair : D → Bool
  | .dict [(.none, _)] => true
  | _ => false
def setT (t : List Nat) (tup : Bool) (d : D) (μ : Mu) : Option Mu := match tup with
  | false => if isPair d then none else setAll t [d] μ
  | true => match d with
    | .tuple xs => setAll t xs μ
    | .dict [(.none, .tuple xs)] => setAll t xs μ
    | _ => none
/-- a comprehension's own names -/
def wipeL (μ : Mu) : List Nat → Mu
  | [] => μ
  | v :: vs => (wipeL μ vs).set v .no
def freeAll (t : List Nat) (μ : Mu) : Bool := t.all fun i => match μ[i]? with
  | some s => !s.held
  | none => false
def wipeM (t : List Nat) (μ : Mu) : Option Mu := if freeAll t μ then some (wipeL μ t) else none
/-- slots put back as they stood -/
def backL (μ0 μ : Mu) : List Nat → Mu
  | [] => μ
  | v :: vs => (backL μ0 μ vs).set v (μ0.getD v .no)
def lockM (o : Option Nat) (μ : Mu) : Mu := match o with
  | some i => match μ[i]? with
    | some (.own d) => μ.set i (.lck d)
    | _ => μ
  | none => μ
def unlockM (o : Option Nat) (μ0 μ : Mu) : Mu := match o with
  | some i => match μ0[i]?, μ[i]? with
    | some (.own _), some (.lck d) => μ.set i (.own d)
    | _, _ => μ
  | none => μ
/-- a, b, .. = a list -/
def setL (is : List Nat) (d : D) (μ : Mu) : Option Mu := match d with
  | .list xs => setAll is xs μ
  | _ => none
def frzM (i : Nat) (μ : Mu) : Option Mu := match μ[i]? with
  | some (.own d) => some (μ.set i (.val d))
  | some (.val d) => some μ
  | _ => none

/-! loops -/
def compL (f : D → Mu → Rs (Option D)) : List D → List D → Mu → Rs (List D)
  | [], acc, μ => .ok acc μ
  | d :: r, acc, μ => (f d μ).bind fun o μ1 => match o with
    | some x => compL f r (acc ++ [x]) μ1
    | none => compL f r acc μ1
def forL (f : D → Mu → Rs Fl) : List D → Mu → Rs Fl
  | [], μ => .ok .nx μ
  | d :: r, μ => (f d μ).bind fun fl μ1 => match fl with
    | .nx => forL f r μ1
    | .rt v => .ok (.rt v) μ1
    | .rf _ => .st
def whlL (c : Mu → Rs Bool) (f : Mu → Rs Fl) : Nat → Mu → Rs Fl
  | 0, _ => .st
  | n + 1, μ => (c μ).bind fun b μ1 => match b with
    | false => .ok .nx μ1
    | true => (f μ1).bind fun fl μ2 => match fl with
      | .nx => whlL c f n μ2
      | .rt v => .ok (.rt v) μ2
      | .rf _ => .st

/-! arguments of a call -/
inductive Ag where | v (d : D) | io (i : Nat)
def argSl (μ : Mu) : List Ag → Option (List Sl)
  | [] => some []
  | .v d :: r => (argSl μ r).map (.val d :: ·)
  | .io i :: r => match owned μ i with
    | some d => (argSl μ r).map (.own d :: ·)
    | none => none
def ioNd : List Ag → List Nat
  | [] => []
  | .v _ :: r => ioNd r
  | .io i :: r => i :: ioNd r
def outM : List Nat → List D → Mu → Option Mu
  | [], [], μ => some μ
  | i :: is, d :: ds, μ => outM is ds (μ.set i (.own d))
  | _, _, _ => none

def toB (d : D) : Option Bool := match d with
  | .bool b => some b
  | _ => none
def bitOf (r : Rs D) : Rs Bool := r.bind fun d μ => Rs.opt (toB d) μ
def toI (d : D) : Option Int := match d with
  | .int b => some b
  | _ => none
def rangeD (lo : Int) (n : Nat) : List D := (List.range n).map fun (k : Nat) => .int (lo + (k : Int))
def rangeC (lo c : Int) (n : Nat) : List D := (List.range n).map fun (k : Nat) => .int (lo + (k : Int) * c)
def smallI (i : Int) : Bool := decide (-(2 ^ 61) ≤ i) && decide (i < 2 ^ 61)
def seqD : D → Option (List D)
  | .list xs => some xs
  | .tuple xs => some xs
  | _ => none
/-- two of one kind -/
def sameSeq (x y : D) : Bool := match x, y with
  | .list _, .list _ => true
  | .tuple _, .tuple _ => true
  | _, _ => false
def zipD (xs ys : List D) : List D := (xs.zip ys).map fun p => pairD p.1 p.2
def enumD (xs : List D) : List D := xs.zipIdx.map fun p => pairD (.int (p.2 : Int)) p.1

/-- what is looked at, once more behind the other operands -/
def look2 (p : P) (x : D) (μ : Mu) : Option D := match p with
  | .pk i => peek μ i
  | .e _ => some x
/-! own objects changed -/
def popE (i : Nat) (y : D) (μ1 : Mu) : Rs D := match owned μ1 i, y with
  | some (.list xs), .int j => match ixN xs.length j with
    | some k => Rs.opt xs[k]? (μ1.set i (.own (.list (xs.eraseIdx k))))
    | none => .st
  | _, _ => .st
def appE (i : Nat) (v : D) (μ1 : Mu) : Option Mu := match owned μ1 i with
  | some (.list xs) => if sizeOkN (xs.length + 1) then some (μ1.set i (.own (.list (xs ++ [v])))) else none
  | _ => none
def extE (i : Nat) (v : D) (μ1 : Mu) : Option Mu := match owned μ1 i, seqD v with
  | some (.list xs), some ys => if sizeOkN (xs.length + ys.length) then some (μ1.set i (.own (.list (xs ++ ys)))) else none
  | _, _ => none
def insE (i : Nat) (k v : D) (μ2 : Mu) : Option Mu := match owned μ2 i, k with
  | some (.list xs), .int j => if decide (0 ≤ j) && decide (j ≤ xs.length) && sizeOkN (xs.length + 1) then some (μ2.set i (.own (.list (xs.take j.toNat ++ v :: xs.drop j.toNat)))) else none
  | _, _ => none
def setE (i : Nat) (k v : D) (μ2 : Mu) : Option Mu := match owned μ2 i, k with
  | some (.list xs), .int j => match ixN xs.length j with
    | some n => some (μ2.set i (.own (.list (xs.set n v))))
    | none => none
  | _, _ => none
def dsetE (i : Nat) (y v : D) (μ2 : Mu) : Option Mu := match owned μ2 i with
  | some (.dict es) => if isKey y && sizeOkN (es.length + 1) then some (μ2.set i (.own (.dict (dput es y v)))) else none
  | _ => none
def ownsL (i : Nat) (μ : Mu) : Bool := match owned μ i with
  | some (.list _) => true
  | _ => false
def ownsA (i : Nat) (μ : Mu) : Bool := (owned μ i).isSome
def Rs.nx (o : Option Mu) : Rs Fl := match o with
  | some μ => .ok .nx μ
  | none => .st
def heldP (p : P) (x : D) (μ : Mu) : Option D := match p with
  | .pk i => heldD μ i
  | .e _ => some x
def catE (pa pb : P) (x y : D) (μ2 : Mu) : Rs D := match heldP pa x μ2, heldP pb y μ2 with
    | some (.list xs), some (.list ys) => if sizeOkN (xs.length + ys.length) then .ok (.list (xs ++ ys)) μ2 else .st
    | _, _ => .st
def repE (pa : P) (x y : D) (μ2 : Mu) : Rs D := match heldP pa x μ2, y with
    | some (.list xs), .int j => if decide (0 ≤ j) && decide (j < 2 ^ 62) && sizeOkN (xs.length * j.toNat) then .ok (.list (List.replicate j.toNat xs).flatten) μ2 else .st
    | _, _ => .st
def isDict : D → Bool
  | .dict _ => true
  | _ => false
def dict2E (x y z w : D) (μ : Mu) : Rs D := if isKey x && isKey z then .ok (.dict (dput (dput [] x y) z w)) μ else .st
def dixE (p : P) (x y : D) (μ2 : Mu) : Rs D := match look2 p x μ2 with
  | some (.dict es) => if isKey y then Rs.opt (dget es y) μ2 else .st
  | _ => .st
def getE (p : P) (x y z : D) (μ3 : Mu) : Rs D := match look2 p x μ3 with
  | some (.dict es) => if isKey y then .ok ((dget es y).getD z) μ3 else .st
  | _ => .st
/-- what an except clause does -/
def hdR (h : Hd) (t : Bool) (μ : Mu) : Rs Fl := Rs.nx ((match h.pre with
  | some d => setAll [h.j] [d] μ
  | none => some μ).bind fun (μ2 : Mu) => (if t then setAll [h.j] [h.v] μ2 else some μ2).bind fun (μ3 : Mu) => wipeM [h.i] μ3)
def catchR (h : Hd) (r : Rs Fl) : Rs Fl := match r with
  | .ok fl μ => .ok fl μ
  | .ex x μ => match h.tab[x.cls]? with
    | some (some t) => hdR h t μ
    | _ => .ex x μ
  | .st => .st
section
variable (F : Nat → List Sl → FR)
/-- a call by what the def gives -/
def callG (G : List Sl → FR) (as : List Ag) (μ : Mu) : Rs D :=
  if (ioNd as).Nodup then
    match argSl μ as with
    | none => .st
    | some sl => match G sl with
      | .ok d outs => match outM (ioNd as) outs μ with
        | some μ' => .ok d μ'
        | none => .st
      | .ex x outs => match outM (ioNd as) outs μ with
        | some μ' => .ex x μ'
        | none => .st
      | _ => .st
  else .st
/-- a call that gives a new object -/
def callH (G : List Sl → FR) (as : List Ag) (μ : Mu) : Rs D :=
  if (ioNd as).Nodup then
    match argSl μ as with
    | none => .st
    | some sl => match G sl with
      | .fr d outs => match outM (ioNd as) outs μ with
        | some μ' => .ok d μ'
        | none => .st
      | .ex x outs => match outM (ioNd as) outs μ with
        | some μ' => .ex x μ'
        | none => .st
      | _ => .st
  else .st
def callR (f : Nat) (as : List Ag) (μ : Mu) : Rs D := callG (F f) as μ

def pksP : P → Option Nat
  | .pk i => some i
  | .e _ => none
def pks : I → Option Nat
  | .seq p => pksP p
  | .enum p => pksP p
  | .rev p => pksP p
  | _ => none
mutual
def ev : E → Mu → Rs D
  | .var i, μ => Rs.opt (look μ i) μ
  | .int i, μ => .ok (.int i) μ
  | .bl b, μ => .ok (.bool b) μ
  | .str x, μ => .ok (.str x) μ
  | .non, μ => .ok .none μ
  | .glob _ d, μ => .ok d μ
  | .bin op a b, μ => (ev a μ).bind fun x μ1 => (ev b μ1).bind fun y μ2 => Rs.opt (binD op x y) μ2
  | .neg a, μ => (ev a μ).bind fun x μ1 => Rs.opt ((toI x).map fun i => .int (-i)) μ1
  | .cmp op a b, μ => (evP a μ).bind fun x μ1 => (evP b μ1).bind fun y μ2 => Rs.opt ((look2 a x μ2).bind fun x' => (cmpD op x' y).map .bool) μ2
  | .and es, μ => evAnd es μ
  | .or es, μ => evOr es μ
  | .not a, μ => (bitOf (ev a μ)).bind fun b μ1 => .ok (.bool (!b)) μ1
  | .ife c a b, μ => (bitOf (ev c μ)).bind fun t μ1 => match t with
    | true => ev a μ1
    | false => ev b μ1
  | .tup es, μ => (evs es μ).bind fun xs μ1 => .ok (.tuple xs) μ1
  | .ix a b, μ => (evP a μ).bind fun x μ1 => (ev b μ1).bind fun y μ2 => Rs.opt ((look2 a x μ2).bind fun x' => ixD x' y) μ2
  | .sl a lo hi, μ => (evP a μ).bind fun x μ1 => (evO lo μ1).bind fun l μ2 => (evO hi μ2).bind fun h μ3 => Rs.opt ((look2 a x μ3).bind fun x' => slD x' l h) μ3
  | .slSt a s, μ => (ev a μ).bind fun x μ1 => Rs.opt (slStD s x) μ1
  | .fre f, μ => evF f μ
  | .call f as, μ => (evAs as μ).bind fun xs μ1 => callR F f xs μ1
  | .b1 b p, μ => (evP p μ).bind fun x μ1 => Rs.opt (b1D b x) μ1
  | .b2 b p q, μ => (ev p μ).bind fun x μ1 => (ev q μ1).bind fun y μ2 => Rs.opt (b2D b x y) μ2
  | .isi a t, μ => (ev a μ).bind fun x μ1 => Rs.opt ((isiD x t).map .bool) μ1
  | .dix p k, μ => (evP p μ).bind fun x μ1 => (ev k μ1).bind fun y μ2 => dixE p x y μ2
  | .get p k d, μ => (evP p μ).bind fun x μ1 => if isDict x then (ev k μ1).bind fun y μ2 => (ev d μ2).bind fun z μ3 => getE p x y z μ3 else .st
  | .pop i b, μ => if ownsL i μ then (ev b μ).bind fun y μ1 => popE i y μ1 else .st
def evs : Es → Mu → Rs (List D)
  | .nil, μ => .ok [] μ
  | .cons e es, μ => (ev e μ).bind fun x μ1 => (evs es μ1).bind fun xs μ2 => .ok (x :: xs) μ2
def evAnd : Es → Mu → Rs D
  | .nil, _ => .st
  | .cons e .nil, μ => (bitOf (ev e μ)).bind fun b μ1 => .ok (.bool b) μ1
  | .cons e es, μ => (bitOf (ev e μ)).bind fun b μ1 => match b with
    | true => evAnd es μ1
    | false => .ok (.bool false) μ1
def evOr : Es → Mu → Rs D
  | .nil, _ => .st
  | .cons e .nil, μ => (bitOf (ev e μ)).bind fun b μ1 => .ok (.bool b) μ1
  | .cons e es, μ => (bitOf (ev e μ)).bind fun b μ1 => match b with
    | true => .ok (.bool true) μ1
    | false => evOr es μ1
def evP : P → Mu → Rs D
  | .e e, μ => ev e μ
  | .pk i, μ => Rs.opt (peek μ i) μ
/-- a new object, or a slot's own -/
def evH : P → Mu → Rs D
  | .e (.fre f), μ => evF f μ
  | .pk i, μ => Rs.opt (heldD μ i) μ
  | _, _ => .st
def evO : O → Mu → Rs (Option Int)
  | .none, μ => .ok none μ
  | .some e, μ => (ev e μ).bind fun x μ1 => Rs.opt ((toI x).map some) μ1
def evA : A → Mu → Rs Ag
  | .v e, μ => (ev e μ).bind fun d μ1 => .ok (.v d) μ1
  | .io i, μ => match owned μ i with
    | some _ => .ok (.io i) μ
    | none => .st
def evAs : As → Mu → Rs (List Ag)
  | .nil, μ => .ok [] μ
  | .cons a as, μ => (evA a μ).bind fun x μ1 => (evAs as μ1).bind fun xs μ2 => .ok (x :: xs) μ2
def evF : FE → Mu → Rs D
  | .disp es, μ => (evs es μ).bind fun xs μ1 => .ok (.list xs) μ1
  | .comp elt t tup it c, μ => (evI it μ).bind fun xs μ1 =>
      (compL (fun d m => Rs.nox (match (wipeM t m).bind (setT t tup d) with
        | none => .st
        | some m1 => match c with
          | .none => (ev elt m1).bind fun y m2 => .ok (some y) (backL m m2 t)
          | .some e => (bitOf (ev e m1)).bind fun b m2 => match b with
            | true => (ev elt m2).bind fun y m3 => .ok (some y) (backL m m3 t)
            | false => .ok none (backL m m2 t))) xs [] (lockM (pks it) μ1)).bind fun ys μ2 => .ok (.list ys) (unlockM (pks it) μ1 μ2)
  | .listOf it, μ => (evI it μ).bind fun xs μ1 => .ok (.list xs) μ1
  | .cat a b, μ => (evH a μ).bind fun x μ1 => (evH b μ1).bind fun y μ2 => catE a b x y μ2
  | .rep a b, μ => (evH a μ).bind fun x μ1 => (ev b μ1).bind fun y μ2 => repE a x y μ2
  | .call f as, μ => (evAs as μ).bind fun xs μ1 => callH (F f) xs μ1
  | .sortedRev p, μ => (evP p μ).bind fun x μ1 => Rs.opt (sortD x) μ1
  | .dict0, μ => .ok (.dict []) μ
  | .dict2 a b c d, μ => (ev a μ).bind fun x μ1 => (ev b μ1).bind fun y μ2 => (ev c μ2).bind fun z μ3 => (ev d μ3).bind fun w μ4 => dict2E x y z w μ4
  | .dictOf a, μ => (ev a μ).bind fun x μ1 => Rs.opt (dictOfD x) μ1
def evI : I → Mu → Rs (List D)
  | .seq p, μ => (evP p μ).bind fun x μ1 => Rs.opt (seqD x) μ1
  | .rng1 a, μ => (ev a μ).bind fun x μ1 => match x with
    | .int j => if smallI j && sizeOkN j.toNat then .ok (rangeD 0 j.toNat) μ1 else .st
    | _ => .st
  | .rng2 a b, μ => (ev a μ).bind fun x μ1 => (ev b μ1).bind fun y μ2 => match x, y with
    | .int i, .int j => if smallI i && smallI j && sizeOkN (j - i).toNat then .ok (rangeD i (j - i).toNat) μ2 else .st
    | _, _ => .st
  | .rng3 a b c, μ => (ev a μ).bind fun x μ1 => (ev b μ1).bind fun y μ2 => (ev c μ2).bind fun z μ3 => match x, y, z with
    | .int i, .int j, .int c => if smallI i && smallI j && decide (c = -1) && sizeOkN (i - j).toNat then .ok (rangeC i (-1) (i - j).toNat) μ3 else .st
    | _, _, _ => .st
  | .zip a b, μ => (ev a μ).bind fun x μ1 => (ev b μ1).bind fun y μ2 => match (if sameSeq x y then seqD x else none), seqD y with
    | some xs, some ys => .ok (zipD xs ys) μ2
    | _, _ => .st
  | .enum p, μ => (evP p μ).bind fun x μ1 => match seqD x with
    | some xs => .ok (enumD xs) μ1
    | none => .st
  | .rev p, μ => (evP p μ).bind fun x μ1 => match seqD x with
    | some xs => .ok xs.reverse μ1
    | none => .st
  | .revr a, μ => (ev a μ).bind fun x μ1 => match x with
    | .int j => if smallI j && sizeOkN j.toNat then .ok (rangeC (j - 1) (-1) j.toNat) μ1 else .st
    | _ => .st
end
variable (W : Nat)
mutual
def exec : S → Mu → Rs Fl
  | .asg i e, μ => (ev F e μ).bind fun d μ1 => match setAll [i] [d] μ1 with
    | some μ2 => .ok .nx μ2
    | none => .st
  | .own i f, μ => (evF F f μ).bind fun d μ1 => if isLck μ1 i then .st else .ok .nx (μ1.set i (.own d))
  | .par i j a b, μ => (ev F a μ).bind fun x μ1 => (ev F b μ1).bind fun y μ2 => match setAll [i, j] [x, y] μ2 with
    | some μ3 => .ok .nx μ3
    | none => .st
  | .unp is e, μ => (ev F e μ).bind fun d μ1 => match setT is true d μ1 with
    | some μ2 => .ok .nx μ2
    | none => .st
  | .unpL is e, μ => (ev F e μ).bind fun d μ1 => Rs.nx (setL is d μ1)
  | .seti i k e, μ => (ev F e μ).bind fun v μ1 => if ownsA i μ1 then (ev F k μ1).bind fun y μ2 => Rs.nx (setE i y v μ2) else .st
  | .dset i k e, μ => (ev F e μ).bind fun v μ1 => if ownsA i μ1 then (ev F k μ1).bind fun y μ2 => Rs.nx (dsetE i y v μ2) else .st
  | .app i e, μ => if ownsL i μ then (ev F e μ).bind fun v μ1 => Rs.nx (appE i v μ1) else .st
  | .ext i e, μ => if ownsL i μ then (ev F e μ).bind fun v μ1 => Rs.nx (extE i v μ1) else .st
  | .ins i a b, μ => if ownsL i μ then (ev F a μ).bind fun k μ1 => (ev F b μ1).bind fun v μ2 => Rs.nx (insE i k v μ2) else .st
  | .app2 _ _ _, _ => .st
  | .ex e, μ => (ev F e μ).bind fun _ μ1 => .ok .nx μ1
  | .ife c a b, μ => (bitOf (ev F c μ)).bind fun t μ1 => match t with
    | true => execs a μ1
    | false => execs b μ1
  | .whl c b, μ => whlL (fun m => bitOf (ev F c m)) (fun m => execs b m) W μ
  | .for_ t tup it b, μ => (evI F it μ).bind fun xs μ1 => Rs.mu (unlockM (pks it) μ1) (forL (fun d m => match setT t tup d m with
      | some m1 => execs b m1
      | none => .st) xs (lockM (pks it) μ1))
  | .ret e, μ => (ev F e μ).bind fun d μ1 => .ok (.rt d) μ1
  | .retF f, μ => (evF F f μ).bind fun d μ1 => .ok (.rf d) μ1
  | .pass, μ => .ok .nx μ
  | .never, _ => .st
  | .rse c _, μ => .ex ⟨c, []⟩ μ
  | .tryX b h, μ => catchR h (execs b μ)
def execs : Ss → Mu → Rs Fl
  | .nil, μ => .ok .nx μ
  | .cons s r, μ => (exec s μ).bind fun fl μ1 => match fl with
    | .nx => execs r μ1
    | fl => .ok fl μ1
  | .frz i r, μ => match frzM i μ with
    | some μ1 => execs r μ1
    | none => .st
end
end

/-! a program -/
structure Fn where
  nm : Str
  ps : List Str
  N : List Str
  io : List Nat
  body : Ss
/-- where the lent objects stand -/
def ownPos : Nat → List Sl → List Nat
  | _, [] => []
  | n, .own _ :: r => n :: ownPos (n + 1) r
  | n, _ :: r => ownPos (n + 1) r
def outsOf (io : List Nat) (μ : Mu) : Option (List D) := match io with
  | [] => some []
  | i :: r => match owned μ i, outsOf r μ with
    | some d, some ds => some (d :: ds)
    | _, _ => none
def runFn (F : Nat → List Sl → FR) (W : Nat) (fn : Fn) (args : List Sl) : FR :=
  if decide (args.length = fn.ps.length) && decide (fn.io = ownPos 0 args) then
    match execs F W fn.body (args ++ List.replicate (fn.N.length - fn.ps.length) .no) with
    | .ok fl μ => match outsOf fn.io μ with
      | some outs => match fl with
        | .nx => .ok .none outs
        | .rt d => .ok d outs
        | .rf d => .fr d outs
      | none => .st
    | .ex x μ => match outsOf fn.io μ with
      | some outs => .ex x outs
      | none => .st
    | .st => .st
  else .st
/-- what the defs give, to a depth of calls -/
def sem (P : List Fn) (W : Nat) : Nat → Nat → List Sl → FR
  | 0, _, _ => .st
  | k + 1, f, args => match P[f]? with
    | some fn => runFn (sem P W k) W fn args
    | none => .st
end Mn
set_option Elab.async false
set_option linter.all false
set_option maxRecDepth 100000
set_option autoImplicit false
namespace Mn
open PySem PySem.Spec L2

/-! ## a def's promise where no repr runs around -/
structure FnG (P : Program) (w : World) (K : PySem.W.Frag) (mg : Str → Option Value) (base : Heap) (CX : CXT) (k : Nat) (f : Addr) (fd : FuncData) (ps : List Str) (sp : Sp) : Prop where
  len : ∀ vs H Q E, sp vs H Q E → vs.length = ps.length
  run : ∀ (A : Around) (outer : List Env) (s : Shared) (H : Hp) (args : Args) (us : List Value) (vs : List V) (Q : VK) (E : XK), Room k A → A.guards = some [] → Env0 P w K mg base A outer s H →
    BindsTo s fd args (ps.zip us) → Vals vs us → sp vs H Q E → codeAny (model P w) A (.call (.ref f) args) (CR CX outer P w H s Q E) s

section
variable {P : Program} {w : World} {K : PySem.W.Frag} {mg : Str → Option Value} {base : Heap} {CX : CXT}
/-- a def by its body -/
theorem fnG_of {k : Nat} {f : Addr} {name qual : Str} {params : Arguments} {body : List Stmt} {scope : Scope} {dV kV doc pm cdv ct oc : Value} {an od : Option Addr} {osl : Array (Option Value)} {N ps : List Str} {sp : Sp}
    (lk : K.lookup f = some ⟨oc, od, .func (PySem.W.fnOf name qual params body scope dV kV doc pm an cdv ct), osl⟩) (hcd : PySem.W.codeIn K cdv qual = true) (S : FnScope N ps scope)
    (len : ∀ vs H Q E, sp vs H Q E → vs.length = ps.length)
    (hbody : ∀ (A : Around) (outer : List Env) (s : Shared) (H : Hp) (vs : List V) (Q : VK) (E : XK), Room k (A.deeper (PyProof.Rows.envOfC qual scope s.heap.objs.size f cdv)) → A.guards = some [] → sp vs H Q E →
      ∃ t, PSs (cxOf CX P w K mg base N qual scope f cdv A outer s H E) body t ∧ t { nx := fun _ H' => Q .non H', rt := Q } (L2.start N vs) H) :
    FnG P w K mg base CX (k + 1) f (PySem.W.fnOf name qual params body scope dV kV doc pm an cdv ct) ps sp where
  len := len
  run := by
    intro A outer s H args us vs Q E room hg env bind vals prom
    have inK : K.In s.heap := env.mod.kin.keeps (fun b o e => (env.bs b o e).1)
    have noLim : s.heap.NoLimit := env.mod.nolimit.keeps (fun b o e => (env.bs b o e).1)
    have kinds : ∀ y ∈ ps.zip us, scope.names.lookup y.1 = some .local ∨ (scope.names.lookup y.1 = some .cell ∧ ((cellsFrom (s.heap.objs.size + 1) scope.names []).lookup y.1).isSome = true) := by
      rintro ⟨n, v⟩ hy
      cases S.par n (List.of_mem_zip hy).1 with
      | inl q => exact .inl q
      | inr q => exact .inr ⟨q, PySem.W.cellsFrom_some _ _ _ (.inl q)⟩
    apply codeAny_call_function room.depth (inK _ _ lk) rfl S.co S.gen rfl (PySem.W.codeRec_of inK hcd)
    apply bind
    apply wpAny_newFunctionEnv_cells S.kind kinds
    intro e he s1 x
    subst he
    refine ⟨noLim.keeps x.toInCall.keep, codeAny_func ?_⟩
    obtain ⟨t, ht, hq⟩ := hbody A outer s H vs Q E (room.deeper _) hg prom
    have inv := inv_start (CX := CX) (E := E) S room.hd env (len _ _ _ _ prom) vals x
    apply wpAny_mono (ht.run [] s1 _ H _ inv hq)
    · intro fl s' hs
      cases fl with
      | ret u => obtain ⟨v, _, H', J, rv, q⟩ := hs; exact ⟨v, H', J.os, J.bare, J.base, J.hok, rv, q⟩
      | next => obtain ⟨_, H', J, q⟩ := hs; exact ⟨V.non, H', J.os, J.bare, J.base, J.hok, rfl, q⟩
      | brk => obtain ⟨_, _, _, q⟩ := hs; exact q.elim
      | cont => obtain ⟨_, _, _, q⟩ := hs; exact q.elim
    · intro e s' hs; exact hs
end
end Mn
set_option Elab.async false
set_option linter.all false
set_option maxRecDepth 100000
set_option autoImplicit false
set_option maxHeartbeats 4000000
namespace Mn
open PySem PySem.Spec L2 PyProof.Rows
/-! ## rules of the model that the layer lacks -/
/-- a tuple once: itself -/
theorem tup_once (l : Addr) (items : Array Value) (n : Nat) (dd : Option Addr) (sl : Array (Option Value)) (u : Tok) :
    Meets (Builtin.«tuple.__mul__» ⟨[.ref l, .int 1 u], []⟩) (fun _ R s => s.heap.get? l = some { cls := .type "tuple", dict := dd, data := .seq items n, slots := sl } ∧ R (.ok (.ret (.ref l))) s) :=
  .of_wp fun prog w A R s h => by
    obtain ⟨hp, g, d, tk, os⟩ := s
    obtain ⟨hl, h⟩ := h
    have f1 := AutoSeq1.idx_int
    have c1 : (items.isEmpty || (1 : Int) == 1) = true := by simp
    wp_walk using wpAny_loadPart' hl
    repeat (first
      | (refine wpAny_ite_true (decide_eq_true c1) ?_; wp_walk using wpAny_loadPart' hl)
      | (refine wpAny_ite_false (decide_eq_false (by decide)) ?_; wp_walk using wpAny_loadPart' hl))
    exact ⟨_, rfl, h⟩
/-- a tuple no times -/
theorem tup_nought (l : Addr) (items : Array Value) (n : Nat) (dd : Option Addr) (sl : Array (Option Value)) (u : Tok) (ne : items.isEmpty = false) :
    Meets (Builtin.«tuple.__mul__» ⟨[.ref l, .int 0 u], []⟩) (fun _ R s => s.heap.get? l = some { cls := .type "tuple", dict := dd, data := .seq items n, slots := sl } ∧ R (.ok (.ret (.ref s.heap.objs.size))) { s with heap := s.heap.push { cls := Value.type "tuple", data := Data.seq #[] }, toks := s.toks }) :=
  .of_wp fun prog w A R s h => by
    obtain ⟨hp, g, d, tk, os⟩ := s
    obtain ⟨hl, h⟩ := h
    have f1 := AutoSeq1.idx_int
    have c1 : ¬ (items.isEmpty || (0 : Int) == 1) = true := by rw [ne]; decide
    wp_walk using wpAny_loadPart' hl
    repeat (first
      | (refine wpAny_ite_false (decide_eq_false c1) ?_; wp_walk using wpAny_loadPart' hl)
      | (refine wpAny_ite_true (decide_eq_true (by rw [ne]; decide)) ?_; wp_walk using wpAny_loadPart' hl)
      | (refine wpAny_ite_false (decide_eq_false (by decide)) ?_; wp_walk using wpAny_loadPart' hl))
    exact ⟨_, rfl, h⟩
def rRep1 (K : PySem.W.Frag) : R2 := fun x y H Q => ∃ l xs, x = .ref l ∧ y = .int 1 ∧ SqT K H l xs ∧ Q (.ref l) H
theorem op_repT1 {X : Cx} : OpR X (binaryOp .Mult) (rRep1 X.K) := by
  rintro pins s σ H x y v u Q I rx ry ⟨l, xs, rfl, rfl, hT, q⟩
  cases rx
  obtain ⟨t, rfl⟩ := ry
  obtain ⟨its, r, ⟨⟨cls, dd, data, sl⟩, ho, hc, n, hd⟩, hs⟩ := I.tuple hT
  simp only at hc hd
  subst hc hd
  exact wpAny_binaryOp_repeat_ref (T := "tuple") (U := "int") (by decide) ⟨_, ho, rfl⟩ (fun s' => typeIs_int s' 1 t) noFill_tuple_mul F.fills_int_mul F.slot_int_rmul repeat_tuple F.slot_int_index.lookup
    (call_meets F.slot_int_rmul (typeIs_int s 1 t) F.entry_int_rmul (F.args_int_rmul_2 _ _) (int_rmul_tuple 1 t l its.toArray n dd sl)
      ⟨ho, rfl, ⟨_, ho, rfl⟩, call_meets F.slot_tuple_mul ⟨_, ho, rfl⟩ F.entry_tuple_mul (F.args_tuple_mul_2 _ _) (tup_once l its.toArray n dd sl t) ⟨ho, ⟨.ref l, H, I, rfl, q⟩⟩⟩)
/-! ### new tuples, their objects known -/
theorem objOk_tp {P : Program} {w : World} {H' : Hp} {h' : Heap} {a : Addr} {o : Obj} {its : List Value} {n : Nat} {ys : List V} (e : h'.get? a = some o) (c : o.cls = .type "tuple") (d : o.data = .seq its.toArray n) (r : Vals ys its) (z : ys.length ≤ sizeLine) : ObjOk P w H' h' a (.frz o (.tup ys)) :=
  ⟨e, z, its, r, o, e, c, n, d⟩
/-- a new tuple -/
def NewT (H : Hp) (ys : List V) (Q : VK) : Prop := ∀ p (its : Array Value) (n : Nat), H p = none → Q (.ref p) (upd H p (.frz { cls := .type "tuple", data := .seq its n } (.tup ys)))
section
variable {X : Cx} {pins : List (Addr × Obj)} {σ : L2.St} {H : Hp} {s : Shared}
/-- what is pushed is a new tuple -/
theorem ep_tup {its : List Value} {ys : List V} {Q : VK} (I : Inv X pins σ H s) (r : Vals ys its) (z : ys.length ≤ sizeLine) (q : NewT H ys Q) : EP X pins σ Q (.ref s.heap.objs.size) { s with heap := s.heap.push { cls := .type "tuple", data := .seq its.toArray } } :=
  have e : (s.heap.push { cls := .type "tuple", data := .seq its.toArray }).get? s.heap.objs.size = some { cls := .type "tuple", data := .seq its.toArray } := Heap.get?_push_size _ rfl
  ⟨.ref s.heap.objs.size, _, I.laid (t' := s.toks) (fun _ _ k => Heap.get?_push_of_some _ k) (Nat.le_refl _) (objOk_tp e rfl rfl r z), rfl, q _ _ _ (I.hok.fresh (Nat.le_refl _))⟩
def tTupE (t : TA) : TE := fun σ H Q => t σ H fun ys H1 => ys.length ≤ sizeLine ∧ NewT H1 ys Q
theorem pe_tupE {es : List Expr} {t : TA} {pos : Pos} {k : Nat} (h : PA X es t) : PE X (.Tuple es k pos) (tTupE t) :=
  ⟨fun pins s σ H Q I hq => wpAny_Tuple_spliced (thn (h.run pos pins s σ H _ I hq) fun us s1 ⟨ys, H1, I1, r, z, q⟩ => ⟨by rw [← r.length]; exact z, ep_tup I1 r z q⟩)⟩
/-- t + u -/
def rCatN (K : PySem.W.Frag) : R2 := fun x y H Q => ∃ a b xs ys, x = .ref a ∧ y = .ref b ∧ SqT K H a xs ∧ SqT K H b ys ∧ xs.length + ys.length ≤ sizeLine ∧ (xs = [] → Q (.ref b) H) ∧ (xs ≠ [] → ys = [] → Q (.ref a) H) ∧ (xs ≠ [] → ys ≠ [] → NewT H (xs ++ ys) Q)
theorem op_catN : OpR X (binaryOp .Add) (rCatN X.K) := by
  rintro pins s σ H x y v u Q I rx ry ⟨a, b, xs, ys, rfl, rfl, ta, tb, z, q0, q1, q2⟩
  cases rx; cases ry
  obtain ⟨i1, r1, p1, _⟩ := I.tuple ta
  obtain ⟨i2, r2, p2, _⟩ := I.tuple tb
  by_cases hx : xs = []
  · subst hx
    cases r1
    exact cat_tup0 p1 p2 ⟨.ref b, H, I, rfl, q0 rfl⟩
  · refine HT.cat_tup p1 p2 (fun n => hx (r1.nil_iff.mp n)) (fun n => ⟨.ref a, H, I, rfl, q1 hx (r2.nil_iff.mp n)⟩) (fun n => ?_) (by rw [← r1.length, ← r2.length]; exact z)
    exact ep_tup I (r1.append r2) (by rw [List.length_append]; exact z) (q2 hx fun m => n (r2.nil_iff.mpr m))
/-- t * n -/
def rRepN (K : PySem.W.Frag) : R2 := fun x y H Q => ∃ l k xs, x = .ref l ∧ y = .int k ∧ SqT K H l xs ∧ xs ≠ [] ∧ 2 ≤ k ∧ k ≤ 1000 ∧ xs.length ≤ 1000 ∧ NewT H (List.replicate k.toNat xs).flatten Q
theorem op_repN : OpR X (binaryOp .Mult) (rRepN X.K) := by
  rintro pins s σ H x y v u Q I rx ry ⟨l, k, xs, rfl, rfl, hT, hne, k2, k3, hz, q⟩
  cases rx
  obtain ⟨t, rfl⟩ := ry
  obtain ⟨its, r, ⟨⟨cls, dd, data, sl⟩, ho, hc, n, hd⟩, hs⟩ := I.tuple hT
  cases (show cls = .type "tuple" from hc)
  cases (show data = .seq its.toArray n from hd)
  have le : its.length = xs.length := r.length.symm
  have ne : its.toArray.isEmpty = false := by
    match its, le with
    | [], le => exact absurd (List.eq_nil_of_length_eq_zero le.symm) hne
    | _ :: _, _ => rfl
  have prod : k.toNat * xs.length ≤ 1000 * 1000 := Nat.mul_le_mul (by omega) hz
  have sz : its.toArray.size = xs.length := by rw [List.size_toArray, le]
  have prodI : ((its.toArray.size : Nat) : Int) * k ≤ 1000000 := by
    rw [sz]
    have := Int.mul_le_mul_of_nonneg_right (show ((xs.length : Nat) : Int) ≤ 1000 by omega) (show 0 ≤ k by omega)
    omega
  have fl : (List.replicate k.toNat its).flatten.length ≤ sizeLine := by rw [PyProof.Rows.lm_len_rep_flat, le, sizeLine_eq]; omega
  have m0 : (decide (k < -(2 ^ 63)) || decide (k ≥ 2 ^ 63)) = false := by simp; omega
  have m1 : (its.toArray.isEmpty || k == 1) = false := by rw [ne]; simp; omega
  have m2 : (decide (k ≤ 0) || its.toArray.isEmpty) = false := by rw [ne]; simp; omega
  have m4 : Builtin.Tuple.tupleTooMany (((its.toArray.size : Nat) : Int) * k) = false := decide_eq_false (by rw [sizeLine_eq]; omega)
  refine wpAny_binaryOp_repeat_ref (T := "tuple") (U := "int") (by decide) ⟨_, ho, rfl⟩ (fun s' => typeIs_int s' k t) noFill_tuple_mul F.fills_int_mul F.slot_int_rmul repeat_tuple F.slot_int_index.lookup (call_meets F.slot_int_rmul (typeIs_int s k t) F.entry_int_rmul (F.args_int_rmul_2 _ _) (int_rmul_tuple k t l its.toArray n dd sl) ⟨ho, rfl, ⟨_, ho, rfl⟩, call_meets F.slot_tuple_mul ⟨_, ho, rfl⟩ F.entry_tuple_mul (F.args_tuple_mul_2 _ _) (tuple_mulW l its.toArray n dd sl k t m0 m1 m2 (by omega) m4 (by rw [size_rep, List.size_toArray]; exact fl)) ⟨ho, ?_⟩⟩)
  rw [size_rep]
  exact ep_tup I (r.rep k.toNat) (by rw [PyProof.Rows.lm_len_rep_flat, sizeLine_eq]; omega) q
/-- t * 0 -/
def rRep0 (K : PySem.W.Frag) : R2 := fun x y H Q => ∃ l xs, x = .ref l ∧ y = .int 0 ∧ SqT K H l xs ∧ xs ≠ [] ∧ NewT H [] Q
theorem op_repT0 : OpR X (binaryOp .Mult) (rRep0 X.K) := by
  rintro pins s σ H x y v u Q I rx ry ⟨l, xs, rfl, rfl, hT, hne, q⟩
  cases rx
  obtain ⟨t, rfl⟩ := ry
  obtain ⟨its, r, ⟨⟨cls, dd, data, sl⟩, ho, hc, n, hd⟩, hs⟩ := I.tuple hT
  cases (show cls = .type "tuple" from hc)
  cases (show data = .seq its.toArray n from hd)
  have le : its.length = xs.length := r.length.symm
  have ne : its.toArray.isEmpty = false := by
    match its, le with
    | [], le => exact absurd (List.eq_nil_of_length_eq_zero le.symm) hne
    | _ :: _, _ => rfl
  refine wpAny_binaryOp_repeat_ref (T := "tuple") (U := "int") (by decide) ⟨_, ho, rfl⟩ (fun s' => typeIs_int s' 0 t) noFill_tuple_mul F.fills_int_mul F.slot_int_rmul repeat_tuple F.slot_int_index.lookup (call_meets F.slot_int_rmul (typeIs_int s 0 t) F.entry_int_rmul (F.args_int_rmul_2 _ _) (int_rmul_tuple 0 t l its.toArray n dd sl) ⟨ho, rfl, ⟨_, ho, rfl⟩, call_meets F.slot_tuple_mul ⟨_, ho, rfl⟩ F.entry_tuple_mul (F.args_tuple_mul_2 _ _) (tup_nought l its.toArray n dd sl t ne) ⟨ho, ?_⟩⟩)
  exact ep_tup (its := []) I .nil (Nat.zero_le _) q
/-- t[lo:hi] -/
def rSlN (K : PySem.W.Frag) : V → Option Int → Option Int → Hp → VK → Prop := fun x lo hi H Q => ∃ a xs, x = .ref a ∧ SqT K H a xs ∧ (HT.sIx xs.length 0 lo = 0 ∧ HT.sIx xs.length xs.length hi = xs.length → Q (.ref a) H) ∧ (¬ (HT.sIx xs.length 0 lo = 0 ∧ HT.sIx xs.length xs.length hi = xs.length) → NewT H (cutV xs lo hi) Q)
theorem sl_tupN : SlR X (rSlN X.K) := by
  rintro pins s σ H x v vl vu lo hi sl Q I rx hs pl pu ⟨a, xs, rfl, tx, q1, q2⟩
  cases rx
  obtain ⟨its, r, ht, hz⟩ := I.tuple tx
  have len : its.toArray.size = xs.length := by rw [List.size_toArray]; exact r.length.symm
  refine ⟨"tuple", _, PyProof.Rows.slot_tuple_getitem.lookup, ht.typeIs, ?_⟩
  by_cases hw : HT.sIx xs.length 0 lo = 0 ∧ HT.sIx xs.length xs.length hi = xs.length
  · exact getItem_tuple_whole ht hs pl pu (by rw [len]; exact hw) ⟨.ref a, H, I, rfl, q1 hw⟩
  · refine HT.getItem_tuple_cut ht hs pl pu (by rw [len]; exact hw) ?_ (by rw [len]; exact hz)
    rw [len]
    exact ep_tup I ((r.drop (HT.sIx xs.length 0 lo)).take (HT.sIx xs.length xs.length hi - HT.sIx xs.length 0 lo)) (Nat.le_trans (cutV_length xs lo hi) hz) (q2 hw)
/-- tuple(x) -/
theorem call_tupN : CallR X (.type "tuple") (fun xs H Q => ∃ p ys, xs = [.ref p] ∧ ((SqL X.K H p ys ∧ NewT H ys Q) ∨ (SqT X.K H p ys ∧ Q (.ref p) H))) := by
  rintro pins s σ H xs us Q I r ⟨p, ys, rfl, h⟩
  obtain ⟨u, rfl, rx⟩ := vals1 r
  cases rx
  rcases h with ⟨hq, q⟩ | ⟨hq, q⟩
  · obtain ⟨its, rv, pl, hz⟩ := I.list hq
    have len := rv.length
    refine call_tuple_list pl.isList (fun h' kp => ?_) (by simp only [List.size_toArray] <;> omega)
    have I1 : Inv X pins σ H { s with heap := h' } := I.kept (t' := s.toks) kp
    exact ep_tup I1 rv hz q
  · obtain ⟨its, _, pl, _⟩ := I.tuple hq
    exact call_tuple_same pl ⟨.ref p, H, I, rfl, q⟩
end
end Mn
set_option Elab.async false
set_option linter.all false
set_option maxRecDepth 100000
set_option autoImplicit false
namespace Mn
open PySem PySem.Spec L2

/-! ## judgements over the small language -/
abbrev WXm := Xc → St → Hp → Prop
/-- how a result is borne -/
abbrev Rl (α β : Type) := Ads → α → β → Hp → Prop
section
variable {α β γ δ : Type}
def Pst (K : PySem.W.Frag) (c : Ent) (L M : Ads) (W : WXm) (σ : St) (H : Hp) (R : Rl α β) (Q : β → Hp → Prop) : Rs α → Prop
  | .ok a μ' => ∀ b H', Sr K c L M μ' σ H' → Kp M H H' → R L a b H' → Q b H'
  | .ex x μ' => ∀ H', Sr K c L M μ' σ H' → Kp M H H' → W x σ H'
  | .st => False
def Tr (K : PySem.W.Frag) (W : WXm) (R : Rl α β) (r : Mu → Rs α) : St → Hp → (β → Hp → Prop) → Prop := fun σ H Q =>
  ∃ c L M μ, Sr K c L M μ σ H ∧ Pst K c L M W σ H R Q (r μ)
variable {K : PySem.W.Frag} {c : Ent} {L M : Ads} {W : WXm} {σ : St} {H H1 : Hp} {R : Rl α β} {R2 : Rl γ δ} {Q : β → Hp → Prop} {Q2 : δ → Hp → Prop}
theorem Pst.up {r : Rs α} (k : Kp M H H1) (p : Pst K c L M W σ H R Q r) : Pst K c L M W σ H1 R Q r := by
  cases r with
  | ok a μ => exact fun b H' S k' h => p b H' S (k.trans k') h
  | ex x μ => exact fun H' S k' => p H' S (k.trans k')
  | st => exact p
theorem Pst.bind {r : Rs α} {k : α → Mu → Rs γ} (p : Pst K c L M W σ H R2 Q2 (r.bind k))
    (g : ∀ a μ1 b H1, Sr K c L M μ1 σ H1 → Kp M H H1 → R L a b H1 → Pst K c L M W σ H1 R2 Q2 (k a μ1) → Q b H1) : Pst K c L M W σ H R Q r := by
  cases r with
  | ok a μ => exact fun b H' S k' h => g a μ b H' S k' h (Pst.up k' p)
  | ex x μ => exact p
  | st => exact p
theorem Pst.bindE {r : Rs α} {k : α → Mu → Rs γ} (p : Pst K c L M W σ H R2 Q2 (r.bind k))
    (g : ∀ a μ1 b H1, r = .ok a μ1 → Sr K c L M μ1 σ H1 → Kp M H H1 → R L a b H1 → Pst K c L M W σ H1 R2 Q2 (k a μ1) → Q b H1) : Pst K c L M W σ H R Q r := by
  cases r with
  | ok a μ => exact fun b H' S k' h => g a μ b H' rfl S k' h (Pst.up k' p)
  | ex x μ => exact p
  | st => exact p
theorem Pst.opt {o : Option γ} {μ : Mu} (p : Pst K c L M W σ H R2 Q2 (Rs.opt o μ)) : ∃ a, o = some a ∧ ∀ b H', Sr K c L M μ σ H' → Kp M H H' → R2 L a b H' → Q2 b H' := by
  cases o with
  | none => exact p.elim
  | some a => exact ⟨a, rfl, p⟩
end
theorem Sr.peek {K : PySem.W.Frag} {c : Ent} {L M : Ads} {μ : Mu} {σ : St} {H : Hp} (S : Sr K c L M μ σ H) {i : Nat} {d : D} (e : Mn.peek μ i = some d) :
    ∃ v, σ[i]? = some (some v) ∧ (Dv K H L d v ∨ ∃ a, v = .ref a ∧ OwnAt K H L d a) := by
  unfold Mn.peek at e
  split at e
  · rename_i d' h; cases e
    obtain ⟨v, e1, e2⟩ := S.val i d h
    exact ⟨v, e1, .inl e2⟩
  · rename_i d' h; cases e
    obtain ⟨v, e1, e2, _⟩ := S.own i d h
    exact ⟨_, e1, .inr ⟨_, rfl, e2⟩⟩
  · rename_i d' h; cases e
    obtain ⟨v, e1, e2, _⟩ := S.lck i d h
    exact ⟨_, e1, .inr ⟨_, rfl, e2⟩⟩
  · cases e
def rD (K : PySem.W.Frag) : Rl D V := fun L d v H => Dv K H L d v
def rDs (K : PySem.W.Frag) : Rl (List D) (List V) := fun L d v H => Dvs K H L d v
/-- a value, or an object that a slot holds -/
def Dw (K : PySem.W.Frag) (H : Hp) (L : Ads) (d : D) (v : V) : Prop := Dv K H L d v ∨ ∃ a, v = .ref a ∧ OwnAt K H L d a
def rW (K : PySem.W.Frag) : Rl D V := fun L d v H => Dw K H L d v
def rB : Rl Bool Bool := fun _ a b _ => a = b
def rO : Rl (Option Int) (Option Int) := fun _ a b _ => a = b

section
variable {X : Cx}
theorem pe_mono {e : Expr} {t t' : TE} (h : PE X e t) (i : ∀ σ H Q, t' σ H Q → t σ H Q) : PE X e t' := ⟨fun pins s σ H Q I q => h.run pins s σ H Q I (i σ H Q q)⟩
theorem pt_mono {e : Expr} {t t' : TT} (h : PT X e t) (i : ∀ σ H Q, t' σ H Q → t σ H Q) : PT X e t' := ⟨fun pins s σ H Q I q => h.run pins s σ H Q I (i σ H Q q)⟩
theorem pw_mono {e : Expr} {t t' : TT} (h : PW X e t) (i : ∀ σ H Q, t' σ H Q → t σ H Q) : PW X e t' := ⟨fun wh pins s σ H Q I q => h.run wh pins s σ H Q I (i σ H Q q)⟩
theorem pa_mono {e : List Expr} {t t' : TA} (h : PA X e t) (i : ∀ σ H Q, t' σ H Q → t σ H Q) : PA X e t' := ⟨fun pos pins s σ H Q I q => h.run pos pins s σ H Q I (i σ H Q q)⟩
theorem ps_mono {e : Stmt} {t t' : TS} (h : PS X e t) (i : ∀ D σ H, t' D σ H → t D σ H) : PS X e t' := ⟨fun pins s σ H D I q => h.run pins s σ H D I (i D σ H q)⟩
theorem pss_mono {e : List Stmt} {t t' : TS} (h : PSs X e t) (i : ∀ D σ H, t' D σ H → t D σ H) : PSs X e t' := ⟨fun pins s σ H D I q => h.run pins s σ H D I (i D σ H q)⟩
theorem pi_mono {tg e : Expr} {t t' : TI} (h : PI X tg e t) (i : ∀ σ H Q, t' σ H Q → t σ H Q) : PI X tg e t' := ⟨fun pins s σ H Q I q => h.run pins s σ H Q I (i σ H Q q)⟩
end

abbrev JE (X : Cx) (W : WXm) (e : Expr) (r : Mu → Rs D) : Prop := PE X e (Tr X.K W (rD X.K) r)
abbrev JP (X : Cx) (W : WXm) (e : Expr) (r : Mu → Rs D) : Prop := PE X e (Tr X.K W (rW X.K) r)
abbrev JT (X : Cx) (W : WXm) (e : Expr) (r : Mu → Rs Bool) : Prop := PT X e (Tr X.K W rB r)
abbrev JA (X : Cx) (W : WXm) (es : List Expr) (r : Mu → Rs (List D)) : Prop := PA X es (Tr X.K W (rDs X.K) r)

section
variable {K : PySem.W.Frag} {c : Ent} {L L' M : Ads} {μ : Mu} {σ : St} {H H1 : Hp}
theorem Dw.keep {d : D} {v : V} {H' : Hp} (w : Dv K H L d v) (k : Kp M H H') (ml : ∀ a, M a → L a) : Dv K H' L d v := w.keep (k.mono ml)
theorem Sr.dk {d : D} {v : V} (S : Sr K c L M μ σ H1) (w : Dv K H L d v) (k : Kp M H H1) : Dv K H1 L d v := w.keep (k.mono S.ml)
theorem Sr.dks {d : List D} {v : List V} (S : Sr K c L M μ σ H1) (w : Dvs K H L d v) (k : Kp M H H1) : Dvs K H1 L d v := w.keep (k.mono S.ml)
/-- a new tuple -/
theorem Sr.newTup (S : Sr K c L M μ σ H) {ds : List D} {vs : List V} {p : Addr} (its : Array Value) (m : Nat) (w : Dvs K H L ds vs) (n : H p = none) :
    Sr K c L M μ σ (upd H p (.frz { cls := .type "tuple", data := .seq its m } (.tup vs))) ∧ Kp M H (upd H p (.frz { cls := .type "tuple", data := .seq its m } (.tup vs))) ∧ Dv K (upd H p (.frz { cls := .type "tuple", data := .seq its m } (.tup vs))) L (.tuple ds) (.ref p) :=
  ⟨S.laid n, Kp.laid n, .tup (S.free n) ⟨its, m, upd_same⟩ (w.keep (Kp.laid n))⟩
theorem Sr.newLst (S : Sr K c L M μ σ H) {ds : List D} {vs : List V} {p : Addr} (w : Dvs K H L ds vs) (n : H p = none) :
    Sr K c L M μ σ (upd H p (.lst vs)) ∧ Kp M H (upd H p (.lst vs)) ∧ Dv K (upd H p (.lst vs)) L (.list ds) (.ref p) :=
  ⟨S.laid n, Kp.laid n, .lst (S.free n) (.inl upd_same) (w.keep (Kp.laid n))⟩
theorem Dw.lst {ds : List D} {v : V} (w : Dw K H L (.list ds) v) : ∃ a vs, v = .ref a ∧ SqL K H a vs ∧ Dvs K H L ds vs := by
  rcases w with w | ⟨a, rfl, w⟩
  · exact w.list
  · rcases w with ⟨_, vs, e, h, r⟩ | ⟨_, _, e, _⟩
    · cases e; exact ⟨a, vs, rfl, .inl (.inl h), r⟩
    · cases e
theorem Dw.tup {ds : List D} {v : V} (w : Dw K H L (.tuple ds) v) : ∃ a vs, v = .ref a ∧ SqT K H a vs ∧ Dvs K H L ds vs := by
  rcases w with w | ⟨a, rfl, w⟩
  · exact w.tuple
  · rcases w with ⟨_, vs, e, h, r⟩ | ⟨_, _, e, _⟩
    · cases e
    · cases e
theorem Dw.sc {d : D} {v : V} (w : Dw K H L d v) (h : ∀ ds, d ≠ .list ds) (h2 : ∀ ds, d ≠ .dict ds) : Dv K H L d v := by
  rcases w with w | ⟨a, rfl, w⟩
  · exact w
  · rcases w with ⟨_, vs, e, _⟩ | ⟨_, _, e, _⟩
    · exact absurd e (h _)
    · exact absurd e (h2 _)
theorem Dw.dp {d : D} {v : V} (w : Dw K H L d v) (n : PyData.plain d = true) : Dp K H v d := by
  rcases w with w | ⟨a, rfl, w⟩
  · exact w.dp n
  · rcases w with ⟨_, vs, rfl, h, r⟩ | ⟨_, _, rfl, _⟩
    · exact .lst (.inl (.inl h)) (r.dp n)
    · cases n
end

section
variable {X : Cx} {W : WXm} {e a b : Expr} {pos : Pos}
/-! ### names, constants -/
theorem je_var {i : Nat} {x : Str} (hN : X.N[i]? = some x) (hv : Vis X.env.scope x) (hd : (x == ("__debug__" : Str)) = false) (hcd : (x == ("__classdict__" : Str)) = false) :
    JE X W (.Name x pos) fun μ => Rs.opt (look μ i) μ := by
  refine pe_mono (pe_var (i := i) hN hv hd hcd) fun σ H Q ⟨c, L, M, μ, S, p⟩ => ?_
  obtain ⟨d, e, q⟩ := p.opt
  unfold look at e
  split at e
  · rename_i d' h
    cases e
    obtain ⟨v, e1, e2⟩ := S.val i d h
    exact ⟨v, e1, q v H S .refl e2⟩
  · cases e
theorem jp_pk {i : Nat} {x : Str} (hN : X.N[i]? = some x) (hv : Vis X.env.scope x) (hd : (x == ("__debug__" : Str)) = false) (hcd : (x == ("__classdict__" : Str)) = false) :
    JP X W (.Name x pos) fun μ => Rs.opt (peek μ i) μ := by
  refine pe_mono (pe_var (i := i) hN hv hd hcd) fun σ H Q ⟨c, L, M, μ, S, p⟩ => ?_
  obtain ⟨d, e, q⟩ := p.opt
  unfold peek at e
  split at e
  · rename_i d' h
    cases e
    obtain ⟨v, e1, e2⟩ := S.val i d h
    exact ⟨v, e1, q v H S .refl (.inl e2)⟩
  · rename_i d' h
    cases e
    obtain ⟨v, e1, e2, _⟩ := S.own i d h
    exact ⟨_, e1, q _ H S .refl (.inr ⟨_, rfl, e2⟩)⟩
  · rename_i d' h
    cases e
    obtain ⟨v, e1, e2, _⟩ := S.lck i d h
    exact ⟨_, e1, q _ H S .refl (.inr ⟨_, rfl, e2⟩)⟩
  · cases e
theorem je_int {i : Int} {j : Nat} : JE X W (.Constant (.int i) j pos) fun μ => .ok (.int i) μ := pe_mono pe_int fun _ _ _ ⟨_, _, _, _, S, p⟩ => p _ _ S .refl (.int i)
theorem je_bl {i : Bool} {j : Nat} : JE X W (.Constant (.bool i) j pos) fun μ => .ok (.bool i) μ := pe_mono pe_bl fun _ _ _ ⟨_, _, _, _, S, p⟩ => p _ _ S .refl (.bl i)
theorem je_str {i : Str} {j : Nat} : JE X W (.Constant (.str i) j pos) fun μ => .ok (.str i) μ := pe_mono pe_str fun _ _ _ ⟨_, _, _, _, S, p⟩ => p _ _ S .refl (.str i)
theorem je_non {j : Nat} : JE X W (.Constant .none j pos) fun μ => .ok .none μ := pe_mono pe_non fun _ _ _ ⟨_, _, _, _, S, p⟩ => p _ _ S .refl .non
/-- a constant of the module -/
theorem je_glob {x : Str} {d : D} {v : V} {u : Value} (hg : Gl X x) (hm : X.mg x = some u) (r : RelV v u) (hd : (x == ("__debug__" : Str)) = false) (w : Dv X.K (fun _ => none) (fun _ => False) d v) (n : ∀ H L, Dv X.K H L d v) :
    JE X W (.Name x pos) fun μ => .ok d μ := pe_mono (pe_glob hg hm r hd) fun _ H _ ⟨_, L, _, _, S, p⟩ => p _ _ S .refl (n H L)
/-- what is a value may be looked at -/
theorem JE.jp {r : Mu → Rs D} (h : JE X W e r) : JP X W e r := pe_mono h fun σ H Q ⟨c, L, M, μ, S, p⟩ => ⟨c, L, M, μ, S, by
  cases h : r μ with
  | ok d μ' => rw [h] at p; exact fun b H' S' k' w => p b H' S' k' (.inl w)
  | ex x μ' => rw [h] at p; exact p
  | st => rw [h] at p; exact p⟩
end

/-! ### two operands -/
/-- an operation on data -/
def rOp (K : PySem.W.Frag) (g : D → D → Option D) : R2 := fun x y H Q => ∃ c L M μ σ d e z, Sr K c L M μ σ H ∧ Dv K H L d x ∧ Dv K H L e y ∧ g d e = some z ∧ ∀ v H', Sr K c L M μ σ H' → Kp M H H' → Dv K H' L z v → Q v H'
section
variable {X : Cx} {W : WXm} {a b : Expr} {pos : Pos} {ra rb : Mu → Rs D}
theorem je_op {op : Operator} {g : D → D → Option D} (ho : OpR X (binaryOp op) (rOp X.K g)) (ha : JE X W a ra) (hb : JE X W b rb) :
    JE X W (.BinOp a op b pos) fun μ => (ra μ).bind fun x μ1 => (rb μ1).bind fun y μ2 => Rs.opt (g x y) μ2 := by
  refine pe_mono (pe_op ho ha hb) fun σ H Q ⟨c, L, M, μ, S, p⟩ => ⟨c, L, M, μ, S, p.bind fun x μ1 v H1 S1 k1 d1 p1 => ⟨c, L, M, μ1, S1, p1.bind fun y μ2 w H2 S2 k2 d2 p2 => ?_⟩⟩
  obtain ⟨z, e, q⟩ := p2.opt
  exact ⟨c, L, M, μ2, σ, x, y, z, S2, S2.dk d1 k2, d2, e, q⟩
/-- from a rule on values -/
theorem opR_imp {f : Value → Value → Sem Value} {r r' : R2} (h : OpR X f r) (i : ∀ x y H Q, r' x y H Q → r x y H Q) : OpR X f r' := fun pins s σ H x y v u Q I rx ry q => h pins s σ H x y v u Q I rx ry (i x y H Q q)
theorem opR_by {f : Value → Value → Sem Value} {r' : R2} (h : ∀ x y H Q, r' x y H Q → ∃ r, OpR X f r ∧ r x y H Q) : OpR X f r' := fun pins s σ H x y v u Q I rx ry q =>
  let ⟨r, h1, h2⟩ := h x y H Q q
  h1 pins s σ H x y v u Q I rx ry h2
theorem sizeOkN_of {n : Nat} (h : sizeOkN n = true) : n ≤ sizeLine := by
  have e : sizeLine = 16777216 := by decide
  rw [e]; exact of_decide_eq_true h
theorem Dvs.nil_inv {K : PySem.W.Frag} {H : Hp} {L : Ads} {xs : List D} (h : Dvs K H L xs []) : xs = [] := by cases h; rfl
/-- a list, its object known -/
def SqE (K : PySem.W.Frag) (H : Hp) (a : Addr) (xs : List V) : Prop := Rd H a (.lst xs) ∨ WrL K a xs
theorem Dv.listE {K : PySem.W.Frag} {H : Hp} {L : Ads} {ds : List D} {v : V} (h : Dv K H L (.list ds) v) : ∃ a vs, v = .ref a ∧ SqE K H a vs ∧ Dvs K H L ds vs := by
  cases h with
  | lst n r s => exact ⟨_, _, rfl, .inl r, s⟩
  | lstK w s => exact ⟨_, _, rfl, .inr w, s⟩
theorem inv_sqE {pins : List (Addr × Obj)} {σ : St} {H : Hp} {s : Shared} {a : Addr} {xs : List V} (I : Inv X pins σ H s) (h : SqE X.K H a xs) : xs.length ≤ sizeLine ∧ ∃ (its : List Value) (n : Nat), Vals xs its ∧ xs.length = its.length ∧ s.heap.get? a = some { cls := .type "list", data := .seq its.toArray n } := by
  rcases h with h | ⟨its, n, h1, h2, h3⟩
  · obtain ⟨z, its, n, r, e⟩ := h.ok I.hok
    exact ⟨z, its, n, r, r.length, e⟩
  · have e := I.kIn a _ h1
    have l := h3.length
    refine ⟨by rw [l, Array.length_toList]; exact h2, its.toList, n, h3, l, ?_⟩
    rw [Array.toArray_toList]; exact e
def rCatE (K : PySem.W.Frag) : R2 := fun x y H Q => ∃ l b xs zs, x = .ref l ∧ y = .ref b ∧ SqE K H l xs ∧ SqE K H b zs ∧ xs.length + zs.length ≤ sizeLine ∧ ∀ p, H p = none → Q (.ref p) (upd H p (.lst (xs ++ zs)))
theorem op_catE : OpR X (binaryOp .Add) (rCatE X.K) := by
  intro pins s σ H x y v u Q I rx ry h
  obtain ⟨l, b, xs, zs, rfl, rfl, sx, sy, lz, q⟩ := h
  cases rx; cases ry
  obtain ⟨_, i1, n1, r1, l1, e1⟩ := inv_sqE I sx
  obtain ⟨_, i2, n2, r2, l2, e2⟩ := inv_sqE I sy
  refine PySem.P.add_list e1 e2 ?_ (by rw [List.size_toArray, List.size_toArray]; omega)
  rw [show i1.toArray ++ i2.toArray = (i1 ++ i2).toArray by simp]
  exact ⟨.ref _, _, I.lnew (t' := s.toks) (r1.append r2) (by rw [List.length_append]; omega), rfl, q _ I.fresh⟩
theorem bin_add : OpR X (binaryOp .Add) (rOp X.K addD) := opR_by fun x y H Q ⟨c, L, M, μ, σ, d, e, z, S, hx, hy, hg, q⟩ => by
  unfold addD at hg
  split at hg
  · cases hg; cases hx; cases hy; exact ⟨_, op_add, _, _, rfl, rfl, q _ _ S .refl (.int _)⟩
  · split at hg
    · rename_i h; cases hg; cases hx; cases hy
      exact ⟨_, op_add_str, _, _, rfl, rfl, sizeOkN_of h, q _ _ S .refl (.str _)⟩
    · cases hg
  · split at hg
    · rename_i h; cases hg
      obtain ⟨a, vs, rfl, sa, wa⟩ := hx.tuple
      obtain ⟨b, ws, rfl, sb, wb⟩ := hy.tuple
      have hl : vs.length + ws.length ≤ sizeLine := by rw [← wa.length, ← wb.length]; exact sizeOkN_of h
      refine ⟨_, op_catN, a, b, vs, ws, rfl, rfl, sa, sb, hl, fun e => ?_, fun _ e => ?_, fun _ _ p ti tn hp => ?_⟩
      · subst e
        rw [wa.nil_inv, List.nil_append] at q; exact q _ _ S .refl hy
      · subst e
        rw [wb.nil_inv, List.append_nil] at q; exact q _ _ S .refl hx
      · obtain ⟨h1, h2, h3⟩ := S.newTup ti tn (wa.append wb) hp
        exact q _ _ h1 h2 h3
    · cases hg
  · split at hg
    · rename_i h; cases hg
      obtain ⟨a, vs, rfl, sa, wa⟩ := hx.listE
      obtain ⟨b, ws, rfl, sb, wb⟩ := hy.listE
      have hl : vs.length + ws.length ≤ sizeLine := by rw [← wa.length, ← wb.length]; exact sizeOkN_of h
      refine ⟨_, op_catE, a, b, vs, ws, rfl, rfl, sa, sb, hl, fun p hp => ?_⟩
      obtain ⟨h1, h2, h3⟩ := S.newLst (wa.append wb) hp
      exact q _ _ h1 h2 h3
    · cases hg
  · cases hg
theorem bin_sub : OpR X (binaryOp .Sub) (rOp X.K subD) := opR_by fun x y H Q ⟨c, L, M, μ, σ, d, e, z, S, hx, hy, hg, q⟩ => by
  unfold subD at hg
  split at hg
  · cases hg; cases hx; cases hy; exact ⟨_, op_sub, _, _, rfl, rfl, q _ _ S .refl (.int _)⟩
  · cases hg
theorem bin_mod : OpR X (binaryOp .Mod) (rOp X.K modD) := opR_by fun x y H Q ⟨c, L, M, μ, σ, d, e, z, S, hx, hy, hg, q⟩ => by
  unfold modD at hg
  split at hg
  · split at hg
    · rename_i h; cases hg; cases hx; cases hy; exact ⟨_, op_modN, _, _, rfl, rfl, of_decide_eq_true h, q _ _ S .refl (.int _)⟩
    · cases hg
  · cases hg
theorem bin_pow : OpR X (binaryOp .Pow) (rOp X.K powD) := opR_by fun x y H Q ⟨c, L, M, μ, σ, d, e, z, S, hx, hy, hg, q⟩ => by
  unfold powD at hg
  split at hg
  · split at hg
    · rename_i h; cases hg; cases hx; cases hy
      simp only [Bool.and_eq_true, decide_eq_true_eq] at h
      exact ⟨_, op_pow, _, _, rfl, rfl, ⟨h.1.1, h.1.2, h.2⟩, q _ _ S .refl (.int _)⟩
    · cases hg
  · cases hg
theorem op_fdivX : OpR X (binaryOp .FloorDiv) (rI (fun _ j => divOk j = true) fun i j => .int (i.fdiv j)) := opI fun i j _ _ _ _ _ hc q => by
  unfold divOk at hc
  simp only [Bool.and_eq_true, decide_eq_true_eq] at hc
  exact PyProof.Rows.floordiv_int hc.1 q (.inl (PyProof.noPylong_of_log2 (by omega)))
theorem bin_fdiv : OpR X (binaryOp .FloorDiv) (rOp X.K fdivD) := opR_by fun x y H Q ⟨c, L, M, μ, σ, d, e, z, S, hx, hy, hg, q⟩ => by
  unfold fdivD at hg
  split at hg
  · split at hg
    · rename_i h; cases hg; cases hx; cases hy
      exact ⟨_, op_fdivX, _, _, rfl, rfl, h, q _ _ S .refl (.int _)⟩
    · cases hg
  · cases hg
theorem bin_mul : OpR X (binaryOp .Mult) (rOp X.K mulD) := opR_by fun x y H Q ⟨c, L, M, μ, σ, d, e, z, S, hx, hy, hg, q⟩ => by
  unfold mulD at hg
  split at hg
  · split at hg
    · rename_i h; cases hg; cases hx; cases hy
      unfold mulOk at h
      have h' := of_decide_eq_true h
      exact ⟨_, op_mulW, _, _, rfl, rfl, h', q _ _ S .refl (.int _)⟩
    · cases hg
  · rename_i xs j
    split at hg
    · rename_i h; cases hg; cases hy
      simp only [Bool.and_eq_true, decide_eq_true_eq] at h
      obtain ⟨a, vs, rfl, sa, wa⟩ := hx.tuple
      have hne : vs ≠ [] := fun z => by
        subst z
        rw [wa.nil_inv] at h
        simp at h
      by_cases hj : j = 1
      · subst hj
        have e1 : (List.replicate (1 : Int).toNat xs).flatten = xs := by simp
        rw [e1] at q
        exact ⟨_, op_repT1, a, vs, rfl, rfl, sa, q _ _ S .refl hx⟩
      · by_cases hj0 : j = 0
        · subst hj0
          refine ⟨_, op_repT0, a, vs, rfl, rfl, sa, hne, fun p ti tn hp => ?_⟩
          obtain ⟨h1, h2, h3⟩ := S.newTup ti tn (wa.flat 0) hp
          exact q _ _ h1 h2 h3
        refine ⟨_, op_repN, a, j, vs, rfl, rfl, sa, hne, by omega, by omega, by rw [← wa.length]; omega, fun p ti tn hp => ?_⟩
        obtain ⟨h1, h2, h3⟩ := S.newTup ti tn (wa.flat j.toNat) hp
        exact q _ _ h1 h2 h3
    · cases hg
  · cases hg
def bop : BOp → Operator
  | .add => .Add
  | .sub => .Sub
  | .mul => .Mult
  | .fdiv => .FloorDiv
  | .mod => .Mod
  | .pow => .Pow
theorem bin_all (op : BOp) : OpR X (binaryOp (bop op)) (rOp X.K (binD op)) := by
  cases op
  · exact bin_add
  · exact bin_sub
  · exact bin_mul
  · exact bin_fdiv
  · exact bin_mod
  · exact bin_pow
theorem je_bin {op : BOp} (ha : JE X W a ra) (hb : JE X W b rb) :
    JE X W (.BinOp a (bop op) b pos) fun μ => (ra μ).bind fun x μ1 => (rb μ1).bind fun y μ2 => Rs.opt (binD op x y) μ2 := je_op (bin_all op) ha hb
theorem je_neg (ha : JE X W a ra) : JE X W (.UnaryOp .USub a pos) fun μ => (ra μ).bind fun x μ1 => Rs.opt ((toI x).map fun i => .int (-i)) μ1 := by
  refine pe_mono (pe_un un_neg ha) fun σ H Q ⟨c, L, M, μ, S, p⟩ => ⟨c, L, M, μ, S, p.bind fun x μ1 v H1 S1 k1 d1 p1 => ?_⟩
  obtain ⟨z, e, q⟩ := p1.opt
  unfold toI at e
  split at e
  · cases e; cases d1; exact ⟨_, rfl, q _ _ S1 .refl (.int _)⟩
  · cases e
end

/-! ### comparisons -/
section
variable {X : Cx} {W : WXm} {a b : Expr} {pos : Pos} {ra rb : Mu → Rs D}
theorem Dw.reads {pins : List (Addr × Obj)} {σ : St} {H : Hp} {s : Shared} {L : Ads} {d : D} {v : V} {u : Value} (I : Inv X pins σ H s) (w : Dw X.K H L d v) (hp : d.plain = true) (r : RelV v u) : ∃ as, Reads s.heap u d as :=
  Dp.reads I d v u (w.dp hp) r
/-- a comparison on data -/
def rCmp (K : PySem.W.Frag) (g : D → D → Option Bool) : R2 := fun x y H Q => ∃ L d e z, Dw K H L d x ∧ Dw K H L e y ∧ g d e = some z ∧ Q (.bl z) H
theorem eqD_some {d e : D} {z : Bool} (h : eqD d e = some z) : d.plain = true ∧ e.plain = true ∧ min d.depth e.depth ≤ 60 ∧ z = PyData.eqv d e := by
  unfold eqD at h
  split at h
  · rename_i q
    simp only [Bool.and_eq_true, decide_eq_true_eq] at q
    cases h
    exact ⟨q.1.1, q.1.2, q.2, rfl⟩
  · cases h
theorem ltOk_of {d e : D} (h : ltOk d e = true) : d.plain = true ∧ e.plain = true ∧ PySem.W.alike d e = true ∧ d ≠ .none ∧ min d.depth e.depth ≤ 60 := by
  unfold ltOk at h
  simp only [Bool.and_eq_true, decide_eq_true_eq] at h
  obtain ⟨⟨⟨⟨h1, h2⟩, h3⟩, h4⟩, h5⟩ := h
  refine ⟨h1, h2, h3, fun z => ?_, h5⟩
  subst z
  simp [isNone] at h4
theorem map_some {o : Option Bool} {z : Bool} (h : o.map (!·) = some z) : ∃ w, o = some w ∧ z = !w := by
  cases o with
  | none => cases h
  | some w => exact ⟨w, rfl, (Option.some.inj h).symm⟩
theorem cmp_eq (hu : X.A.units + 64 < cLine) : OpR X (compareOp .Eq) (rCmp X.K eqD) := by
  rintro pins s σ H x y v u Q I rx ry ⟨L, d, e, z, hx, hy, hg, q⟩
  obtain ⟨h1, h2, h3, rfl⟩ := eqD_some hg
  obtain ⟨as, r1⟩ := hx.reads I h1 rx
  obtain ⟨bs, r2⟩ := hy.reads I h2 ry
  exact SeqAt.eq_plain r1 r2 h1 h2 (by omega) ⟨.bl _, H, I, rfl, q⟩
theorem cmp_ne (hu : X.A.units + 64 < cLine) : OpR X (compareOp .NotEq) (rCmp X.K fun x y => (eqD x y).map (!·)) := by
  rintro pins s σ H x y v u Q I rx ry ⟨L, d, e, z, hx, hy, hg, q⟩
  obtain ⟨w, hw, rfl⟩ := map_some hg
  obtain ⟨h1, h2, h3, rfl⟩ := eqD_some hw
  obtain ⟨as, r1⟩ := hx.reads I h1 rx
  obtain ⟨bs, r2⟩ := hy.reads I h2 ry
  exact SeqAt.ne_plain r1 r2 h1 h2 (by omega) ⟨.bl _, H, I, rfl, q⟩
theorem cmp_lt (hu : X.A.units + 64 < cLine) : OpR X (compareOp .Lt) (rCmp X.K ltD) := by
  rintro pins s σ H x y v u Q I rx ry ⟨L, d, e, z, hx, hy, hg, q⟩
  unfold ltD at hg
  split at hg
  · rename_i h; cases hg
    obtain ⟨h1, h2, h3, h4, h5⟩ := ltOk_of h
    obtain ⟨as, r1⟩ := hx.reads I h1 rx
    obtain ⟨bs, r2⟩ := hy.reads I h2 ry
    exact PySem.W.lt_data r1 r2 h3 h4 (by omega) ⟨.bl _, H, I, rfl, q⟩
  · cases hg
theorem cmp_gt (hu : X.A.units + 64 < cLine) : OpR X (compareOp .Gt) (rCmp X.K gtD) := by
  rintro pins s σ H x y v u Q I rx ry ⟨L, d, e, z, hx, hy, hg, q⟩
  unfold gtD at hg
  split at hg
  · rename_i h; cases hg
    obtain ⟨h1, h2, h3, h4, h5⟩ := ltOk_of h
    obtain ⟨as, r1⟩ := hx.reads I h1 rx
    obtain ⟨bs, r2⟩ := hy.reads I h2 ry
    exact PySem.W.gt_data r1 r2 h3 h4 (by omega) ⟨.bl _, H, I, rfl, q⟩
  · cases hg
theorem cmp_le (hu : X.A.units + 64 < cLine) : OpR X (compareOp .LtE) (rCmp X.K leD) := by
  rintro pins s σ H x y v u Q I rx ry ⟨L, d, e, z, hx, hy, hg, q⟩
  unfold leD at hg
  split at hg
  · rename_i h; cases hg
    obtain ⟨h1, h2, h3, h4, h5⟩ := ltOk_of h
    obtain ⟨as, r1⟩ := hx.reads I h1 rx
    obtain ⟨bs, r2⟩ := hy.reads I h2 ry
    exact PySem.W.le_data r1 r2 h3 h4 (by omega) ⟨.bl _, H, I, rfl, q⟩
  · cases hg
theorem cmp_ge (hu : X.A.units + 64 < cLine) : OpR X (compareOp .GtE) (rCmp X.K geD) := by
  rintro pins s σ H x y v u Q I rx ry ⟨L, d, e, z, hx, hy, hg, q⟩
  unfold geD at hg
  split at hg
  · rename_i h; cases hg
    obtain ⟨h1, h2, h3, h4, h5⟩ := ltOk_of h
    obtain ⟨as, r1⟩ := hx.reads I h1 rx
    obtain ⟨bs, r2⟩ := hy.reads I h2 ry
    exact PySem.W.ge_data r1 r2 h3 h4 (by omega) ⟨.bl _, H, I, rfl, q⟩
  · cases hg
theorem Dw.none {H : Hp} {L : Ads} {x : V} (h : Dw X.K H L .none x) : x = .non := by
  have := h.sc (by simp) (by simp); cases this; rfl
theorem Dw.bool {H : Hp} {L : Ads} {x : V} {b : Bool} (h : Dw X.K H L (.bool b) x) : x = .bl b := by
  have := h.sc (by simp) (by simp); cases this; rfl
theorem Dw.ne_non {H : Hp} {L : Ads} {d : D} {x : V} (h : Dw X.K H L d x) (n : d ≠ .none) : x ≠ .non := by
  rintro rfl
  rcases h with h | ⟨a, h, _⟩
  · cases h; exact n rfl
  · cases h
theorem cmp_is : OpR X (compareOp .Is) (rCmp X.K isD) := opR_by fun x y H Q ⟨L, d, e, z, hx, hy, hg, q⟩ => by
  unfold isD at hg
  split at hg
  all_goals (try cases hg)
  · obtain rfl := hx.none; obtain rfl := hy.none; exact ⟨_, op_isN, rfl, q⟩
  · obtain rfl := hy.none; exact ⟨_, op_isN, rfl, by rw [decide_eq_false (hx.ne_non (by simp))]; exact q⟩
  · obtain rfl := hy.none; exact ⟨_, op_isN, rfl, by rw [decide_eq_false (hx.ne_non (by simp))]; exact q⟩
  · obtain rfl := hy.none; exact ⟨_, op_isN, rfl, by rw [decide_eq_false (hx.ne_non (by simp))]; exact q⟩
  · obtain rfl := hy.none; exact ⟨_, op_isN, rfl, by rw [decide_eq_false (hx.ne_non (by simp))]; exact q⟩
  · obtain rfl := hy.none; exact ⟨_, op_isN, rfl, by rw [decide_eq_false (hx.ne_non (by simp))]; exact q⟩
  · obtain rfl := hx.bool; obtain rfl := hy.bool; exact ⟨_, op_is_bl, _, _, rfl, rfl, q⟩
theorem cmp_isnot : OpR X (compareOp .IsNot) (rCmp X.K fun x y => (isD x y).map (!·)) := opR_by fun x y H Q ⟨L, d, e, z, hx, hy, hg, q⟩ => by
  obtain ⟨w, hw, rfl⟩ := map_some hg
  unfold isD at hw
  split at hw
  all_goals (try cases hw)
  · obtain rfl := hx.none; obtain rfl := hy.none; exact ⟨_, op_notN, rfl, q⟩
  · obtain rfl := hy.none; exact ⟨_, op_notN, rfl, by rw [decide_eq_false (hx.ne_non (by simp))]; exact q⟩
  · obtain rfl := hy.none; exact ⟨_, op_notN, rfl, by rw [decide_eq_false (hx.ne_non (by simp))]; exact q⟩
  · obtain rfl := hy.none; exact ⟨_, op_notN, rfl, by rw [decide_eq_false (hx.ne_non (by simp))]; exact q⟩
  · obtain rfl := hy.none; exact ⟨_, op_notN, rfl, by rw [decide_eq_false (hx.ne_non (by simp))]; exact q⟩
  · obtain rfl := hy.none; exact ⟨_, op_notN, rfl, by rw [decide_eq_false (hx.ne_non (by simp))]; exact q⟩
  · obtain rfl := hx.bool; obtain rfl := hy.bool; exact ⟨_, op_isnot_bl, _, _, rfl, rfl, q⟩
theorem inD_some {x y : D} {z : Bool} (h : inD x y = some z) : ∃ ys, (y = .list ys ∨ y = .tuple ys) ∧ x.plain = true ∧ PyData.plainAll ys = true ∧ x.depth ≤ 60 ∧ z = ys.any fun y => PyData.eqv y x := by
  unfold inD at h
  split at h
  · split at h
    · rename_i q; cases h
      simp only [Bool.and_eq_true, decide_eq_true_eq] at q
      exact ⟨_, .inl rfl, q.1.1, q.1.2, q.2, rfl⟩
    · cases h
  · split at h
    · rename_i q; cases h
      simp only [Bool.and_eq_true, decide_eq_true_eq] at q
      exact ⟨_, .inr rfl, q.1.1, q.1.2, q.2, rfl⟩
    · cases h
  · cases h
theorem cmp_in (hu : X.A.units + 64 < cLine) : OpR X (compareOp .In) (rCmp X.K inD) := by
  rintro pins s σ H x y v u Q I rx ry ⟨L, d, e, z, hx, hy, hg, q⟩
  obtain ⟨ys, he, h1, h2, h3, rfl⟩ := inD_some hg
  obtain ⟨as, r1⟩ := hx.reads I h1 rx
  rcases he with rfl | rfl
  · obtain ⟨bs, r2⟩ := hy.reads I h2 ry
    exact SeqAt.in_list_data r2 r1 h2 h1 (by omega) ⟨.bl _, H, I, rfl, q⟩
  · obtain ⟨bs, r2⟩ := hy.reads I h2 ry
    exact SeqAt.in_tuple_data r2 r1 h2 h1 (by omega) ⟨.bl _, H, I, rfl, q⟩
theorem cmp_notin (hu : X.A.units + 64 < cLine) : OpR X (compareOp .NotIn) (rCmp X.K fun x y => (inD x y).map (!·)) := by
  rintro pins s σ H x y v u Q I rx ry ⟨L, d, e, z, hx, hy, hg, q⟩
  obtain ⟨w, hw, rfl⟩ := map_some hg
  obtain ⟨ys, he, h1, h2, h3, rfl⟩ := inD_some hw
  obtain ⟨as, r1⟩ := hx.reads I h1 rx
  rcases he with rfl | rfl
  · obtain ⟨bs, r2⟩ := hy.reads I h2 ry
    exact SeqAt.notIn_list_data r2 r1 h2 h1 (by omega) ⟨.bl _, H, I, rfl, q⟩
  · obtain ⟨bs, r2⟩ := hy.reads I h2 ry
    exact SeqAt.notIn_tuple_data r2 r1 h2 h1 (by omega) ⟨.bl _, H, I, rfl, q⟩
def cop : COp → CmpOp
  | .eq => .Eq | .ne => .NotEq | .lt => .Lt | .le => .LtE | .gt => .Gt | .ge => .GtE | .isin => .In | .notin => .NotIn | .isn => .Is | .isnot => .IsNot
theorem cmp_all (hu : X.A.units + 64 < cLine) (op : COp) : OpR X (compareOp (cop op)) (rCmp X.K (cmpD op)) := by
  cases op
  · exact cmp_eq hu
  · exact cmp_ne hu
  · exact cmp_lt hu
  · exact cmp_le hu
  · exact cmp_gt hu
  · exact cmp_ge hu
  · exact cmp_in hu
  · exact cmp_notin hu
  · exact cmp_is
  · exact cmp_isnot
end
end Mn
set_option Elab.async false
set_option linter.all false
set_option maxRecDepth 100000
set_option autoImplicit false
namespace Mn
open PySem PySem.Spec L2

/-! ### arguments without a star -/
def isStar : Expr → Bool
  | .Starred _ _ => true
  | _ => false
theorem starEach_cons {e : Expr} (h : isStar e = false) (es : List Expr) (env : Env) : starEach (e :: es) env = (false, eval e env) :: starEach es env := by
  cases e <;> first | rfl | (exact absurd h (by simp [isStar]))
theorem starEach_plain : ∀ (es : List Expr) (env : Env), es.all (fun e => !isStar e) = true → (starEach es env).any (·.1) = false
  | [], _, _ => rfl
  | e :: es, env, h => by
    simp only [List.all_cons, Bool.and_eq_true, Bool.not_eq_true'] at h
    rw [starEach_cons h.1, List.any_cons, starEach_plain es env h.2]; rfl
theorem backTo_any {pos : Pos} : ∀ (l : List (Bool × Sem Value)), (backTo pos l).any (·.1) = l.any (·.1)
  | [] => rfl
  | x :: r => by
    have ih := backTo_any (pos := pos) r
    first
      | (simp only [backTo, List.map_cons, List.any_cons] at *; rw [ih])
      | (simp [backTo])
theorem backTo_plain {pos : Pos} {es : List Expr} {env : Env} (h : es.all (fun e => !isStar e) = true) : (backTo pos (starEach es env)).any (·.1) = false := by
  rw [backTo_any]; exact starEach_plain es env h

section
variable {X : Cx} {W : WXm} {a b e : Expr} {es : List Expr} {pos p : Pos} {ra rb : Mu → Rs D} {rs : Mu → Rs (List D)}
theorem ja_nil : JA X W [] fun μ => .ok [] μ := pa_mono pa_nil fun _ _ _ ⟨_, _, _, _, S, p⟩ => p _ _ S .refl .nil
theorem ja_cons (ha : JE X W e ra) (hr : JA X W es rs) (hs : isStar e = false) : JA X W (e :: es) fun μ => (ra μ).bind fun x μ1 => (rs μ1).bind fun xs μ2 => .ok (x :: xs) μ2 := by
  refine pa_mono (pa_cons ha hr (starEach_cons hs _ _)) fun σ H Q ⟨c, L, M, μ, S, p⟩ => ⟨c, L, M, μ, S, p.bind fun x μ1 v H1 S1 k1 d1 p1 => ⟨c, L, M, μ1, S1, p1.bind fun y μ2 w H2 S2 k2 d2 p2 => ?_⟩⟩
  exact p2 _ _ S2 .refl (.cons (S2.dk d1 k2) d2)
theorem small_line {n : Nat} (h : n ≤ 1000) : n ≤ sizeLine := Nat.le_trans h (by decide)
theorem je_tup {k : Nat} (h : JA X W es rs) (hz : ∀ μ xs μ', rs μ = .ok xs μ' → xs.length ≤ 1000) : JE X W (.Tuple es k pos) fun μ => (rs μ).bind fun xs μ1 => .ok (.tuple xs) μ1 := by
  refine pe_mono (pe_tupE h) fun σ H Q ⟨c, L, M, μ, S, p⟩ => ⟨c, L, M, μ, S, p.bindE fun x μ1 v H1 e S1 k1 d1 p1 => ⟨?_, fun p ti tn hp => ?_⟩⟩
  · have d1 : Dvs X.K H1 L x v := d1
    rw [← d1.length]; exact small_line (hz _ _ _ e)
  · obtain ⟨h1, h2, h3⟩ := S1.newTup ti tn d1 hp
    exact p1 _ _ h1 h2 h3

/-! ### new lists: borne alone -/
/-- a new list at a, that nothing else holds -/
def rF (K : PySem.W.Frag) (d : D) (L : Ads) (a : Addr) (H : Hp) : Prop := (∃ ds vs, d = .list ds ∧ H a = some (.lst vs) ∧ Dvs K H (plusA L a) ds vs) ∨ (∃ es xs, d = .dict es ∧ IsDct H a xs ∧ Dvk K H (plusA L a) es xs)
def Pf (K : PySem.W.Frag) (c : Ent) (L M : Ads) (W : WXm) (σ : St) (H : Hp) (Q : VK) : Rs D → Prop
  | .ok d μ' => ∀ a H', Sr K c L M μ' σ H' → Sr K c (plusA L a) M μ' σ H' → Kp M H H' → ¬ L a → (∀ b, H a = some b → False) → rF K d L a H' → Q (.ref a) H'
  | .ex x μ' => ∀ H', Sr K c L M μ' σ H' → Kp M H H' → W x σ H'
  | .st => False
def Tf (K : PySem.W.Frag) (W : WXm) (r : Mu → Rs D) : TE := fun σ H Q => ∃ c L M μ, Sr K c L M μ σ H ∧ Pf K c L M W σ H Q (r μ)
abbrev JF (X : Cx) (W : WXm) (e : Expr) (r : Mu → Rs D) : Prop := PE X e (Tf X.K W r)
theorem plus_sub {L : Ads} {a b : Addr} (h : L b) : plusA L a b := .inl h
theorem rF.dv {K : PySem.W.Frag} {d : D} {L : Ads} {a : Addr} {H : Hp} (f : rF K d L a H) (n : ¬ L a) : Dv K H L d (.ref a) := by
  rcases f with ⟨ds, vs, rfl, h1, h2⟩ | ⟨es, kvs, rfl, h1, h2⟩
  · exact .lst n (.inl h1) (h2.anti fun _ h => .inl h)
  · exact .dct n h1 (h2.anti fun _ h => .inl h)
/-- a new list is a value -/
theorem JF.je {r : Mu → Rs D} (h : JF X W e r) : JE X W e r := pe_mono h fun σ H Q ⟨c, L, M, μ, S, p⟩ => ⟨c, L, M, μ, S, by
  cases h : r μ with
  | ok d μ' => rw [h] at p; exact fun a H' S1 S2 k n _ f => p _ _ S1 k (f.dv n)
  | ex x μ' => rw [h] at p; exact p
  | st => rw [h] at p; exact p⟩
theorem Pst.bindF {K : PySem.W.Frag} {c : Ent} {L M : Ads} {W : WXm} {σ : St} {H : Hp} {α β : Type} {R : Rl α β} {Q : β → Hp → Prop} {Q2 : VK} {r : Rs α} {k : α → Mu → Rs D} (p : Pf K c L M W σ H Q2 (r.bind k))
    (g : ∀ a μ1 b H1, r = .ok a μ1 → Sr K c L M μ1 σ H1 → Kp M H H1 → R L a b H1 → Pf K c L M W σ H1 Q2 (k a μ1) → Q b H1) (hn : ∀ a H', (∀ b, H' a = some b → False) → Kp M H H' → (∀ a, M a → L a) → ¬ L a → ∀ b, H a = some b → False := by
      intro a H' n k ml nl b e; exact n b (k a b e fun m => nl (ml a m))) : Pst K c L M W σ H R Q r := by
  cases r with
  | ok a μ =>
    intro b H' S k' h
    refine g a μ b H' rfl S k' h ?_
    have p' : Pf K c L M W σ H Q2 (k a μ) := p
    cases h2 : k a μ with
    | ok d μ2 =>
      rw [h2] at p'
      intro a' H2 S1 S2 k2 n nh f
      exact p' a' H2 S1 S2 (k'.trans k2) n (hn a' H' nh k' S.ml n) f
    | ex x μ2 => rw [h2] at p'; intro H2 S1 k2; exact p' H2 S1 (k'.trans k2)
    | st => rw [h2] at p'; exact p'
  | ex x μ => exact p
  | st => exact p
theorem Sr.newF {K : PySem.W.Frag} {c : Ent} {L M : Ads} {μ : Mu} {σ : St} {H : Hp} (S : Sr K c L M μ σ H) {ds : List D} {vs : List V} {p : Addr} (w : Dvs K H L ds vs) (n : H p = none) :
    Sr K c L M μ σ (upd H p (.lst vs)) ∧ Sr K c (plusA L p) M μ σ (upd H p (.lst vs)) ∧ Kp M H (upd H p (.lst vs)) ∧ ¬ L p ∧ (∀ b, H p = some b → False) ∧ rF K (.list ds) L p (upd H p (.lst vs)) :=
  ⟨S.laid n, S.plus n, Kp.laid n, S.free n, (fun b e => by rw [n] at e; cases e), .inl ⟨ds, vs, rfl, upd_same, (w.plus n).keep (Kp.laid n)⟩⟩
theorem jf_disp (h : JA X W es rs) (hz : ∀ μ xs μ', rs μ = .ok xs μ' → xs.length ≤ 1000) : JF X W (.List es pos) fun μ => (rs μ).bind fun xs μ1 => .ok (.list xs) μ1 := by
  refine pe_mono (pe_lst h) fun σ H Q ⟨c, L, M, μ, S, p⟩ => ⟨c, L, M, μ, S, Pst.bindF p fun x μ1 v H1 e S1 k1 d1 p1 => ⟨?_, fun p hp => ?_⟩⟩
  · have d1 : Dvs X.K H1 L x v := d1
    rw [← d1.length]; exact small_line (hz _ _ _ e)
  · obtain ⟨h1, h2, h3, h4, h5, h6⟩ := S1.newF d1 hp
    exact p1 _ _ h1 h2 h3 h4 h5 h6
end

/-! ### tests -/
section
variable {X : Cx} {W : WXm} {a b e : Expr} {es : List Expr} {pos p : Pos} {ra rb : Mu → Rs D}
/-- a bool as a test, where the test asks the value -/
theorem jt_val (h : JE X W e ra) (he : ∀ whole, isTrue e X.env whole = (do let v ← whole; standAt e.pos; holding [v] (truthy v))) : JT X W e fun μ => bitOf (ra μ) := by
  refine pt_mono (pt_val h he) fun σ H Q ⟨c, L, M, μ, S, p⟩ => ⟨c, L, M, μ, S, p.bind fun x μ1 v H1 S1 k1 d1 p1 => ?_⟩
  obtain ⟨z, e, q⟩ := p1.opt
  unfold toB at e
  split at e
  · cases e; cases d1; exact ⟨_, rfl, q _ _ S1 .refl rfl⟩
  · cases e
theorem Pst.bits {K : PySem.W.Frag} {c : Ent} {L M : Ads} {σ : St} {H : Hp} {γ δ : Type} {R2 : Rl γ δ} {Q : VK} {Q2 : δ → Hp → Prop} {r : Rs D} {k : Bool → Mu → Rs γ} (p : Pst K c L M W σ H R2 Q2 ((bitOf r).bind k))
    (g : ∀ b μ1 H1, Sr K c L M μ1 σ H1 → Kp M H H1 → Pst K c L M W σ H1 R2 Q2 (k b μ1) → Q (.bl b) H1) : Pst K c L M W σ H (rD K) Q r := by
  cases r with
  | ok d μ1 =>
    intro v H1 S1 k1 d1
    have p1 : Pst K c L M W σ H R2 Q2 ((Rs.opt (toB d) μ1).bind k) := p
    unfold toB at p1
    split at p1
    · cases d1; exact g _ _ _ S1 k1 (Pst.up k1 p1)
    · exact p1.elim
  | ex x μ1 => exact p
  | st => exact p
/-- a test as a bool -/
theorem Tr.bits {K : PySem.W.Frag} {r : Mu → Rs Bool} {σ : St} {H : Hp} {Q : VK} (h : Tr K W (rD K) (fun μ => (r μ).bind fun b μ1 => .ok (.bool b) μ1) σ H Q) : Tr K W rB r σ H (fun b H' => Q (.bl b) H') := by
  obtain ⟨c, L, M, μ, S, p⟩ := h
  exact ⟨c, L, M, μ, S, p.bind fun b μ1 v H1 S1 k1 d1 p1 => by cases d1; exact p1 _ _ S1 .refl (.bl b)⟩
theorem jt_not {r : Mu → Rs Bool} (h : JT X W e r) : JT X W (.UnaryOp .Not e pos) fun μ => (r μ).bind fun b μ1 => .ok (!b) μ1 :=
  pt_mono (pt_not h) fun σ H Q ⟨c, L, M, μ, S, p⟩ => ⟨c, L, M, μ, S, p.bind fun x μ1 v H1 S1 k1 d1 p1 => by cases d1; exact p1 _ _ S1 .refl rfl⟩
theorem je_not (h : JE X W e ra) : JE X W (.UnaryOp .Not e pos) fun μ => (bitOf (ra μ)).bind fun b μ1 => .ok (.bool (!b)) μ1 :=
  pe_mono (pe_not h) fun σ H Q ⟨c, L, M, μ, S, p⟩ => ⟨c, L, M, μ, S, Pst.bits p fun b μ1 H1 S1 k1 p1 => ⟨b, rfl, p1 _ _ S1 .refl (.bl _)⟩⟩
/-- and, or: the rest of the operands -/
def andR (r : Mu → Rs Bool) (rs : Mu → Rs Bool) : Mu → Rs Bool := fun μ => (r μ).bind fun b μ1 => match b with
  | true => rs μ1
  | false => .ok false μ1
def orR (r : Mu → Rs Bool) (rs : Mu → Rs Bool) : Mu → Rs Bool := fun μ => (r μ).bind fun b μ1 => match b with
  | true => .ok true μ1
  | false => rs μ1
theorem jw_and {r rs : Mu → Rs Bool} (h : JT X W a r) (hr : PW X (.BoolOp .And (b :: es) pos) (Tr X.K W rB rs)) : PW X (.BoolOp .And (a :: b :: es) pos) (Tr X.K W rB (andR r rs)) :=
  pw_mono (pw_and h hr) fun σ H Q ⟨c, L, M, μ, S, p⟩ => ⟨c, L, M, μ, S, Pst.bind p fun x μ1 v H1 S1 k1 d1 p1 => by
    cases d1
    cases x with
    | true => rw [if_pos rfl]; exact ⟨c, L, M, μ1, S1, p1⟩
    | false => rw [if_neg Bool.false_ne_true]; exact p1 _ _ S1 .refl rfl⟩
theorem jw_or {r rs : Mu → Rs Bool} (h : JT X W a r) (hr : PW X (.BoolOp .Or (b :: es) pos) (Tr X.K W rB rs)) : PW X (.BoolOp .Or (a :: b :: es) pos) (Tr X.K W rB (orR r rs)) :=
  pw_mono (pw_or h hr) fun σ H Q ⟨c, L, M, μ, S, p⟩ => ⟨c, L, M, μ, S, Pst.bind p fun x μ1 v H1 S1 k1 d1 p1 => by
    cases d1
    cases x with
    | true => rw [if_pos rfl]; exact p1 _ _ S1 .refl rfl
    | false => rw [if_neg Bool.false_ne_true]; exact ⟨c, L, M, μ1, S1, p1⟩⟩
/-- the same as values: only bools -/
theorem je_bit (h : JE X W e ra) : JE X W e fun μ => (bitOf (ra μ)).bind fun b μ1 => .ok (.bool b) μ1 :=
  pe_mono h fun σ H Q ⟨c, L, M, μ, S, p⟩ => ⟨c, L, M, μ, S, Pst.bits p fun b μ1 H1 S1 k1 p1 => p1 _ _ S1 .refl (.bl _)⟩
theorem je_and {rs : Mu → Rs D} (h : JE X W a ra) (hr : JE X W (.BoolOp .And (b :: es) pos) rs) :
    JE X W (.BoolOp .And (a :: b :: es) pos) fun μ => (bitOf (ra μ)).bind fun b μ1 => match b with
      | true => rs μ1
      | false => .ok (.bool false) μ1 :=
  pe_mono (pe_and h hr) fun σ H Q ⟨c, L, M, μ, S, p⟩ => ⟨c, L, M, μ, S, Pst.bits p fun b μ1 H1 S1 k1 p1 => by
    cases b with
    | true => exact ⟨true, rfl, by rw [if_pos rfl]; exact ⟨c, L, M, μ1, S1, p1⟩⟩
    | false => exact ⟨false, rfl, by rw [if_neg Bool.false_ne_true]; exact p1 _ _ S1 .refl (.bl _)⟩⟩
theorem je_or {rs : Mu → Rs D} (h : JE X W a ra) (hr : JE X W (.BoolOp .Or (b :: es) pos) rs) :
    JE X W (.BoolOp .Or (a :: b :: es) pos) fun μ => (bitOf (ra μ)).bind fun b μ1 => match b with
      | true => .ok (.bool true) μ1
      | false => rs μ1 :=
  pe_mono (pe_or h hr) fun σ H Q ⟨c, L, M, μ, S, p⟩ => ⟨c, L, M, μ, S, Pst.bits p fun b μ1 H1 S1 k1 p1 => by
    cases b with
    | true => exact ⟨true, rfl, by rw [if_pos rfl]; exact p1 _ _ S1 .refl (.bl _)⟩
    | false => exact ⟨false, rfl, by rw [if_neg Bool.false_ne_true]; exact ⟨c, L, M, μ1, S1, p1⟩⟩⟩
theorem je_ife {cnd : Expr} {r : Mu → Rs Bool} (hc : JT X W cnd r) (ha : JE X W a ra) (hb : JE X W b rb) :
    JE X W (.IfExp cnd a b pos) fun μ => (r μ).bind fun t μ1 => match t with
      | true => ra μ1
      | false => rb μ1 :=
  pe_mono (pe_ifExp hc ha hb) fun σ H Q ⟨c, L, M, μ, S, p⟩ => ⟨c, L, M, μ, S, Pst.bind p fun x μ1 v H1 S1 k1 d1 p1 => by
    cases d1
    cases x with
    | true => rw [if_pos rfl]; exact ⟨c, L, M, μ1, S1, p1⟩
    | false => rw [if_neg Bool.false_ne_true]; exact ⟨c, L, M, μ1, S1, p1⟩⟩
/-! ### comparisons -/
def cmpR (op : COp) (ra rb : Mu → Rs D) : Mu → Rs D := fun μ => (ra μ).bind fun x μ1 => (rb μ1).bind fun y μ2 => Rs.opt ((cmpD op x y).map .bool) μ2
theorem cmp_bool {op : COp} {x y z : D} (h : (cmpD op x y).map PyData.bool = some z) : ∃ b, cmpD op x y = some b ∧ z = .bool b := by
  cases q : cmpD op x y with
  | none => rw [q] at h; cases h
  | some b => rw [q] at h; cases h; exact ⟨b, rfl, rfl⟩
theorem tr_cmp {op : COp} {σ : St} {H : Hp} {Q : VK} (h : Tr X.K W (rD X.K) (cmpR op ra rb) σ H Q) :
    tOp (rCmp X.K (cmpD op)) (Tr X.K W (rD X.K) ra) (Tr X.K W (rW X.K) rb) σ H Q := by
  obtain ⟨c, L, M, μ, S, p⟩ := h
  refine ⟨c, L, M, μ, S, Pst.bind p fun x μ1 v H1 S1 k1 d1 p1 => ⟨c, L, M, μ1, S1, p1.bind fun y μ2 w H2 S2 k2 d2 p2 => ?_⟩⟩
  obtain ⟨z, e, q⟩ := p2.opt
  obtain ⟨bb, e1, rfl⟩ := cmp_bool e
  exact ⟨L, x, y, bb, .inl (S2.dk d1 k2), d2, e1, q _ _ S2 .refl (.bl _)⟩
theorem je_cmp {op : COp} (hu : X.A.units + 64 < cLine) (ha : JE X W a ra) (hb : JP X W b rb) (hm : behindInMarks (cop op) b = false) : JE X W (.Compare a [cop op] [b] pos) (cmpR op ra rb) :=
  pe_mono (pe_cmpR (cmp_all hu op) ha hb hm) fun σ H Q h => tr_cmp h
theorem jt_cmp {op : COp} (hu : X.A.units + 64 < cLine) (ha : JE X W a ra) (hb : JP X W b rb) (hm : behindInMarks (cop op) b = false) : JT X W (.Compare a [cop op] [b] pos) fun μ => bitOf (cmpR op ra rb μ) := by
  refine pt_mono (pt_cmpR (cmp_all hu op) ha hb hm) fun σ H Q ⟨c, L, M, μ, S, p⟩ => tr_cmp ⟨c, L, M, μ, S, ?_⟩
  refine Pst.bind p fun x μ1 v H1 S1 k1 d1 p1 => ?_
  obtain ⟨z, e, q⟩ := p1.opt
  unfold toB at e
  split at e
  · cases e; cases d1; exact ⟨_, rfl, q _ _ S1 .refl rfl⟩
  · cases e
/-- the first operand a slot's own object -/
def cmpK (op : COp) (i : Nat) (rb : Mu → Rs D) : Mu → Rs D := fun μ => (Rs.opt (peek μ i) μ).bind fun _ μ1 => (rb μ1).bind fun y μ2 => Rs.opt ((peek μ2 i).bind fun x' => (cmpD op x' y).map .bool) μ2
theorem tr_cmpK {op : COp} {i : Nat} {σ : St} {H : Hp} {Q : VK} (h : Tr X.K W (rD X.K) (cmpK op i rb) σ H Q) :
    tOp (rCmp X.K (cmpD op)) (tVar i) (Tr X.K W (rW X.K) rb) σ H Q := by
  obtain ⟨c, L, M, μ, S, p⟩ := h
  unfold cmpK at p
  cases hp : peek μ i with
  | none => rw [hp] at p; exact p.elim
  | some d0 =>
    rw [hp] at p
    obtain ⟨v, hv, _⟩ := S.peek hp
    refine ⟨v, hv, c, L, M, μ, S, Pst.bind p fun y μ2 w H2 S2 k2 d2 p2 => ?_⟩
    obtain ⟨z, e, q⟩ := p2.opt
    cases hp2 : peek μ2 i with
    | none => rw [hp2] at e; cases e
    | some d1 =>
      rw [hp2] at e
      obtain ⟨bb, e1, rfl⟩ := cmp_bool (show (cmpD op d1 y).map PyData.bool = some z from e)
      obtain ⟨v', hv', w'⟩ := S2.peek hp2
      have : v = v' := by rw [hv] at hv'; exact Option.some.inj (Option.some.inj hv')
      subst this
      exact ⟨L, d1, y, bb, w', d2, e1, q _ _ S2 .refl (.bl _)⟩
theorem je_cmpK {op : COp} {i : Nat} {x : Str} {p1 : Pos} (hu : X.A.units + 64 < cLine) (hN : X.N[i]? = some x) (hv : Vis X.env.scope x) (hd : (x == ("__debug__" : Str)) = false) (hcd : (x == ("__classdict__" : Str)) = false) (hb : JP X W b rb) (hm : behindInMarks (cop op) b = false) :
    JE X W (.Compare (.Name x p1) [cop op] [b] pos) (cmpK op i rb) := pe_mono (pe_cmpR (cmp_all hu op) (pe_var (i := i) hN hv hd hcd) hb hm) fun σ H Q h => tr_cmpK h
theorem jt_cmpK {op : COp} {i : Nat} {x : Str} {p1 : Pos} (hu : X.A.units + 64 < cLine) (hN : X.N[i]? = some x) (hv : Vis X.env.scope x) (hd : (x == ("__debug__" : Str)) = false) (hcd : (x == ("__classdict__" : Str)) = false) (hb : JP X W b rb) (hm : behindInMarks (cop op) b = false) :
    JT X W (.Compare (.Name x p1) [cop op] [b] pos) fun μ => bitOf (cmpK op i rb μ) := by
  refine pt_mono (pt_cmpR (cmp_all hu op) (pe_var (i := i) hN hv hd hcd) hb hm) fun σ H Q ⟨c, L, M, μ, S, p⟩ => tr_cmpK ⟨c, L, M, μ, S, ?_⟩
  refine Pst.bind p fun x μ1 v H1 S1 k1 d1 p1 => ?_
  obtain ⟨z, e, q⟩ := p1.opt
  unfold toB at e
  split at e
  · cases e; cases d1; exact ⟨_, rfl, q _ _ S1 .refl rfl⟩
  · cases e
end
end Mn
set_option Elab.async false
set_option linter.all false
set_option maxRecDepth 100000
set_option autoImplicit false
namespace Mn
open PySem PySem.Spec L2
section
variable {X : Cx} {W : WXm} {a b e : Expr} {es : List Expr} {pos p : Pos} {ra rb : Mu → Rs D}
/-! ### subscripts -/
def rIxX (K : PySem.W.Frag) : R2 := fun x y H Q => ∃ L d e z, Dw K H L d x ∧ Dv K H L e y ∧ ixD d e = some z ∧ ∀ v, Dv K H L z v → Q v H
theorem atI_get {K : PySem.W.Frag} {H : Hp} {L : Ads} {ds : List D} {vs : List V} {i : Int} {z : D} (w : Dvs K H L ds vs) (h : atI ds i = some z) : ∃ v, atI vs i = some v ∧ Dv K H L z v := by
  unfold atI at h ⊢
  rw [← w.length]
  cases q : ixN ds.length i with
  | none => rw [q] at h; cases h
  | some j => rw [q] at h; exact w.getD h
theorem ix_all : IxR X (rIxX X.K) := by
  intro value slice pins s σ H x y v u Q I rx ry ⟨L, d, e, z, hx, hy, hg, q⟩ hs
  unfold ixD at hg
  split at hg
  · obtain ⟨a, vs, rfl, sa, wa⟩ := hx.lst
    cases hy
    obtain ⟨w, h1, h2⟩ := atI_get wa hg
    exact ix_list value slice pins s σ H _ _ v u Q I rx ry ⟨a, vs, _, w, rfl, rfl, sa, h1, q w h2⟩ hs
  · obtain ⟨a, vs, rfl, sa, wa⟩ := hx.tup
    cases hy
    obtain ⟨w, h1, h2⟩ := atI_get wa hg
    exact ix_tup value slice pins s σ H _ _ v u Q I rx ry ⟨a, vs, _, w, rfl, rfl, sa, h1, q w h2⟩ hs
  · cases hg
def isSlice : Expr → Bool
  | .Slice _ _ _ _ => true
  | _ => false
theorem plainIx_of {b : Expr} (h : isSlice b = false) : PlainIx b := fun o i => by
  cases b <;> first | rfl | (exact absurd h (by simp [isSlice]))
theorem je_ix (ha : JE X W a ra) (hb : JE X W b rb) (hs : isSlice b = false) : JE X W (.Subscript a b pos) fun μ => (ra μ).bind fun x μ1 => (rb μ1).bind fun y μ2 => Rs.opt (ixD x y) μ2 := by
  refine pe_mono (pe_ix ix_all ha hb (plainIx_of hs)) fun σ H Q ⟨c, L, M, μ, S, p⟩ => ⟨c, L, M, μ, S, p.bind fun x μ1 v H1 S1 k1 d1 p1 => ⟨c, L, M, μ1, S1, p1.bind fun y μ2 w H2 S2 k2 d2 p2 => ?_⟩⟩
  obtain ⟨z, e, q⟩ := p2.opt
  exact ⟨L, x, y, z, .inl (S2.dk d1 k2), d2, e, fun v hv => q _ _ S2 .refl hv⟩
/-- of a slot's own object -/
theorem je_ixK {i : Nat} {x : Str} {p1 : Pos} (hN : X.N[i]? = some x) (hv : Vis X.env.scope x) (hd : (x == ("__debug__" : Str)) = false) (hcd : (x == ("__classdict__" : Str)) = false) (hb : JE X W b rb) (hs : isSlice b = false) :
    JE X W (.Subscript (.Name x p1) b pos) fun μ => (Rs.opt (peek μ i) μ).bind fun _ μ1 => (rb μ1).bind fun y μ2 => Rs.opt ((peek μ2 i).bind fun x' => ixD x' y) μ2 := by
  refine pe_mono (pe_ix ix_all (pe_var (i := i) hN hv hd hcd) hb (plainIx_of hs)) fun σ H Q ⟨c, L, M, μ, S, p⟩ => ?_
  cases hp : peek μ i with
  | none => simp only [hp] at p; exact p.elim
  | some d0 =>
    simp only [hp] at p
    obtain ⟨v, hv, _⟩ := S.peek hp
    refine ⟨v, hv, c, L, M, μ, S, Pst.bind (k := fun y μ2 => Rs.opt ((peek μ2 i).bind fun x' => ixD x' y) μ2) p fun y μ2 w H2 S2 k2 d2 p2 => ?_⟩
    obtain ⟨z, e, q⟩ := p2.opt
    cases hp2 : peek μ2 i with
    | none => rw [hp2] at e; cases e
    | some d1 =>
      rw [hp2] at e
      obtain ⟨v', hv', w'⟩ := S2.peek hp2
      have : v = v' := by rw [hv] at hv'; exact Option.some.inj (Option.some.inj hv')
      subst this
      exact ⟨L, d1, y, z, w', d2, e, fun v hv => q _ _ S2 .refl hv⟩
/-! ### slices -/
abbrev JO (X : Cx) (W : WXm) (e : Option Expr) (r : Mu → Rs (Option Int)) : Prop := PO X e (Tr X.K W rO r)
theorem po_mono {e : Option Expr} {t t' : TO} (h : PO X e t) (i : ∀ σ H Q, t' σ H Q → t σ H Q) : PO X e t' := ⟨fun pins s σ H Q I q => h.run pins s σ H Q I (i σ H Q q)⟩
theorem jo_none : JO X W none fun μ => .ok none μ := po_mono po_none fun _ _ _ ⟨_, _, _, _, S, p⟩ => p _ _ S .refl rfl
theorem jo_some (h : JE X W e ra) : JO X W (some e) fun μ => (ra μ).bind fun x μ1 => Rs.opt ((toI x).map some) μ1 := by
  refine po_mono (po_some h) fun σ H Q ⟨c, L, M, μ, S, p⟩ => ⟨c, L, M, μ, S, p.bind fun x μ1 v H1 S1 k1 d1 p1 => ?_⟩
  obtain ⟨z, e, q⟩ := p1.opt
  unfold toI at e
  split at e
  · cases e; cases d1; exact ⟨_, rfl, q _ _ S1 .refl rfl⟩
  · cases e
theorem cut_dvs {K : PySem.W.Frag} {H : Hp} {L : Ads} {ds : List D} {vs : List V} (lo hi : Option Int) (w : Dvs K H L ds vs) : Dvs K H L (cutD ds lo hi) (cutV vs lo hi) := by
  unfold cutD cutV
  rw [w.length]
  exact (w.drop _).take _
def rSlX (K : PySem.W.Frag) : V → Option Int → Option Int → Hp → VK → Prop := fun x lo hi H Q => ∃ c L M μ σ d z, Sr K c L M μ σ H ∧ Dw K H L d x ∧ slD d lo hi = some z ∧ ∀ v H', Sr K c L M μ σ H' → Kp M H H' → Dv K H' L z v → Q v H'
theorem slR_by {r' : V → Option Int → Option Int → Hp → VK → Prop} (h : ∀ x lo hi H Q, r' x lo hi H Q → ∃ r, SlR X r ∧ r x lo hi H Q) : SlR X r' := fun pins s σ H x v vl vu lo hi sl Q I rx hs pl pu q =>
  let ⟨r, h1, h2⟩ := h x lo hi H Q q
  h1 pins s σ H x v vl vu lo hi sl Q I rx hs pl pu h2
theorem sl_all : SlR X (rSlX X.K) := slR_by fun x lo hi H Q ⟨c, L, M, μ, σ, d, z, S, hx, hg, q⟩ => by
  unfold slD at hg
  split at hg
  · rename_i xs
    cases hg
    obtain ⟨a, vs, rfl, sa, wa⟩ := hx.tup
    refine ⟨_, sl_tupN, a, vs, rfl, sa, fun hw => ?_, fun _ p ti tn hp => ?_⟩
    · have e : cutD xs lo hi = xs := by
        unfold cutD
        rw [wa.length, hw.1, hw.2, List.drop_zero, Nat.sub_zero, ← wa.length, List.take_length]
      rw [e] at q
      rcases hx with hx | ⟨_, _, ⟨_, _, e, _⟩ | ⟨_, _, e, _⟩⟩
      · exact q _ _ S .refl hx
      · cases e
      · cases e
    · obtain ⟨h1, h2, h3⟩ := S.newTup ti tn (cut_dvs lo hi wa) hp
      exact q _ _ h1 h2 h3
  · cases hg
    obtain ⟨a, vs, rfl, sa, wa⟩ := hx.lst
    refine ⟨_, sl_list, a, vs, rfl, sa, fun p hp => ?_⟩
    obtain ⟨h1, h2, h3⟩ := S.newLst (cut_dvs lo hi wa) hp
    exact q _ _ h1 h2 h3
  · cases hg
theorem je_sl {lo hi : Option Expr} {rl rh : Mu → Rs (Option Int)} {p2 : Pos} (ha : JE X W a ra) (hl : JO X W lo rl) (hh : JO X W hi rh) :
    JE X W (.Subscript a (.Slice lo hi none p2) pos) fun μ => (ra μ).bind fun x μ1 => (rl μ1).bind fun l μ2 => (rh μ2).bind fun h μ3 => Rs.opt (slD x l h) μ3 := by
  refine pe_mono (pe_slice sl_all ha hl hh) fun σ H Q ⟨c, L, M, μ, S, p⟩ => ⟨c, L, M, μ, S, p.bind fun x μ1 v H1 S1 k1 d1 p1 => ⟨c, L, M, μ1, S1, p1.bind fun y μ2 w H2 S2 k2 d2 p2 => ⟨c, L, M, μ2, S2, p2.bind fun y' μ3 w' H3 S3 k3 d3 p3 => ?_⟩⟩⟩
  obtain ⟨z, e, q⟩ := p3.opt
  cases d2
  cases d3
  exact ⟨c, L, M, μ3, σ, x, z, S3, .inl (S3.dk (S2.dk d1 k2) k3), e, q⟩
/-! ### built-ins of one argument -/
def rC1 (K : PySem.W.Frag) (g : D → Option D) : List V → Hp → VK → Prop := fun xs H Q => ∃ c L M μ σ x d z, xs = [x] ∧ Sr K c L M μ σ H ∧ Dw K H L d x ∧ g d = some z ∧ ∀ v H', Sr K c L M μ σ H' → Kp M H H' → Dv K H' L z v → Q v H'
theorem callR_by {f : Value} {r' : List V → Hp → VK → Prop} (h : ∀ xs H Q, r' xs H Q → ∃ r, CallR X f r ∧ r xs H Q) : CallR X f r' := fun pins s σ H xs us Q I rv q =>
  let ⟨r, h1, h2⟩ := h xs H Q q
  h1 pins s σ H xs us Q I rv h2
theorem boolsOf_some : ∀ {ds : List D} {bs : List Bool}, boolsOf ds = some bs → ds = bs.map PyData.bool
  | [], bs, h => by cases h; rfl
  | .bool b :: r, bs, h => by
    unfold boolsOf at h
    cases q : boolsOf r with
    | none => rw [q] at h; cases h
    | some cs => rw [q] at h; cases h; rw [boolsOf_some q]; rfl
  | .none :: _, _, h => by cases h
  | .int _ :: _, _, h => by cases h
  | .str _ :: _, _, h => by cases h
  | .list _ :: _, _, h => by cases h
  | .tuple _ :: _, _, h => by cases h
  | .dict _ :: _, _, h => by cases h
theorem intsOf_some : ∀ {ds : List D} {bs : List Int}, intsOf ds = some bs → ds = bs.map PyData.int
  | [], bs, h => by cases h; rfl
  | .int b :: r, bs, h => by
    unfold intsOf at h
    cases q : intsOf r with
    | none => rw [q] at h; cases h
    | some cs => rw [q] at h; cases h; rw [intsOf_some q]; rfl
  | .none :: _, _, h => by cases h
  | .bool _ :: _, _, h => by cases h
  | .str _ :: _, _, h => by cases h
  | .list _ :: _, _, h => by cases h
  | .tuple _ :: _, _, h => by cases h
  | .dict _ :: _, _, h => by cases h
theorem maxL_spec : ∀ (ns : List Int) (m : Int), (maxL ns m = m ∨ maxL ns m ∈ ns) ∧ m ≤ maxL ns m ∧ ∀ y ∈ ns, y ≤ maxL ns m
  | [], m => ⟨.inl rfl, Int.le_refl _, fun _ h => by simp at h⟩
  | x :: r, m => by
    unfold maxL
    obtain ⟨h1, h2, h3⟩ := maxL_spec r (if m < x then x else m)
    split at h1 <;> rename_i hx
    · simp only [if_pos hx] at *
      refine ⟨.inr ?_, by omega, fun y hy => ?_⟩
      · rcases h1 with h1 | h1
        · rw [h1]; exact List.mem_cons_self
        · exact List.mem_cons_of_mem _ h1
      · rcases List.mem_cons.mp hy with rfl | hy
        · exact h2
        · exact h3 y hy
    · simp only [if_neg hx] at *
      refine ⟨?_, h2, fun y hy => ?_⟩
      · rcases h1 with h1 | h1
        · exact .inl h1
        · exact .inr (List.mem_cons_of_mem _ h1)
      · rcases List.mem_cons.mp hy with rfl | hy
        · omega
        · exact h3 y hy
theorem minL_spec : ∀ (ns : List Int) (m : Int), (minL ns m = m ∨ minL ns m ∈ ns) ∧ minL ns m ≤ m ∧ ∀ y ∈ ns, minL ns m ≤ y
  | [], m => ⟨.inl rfl, Int.le_refl _, fun _ h => by simp at h⟩
  | x :: r, m => by
    unfold minL
    obtain ⟨h1, h2, h3⟩ := minL_spec r (if x < m then x else m)
    split at h1 <;> rename_i hx
    · simp only [if_pos hx] at *
      refine ⟨.inr ?_, by omega, fun y hy => ?_⟩
      · rcases h1 with h1 | h1
        · rw [h1]; exact List.mem_cons_self
        · exact List.mem_cons_of_mem _ h1
      · rcases List.mem_cons.mp hy with rfl | hy
        · exact h2
        · exact h3 y hy
    · simp only [if_neg hx] at *
      refine ⟨?_, h2, fun y hy => ?_⟩
      · rcases h1 with h1 | h1
        · exact .inl h1
        · exact .inr (List.mem_cons_of_mem _ h1)
      · rcases List.mem_cons.mp hy with rfl | hy
        · omega
        · exact h3 y hy
theorem c_len : CallR X (.builtin "len") (rC1 X.K lenD) := callR_by fun xs H Q ⟨c, L, M, μ, σ, x, d, z, e, S, hx, hg, q⟩ => by
  subst e
  unfold lenD at hg
  split at hg
  · cases hg
    obtain ⟨a, vs, rfl, sa, wa⟩ := hx.lst
    exact ⟨_, call_len_seq, a, vs, rfl, .inl sa, q _ _ S .refl (by rw [wa.length]; exact .int _)⟩
  · cases hg
    obtain ⟨a, vs, rfl, sa, wa⟩ := hx.tup
    exact ⟨_, call_len_seq, a, vs, rfl, .inr sa, q _ _ S .refl (by rw [wa.length]; exact .int _)⟩
  · cases hg
theorem c_abs : CallR X (.builtin "abs") (rC1 X.K absD) := callR_by fun xs H Q ⟨c, L, M, μ, σ, x, d, z, e, S, hx, hg, q⟩ => by
  subst e
  unfold absD at hg
  split at hg
  · rename_i i
    cases hg
    have := hx.sc (by simp) (by simp)
    cases this
    have e : (if i < 0 then -i else i) = (i.natAbs : Int) := by split <;> omega
    exact ⟨_, call_abs, i, rfl, q _ _ S .refl (by rw [e]; exact .int _)⟩
  · cases hg
theorem c_all (hc : X.calm = true) : CallR X (.builtin "all") (rC1 X.K allD) := callR_by fun xs H Q ⟨c, L, M, μ, σ, x, d, z, e, S, hx, hg, q⟩ => by
  subst e
  unfold allD at hg
  split at hg
  · rename_i ds
    obtain ⟨a, vs, rfl, sa, wa⟩ := hx.lst
    cases hb : boolsOf ds with
    | none => rw [hb] at hg; cases hg
    | some bs =>
      rw [hb] at hg; cases hg
      rw [boolsOf_some hb] at wa
      rw [wa.bools] at sa
      exact ⟨_, cr_all hc, a, bs, rfl, sa, q _ _ S .refl (.bl _)⟩
  · cases hg
theorem c_any (hc : X.calm = true) : CallR X (.builtin "any") (rC1 X.K anyD) := callR_by fun xs H Q ⟨c, L, M, μ, σ, x, d, z, e, S, hx, hg, q⟩ => by
  subst e
  unfold anyD at hg
  split at hg
  · rename_i ds
    obtain ⟨a, vs, rfl, sa, wa⟩ := hx.lst
    cases hb : boolsOf ds with
    | none => rw [hb] at hg; cases hg
    | some bs =>
      rw [hb] at hg; cases hg
      rw [boolsOf_some hb] at wa
      rw [wa.bools] at sa
      exact ⟨_, cr_any hc, a, bs, rfl, sa, q _ _ S .refl (.bl _)⟩
  · cases hg
theorem c_sum (hc : X.calm = true) : CallR X (.builtin "sum") (rC1 X.K sumD) := callR_by fun xs H Q ⟨c, L, M, μ, σ, x, d, z, e, S, hx, hg, q⟩ => by
  subst e
  unfold sumD at hg
  split at hg
  · rename_i ds
    obtain ⟨a, vs, rfl, sa, wa⟩ := hx.lst
    cases hb : intsOf ds with
    | none => rw [hb] at hg; cases hg
    | some bs =>
      rw [hb] at hg; cases hg
      rw [intsOf_some hb] at wa
      rw [wa.ints] at sa
      exact ⟨_, cr_sum hc, a, bs, rfl, sa, q _ _ S .refl (.int _)⟩
  · cases hg
theorem listsOf_some : ∀ {ds : List D} {ks : List (List Int)}, listsOf ds = some ks → ds = ks.map fun k => PyData.list (k.map .int)
  | [], ks, h => by cases h; rfl
  | .list xs :: r, ks, h => by
    unfold listsOf at h
    split at h
    · rename_i k ks' h1 h2
      cases h
      rw [intsOf_some h1, listsOf_some h2]; rfl
    · cases h
  | .none :: _, _, h | .bool _ :: _, _, h | .int _ :: _, _, h | .str _ :: _, _, h | .tuple _ :: _, _, h | .dict _ :: _, _, h => by simp [listsOf] at h
theorem maxK_data (k : List Int) : ∀ (ks : List (List Int)), PySem.W.maxD (.list (k.map .int)) (ks.map fun k => .list (k.map .int)) = .list ((maxK ks k).map .int) := by
  intro ks
  unfold PySem.W.maxD
  induction ks generalizing k with
  | nil => rfl
  | cons x r ih =>
    rw [List.map_cons, List.foldl_cons]
    have e : PySem.W.dataLt (.list (k.map .int)) (.list (x.map .int)) = decide (k < x) := (PySem.W.dataLt_list _ _).trans (PySem.W.dataLt_ints k x)
    rw [e]
    unfold maxK
    by_cases h : k < x
    · rw [if_pos (decide_eq_true h), if_pos h]; exact ih x
    · rw [if_neg (by simpa using h), if_neg h]; exact ih k
theorem lists_plain : ∀ (ks : List (List Int)), PyData.plainAll (ks.map fun k => PyData.list (k.map .int)) = true
  | [] => rfl
  | k :: ks => by
    show (PyData.plain (.list (k.map .int)) && PyData.plainAll (ks.map fun k => PyData.list (k.map .int))) = true
    rw [lists_plain ks, Bool.and_true]
    show PyData.plainAll (k.map .int) = true
    induction k with
    | nil => rfl
    | cons i k ih => show (true && PyData.plainAll (k.map .int)) = true; rw [ih]; rfl
theorem lists_depth : ∀ (ks : List (List Int)), PyData.depthAll (ks.map fun k => PyData.list (k.map .int)) ≤ 1
  | [] => Nat.zero_le _
  | k :: ks => by
    have := lists_depth ks
    show max (PyData.depth (.list (k.map .int))) (PyData.depthAll (ks.map fun k => PyData.list (k.map .int))) ≤ 1
    have e : PyData.depth (.list (k.map .int)) = 1 := by
      show PyData.depthAll (k.map .int) + 1 = 1
      rw [PySem.W.depth_ints]
    omega
def rMaxK (K : PySem.W.Frag) : List V → Hp → VK → Prop := fun vs H Q => ∃ a k ks L ws, vs = [.ref a] ∧ SqL K H a ws ∧ Dvs K H L ((k :: ks).map fun k => .list (k.map .int)) ws ∧ ∀ v, Dv K H L (.list ((maxK ks k).map .int)) v → Q v H
theorem cr_maxK (hc : X.calm = true) (hu : X.A.units + 64 < cLine) : CallR X (.builtin "max") (rMaxK X.K) := by
  rintro pins s σ H vs us Q I r ⟨a, k, ks, L, ws, rfl, sq, w, q⟩
  obtain ⟨its, rv, hl, _⟩ := I.list sq
  rw [Vals.ref1 r]
  have pl := lists_plain (k :: ks)
  obtain ⟨as, hr⟩ := Dp.readsAll I _ ws its (w.dp pl) rv
  have ha : PySem.W.AlikeAll ((k :: ks).map fun k => PyData.list (k.map .int)) := by
    constructor
    · intro x hx y hy
      obtain ⟨x', _, rfl⟩ := List.mem_map.mp hx
      obtain ⟨y', _, rfl⟩ := List.mem_map.mp hy
      simp [PySem.W.alike, PySem.W.alike_ints]
    · intro x hx e
      obtain ⟨x', _, rfl⟩ := List.mem_map.mp hx
      cases e
  have dp := lists_depth (k :: ks)
  refine PySem.W.max_list_data (vs := its.toArray) (I.ok.hd hc) hl.isList hr ha (by have dp : PyData.depthAll ((fun k => PyData.list (List.map PyData.int k)) k :: List.map (fun k => PyData.list (List.map PyData.int k)) ks) ≤ 1 := dp; omega) fun i v h' tk bs hv hrd hk => ?_
  have I' : Inv X pins σ H { s with heap := h', toks := tk } := I.kept hk
  have hv' : its[i]? = some v := by simpa using hv
  have il : i < ws.length := by rw [rv.length]; exact (List.getElem?_eq_some_iff.mp hv').1
  obtain ⟨wv, e1⟩ : ∃ wv, ws[i]? = some wv := ⟨_, List.getElem?_eq_getElem il⟩
  obtain ⟨v', e0, e2⟩ := Vals.get rv e1
  obtain rfl : v' = v := by rw [hv'] at e0; exact (Option.some.inj e0).symm
  obtain ⟨d, e3, e4⟩ := w.get e1
  have pd : d.plain = true := by
    obtain ⟨x', _, rfl⟩ := List.mem_map.mp (List.mem_of_getElem? e3)
    have := lists_plain [x']
    simpa [PyData.plainAll] using this
  obtain ⟨as', r2⟩ := Dp.reads I' d wv _ (e4.dp pd) e2
  rw [maxK_data] at hrd
  obtain ⟨rfl, _⟩ := Reads.unique hrd _ _ r2
  exact ⟨wv, H, I', e2, q _ e4⟩
theorem c_max (hc : X.calm = true) (hu : X.A.units + 64 < cLine) : CallR X (.builtin "max") (rC1 X.K maxD) := callR_by fun xs H Q ⟨c, L, M, μ, σ, x, d, z, e, S, hx, hg, q⟩ => by
  subst e
  unfold maxD at hg
  split at hg
  · rename_i ds
    split at hg
    · rename_i n ns hb
      cases hg
      obtain ⟨a, vs, rfl, sa, wa⟩ := hx.lst
      rw [intsOf_some hb] at wa
      rw [wa.ints] at sa
      obtain ⟨h1, h2, h3⟩ := maxL_spec ns n
      refine ⟨_, cr_max hc, a, n :: ns, rfl, sa, by simp, fun m hm hle => ?_⟩
      have e : m = maxL ns n := by
        have a1 : maxL ns n ≤ m := by
          rcases h1 with h1 | h1
          · rw [h1]; exact hle _ List.mem_cons_self
          · exact hle _ (List.mem_cons_of_mem _ h1)
        have a2 : m ≤ maxL ns n := by
          rcases List.mem_cons.mp hm with rfl | hm
          · exact h2
          · exact h3 _ hm
        omega
      rw [e]; exact q _ _ S .refl (.int _)
    · unfold maxKD at hg
      split at hg
      · rename_i k ks hb
        cases hg
        obtain ⟨a, vs, rfl, sa, wa⟩ := hx.lst
        rw [listsOf_some hb] at wa
        exact ⟨_, cr_maxK hc hu, a, k, ks, L, vs, rfl, sa, wa, fun v hv => q _ _ S .refl hv⟩
      · cases hg
  · cases hg
theorem c_str : CallR X (.type "str") (rC1 X.K strD) := callR_by fun xs H Q ⟨c, L, M, μ, σ, x, d, z, e, S, hx, hg, q⟩ => by
  subst e
  unfold strD at hg
  split at hg
  · rename_i i
    split at hg
    · rename_i hi
      cases hg
      have := hx.sc (by simp) (by simp)
      cases this
      exact ⟨_, call_str_int, i, rfl, of_decide_eq_true hi, q _ _ S .refl (.str _)⟩
    · cases hg
  · cases hg
theorem c_min (hc : X.calm = true) : CallR X (.builtin "min") (rC1 X.K minD) := callR_by fun xs H Q ⟨c, L, M, μ, σ, x, d, z, e, S, hx, hg, q⟩ => by
  subst e
  unfold minD at hg
  split at hg
  · rename_i ds
    split at hg
    · rename_i n ns hb
      cases hg
      obtain ⟨a, vs, rfl, sa, wa⟩ := hx.lst
      rw [intsOf_some hb] at wa
      rw [wa.ints] at sa
      obtain ⟨h1, h2, h3⟩ := minL_spec ns n
      refine ⟨_, cr_min hc, a, n :: ns, rfl, sa, by simp, fun m hm hle => ?_⟩
      have e : m = minL ns n := by
        have a1 : m ≤ minL ns n := by
          rcases h1 with h1 | h1
          · rw [h1]; exact hle _ List.mem_cons_self
          · exact hle _ (List.mem_cons_of_mem _ h1)
        have a2 : minL ns n ≤ m := by
          rcases List.mem_cons.mp hm with rfl | hm
          · exact h2
          · exact h3 _ hm
        omega
      rw [e]; exact q _ _ S .refl (.int _)
    · cases hg
  · cases hg
theorem c_tuple : CallR X (.type "tuple") (rC1 X.K tupD) := callR_by fun xs H Q ⟨c, L, M, μ, σ, x, d, z, e, S, hx, hg, q⟩ => by
  subst e
  unfold tupD at hg
  split at hg
  · cases hg
    obtain ⟨a, vs, rfl, sa, wa⟩ := hx.lst
    refine ⟨_, call_tupN, a, vs, rfl, .inl ⟨sa, fun p ti tn hp => ?_⟩⟩
    obtain ⟨h1, h2, h3⟩ := S.newTup ti tn wa hp
    exact q _ _ h1 h2 h3
  · cases hg
    obtain ⟨a, vs, rfl, sa, wa⟩ := hx.tup
    exact ⟨_, call_tupN, a, vs, rfl, .inr ⟨sa, q _ _ S .refl (hx.sc (by simp) (by simp))⟩⟩
  · cases hg
theorem c_int : CallR X (.type "int") (rC1 X.K intD) := callR_by fun xs H Q ⟨c, L, M, μ, σ, x, d, z, e, S, hx, hg, q⟩ => by
  subst e
  unfold intD at hg
  split at hg
  · cases hg
    have := hx.sc (by simp) (by simp)
    cases this
    exact ⟨_, call_int1, .inr ⟨_, rfl, q _ _ S .refl (.int _)⟩⟩
  · cases hg
    have := hx.sc (by simp) (by simp)
    cases this
    exact ⟨_, call_int1, .inl ⟨_, rfl, q _ _ S .refl (.int _)⟩⟩
  · cases hg
mutual
theorem plain_noDict : ∀ {d : D}, d.plain = true → d.hasDict = false
  | .none, _ => rfl
  | .bool _, _ => rfl
  | .int _, _ => rfl
  | .str _, _ => rfl
  | .list xs, h => plains_noDict (ds := xs) h
  | .tuple xs, h => plains_noDict (ds := xs) h
  | .dict _, h => by cases h
theorem plains_noDict : ∀ {ds : List D}, PyData.plainAll ds = true → PyData.hasDictAll ds = false
  | [], _ => rfl
  | d :: ds, h => by
    have h' : (PyData.plain d && PyData.plainAll ds) = true := h
    rw [Bool.and_eq_true] at h'
    show (PyData.hasDict d || PyData.hasDictAll ds) = false
    rw [plain_noDict h'.1, plains_noDict h'.2]; rfl
end
theorem c_repr (hgd : X.A.guards = some []) (hu : X.A.units + 64 < cLine) : CallR X (.builtin "repr") (rC1 X.K reprD) := by
  rintro pins s σ H xs us Q I rv ⟨c, L, M, μ, σ', x, d, z, rfl, S, hx, hz, q⟩
  unfold reprD at hz
  split at hz
  · rename_i h
    simp only [Bool.and_eq_true, decide_eq_true_eq] at h
    obtain ⟨⟨⟨h1, h2⟩, h3⟩, h4⟩ := h
    cases hz
    obtain ⟨u, rfl, rx⟩ := vals1 rv
    obtain ⟨as, r⟩ := hx.reads I h1 rx
    have hl : d.shown.length ≤ sizeLine := by
      have e : sizeLine = 16777216 := by decide
      rw [e]; exact h3
    have hd : d.hasDict = true → sysModules ∉ as := fun z => by rw [plain_noDict h1] at z; cases z
    have fin : ∀ h' tk u', (∀ b o, s.heap.get? b = some o → h'.get? b = some o) → EP X pins σ Q (.str d.shown u') { s with heap := h', toks := tk } := fun h' tk u' k =>
      ⟨.str d.shown, H, I.kept k, ⟨_, rfl⟩, q _ _ S .refl (.str _)⟩
    cases d with
    | none => cases hx.none; cases rx; exact P.repr_of_none (fin _ _ _ fun _ _ e => e)
    | bool b => cases hx.bool; cases rx; exact P.repr_of_bool (fin _ _ _ fun _ _ e => e)
    | int i =>
      have := hx.sc (by simp) (by simp)
      cases this
      obtain ⟨t, rfl⟩ := rx
      exact P.repr_of_int (of_decide_eq_true h2) (fin _ _ _ fun _ _ e => e)
    | str y =>
      have := hx.sc (by simp) (by simp)
      cases this
      obtain ⟨t, rfl⟩ := rx
      exact P.repr_of_str (fin _ _ _ fun _ _ e => e) hl
    | list xs =>
      obtain ⟨a, vs, rfl, _⟩ := hx.lst
      cases rx
      exact repr_of_reads' (h₀ := s.heap) r h2 hd hgd (by omega) (fun _ _ e => e) (fun h' u tk k => fin h' tk u k) hl
    | tuple xs =>
      obtain ⟨a, vs, rfl, _⟩ := hx.tup
      cases rx
      exact repr_of_reads' (h₀ := s.heap) r h2 hd hgd (by omega) (fun _ _ e => e) (fun h' u tk k => fin h' tk u k) hl
    | dict es => cases h1
  · cases hz
/-- f(a), f a built-in function; f(a), f a built-in class -/
theorem je_b1 {id : String} {x : Str} {g : D → Option D} (hc : CallR X (.builtin id) (rC1 X.K g)) (hg : Gl X x) (hm : X.mg x = none) (hv : bootBuiltins x = some (.builtin id)) (ha : JP X W a ra) (hs : isStar a = false) (hn : x ≠ "__name__") (hdb : (x == ("__debug__" : Str)) = false) :
    JE X W (.Call (.Name x p) [a] [] pos) fun μ => (ra μ).bind fun x μ1 => Rs.opt (g x) μ1 := by
  refine pe_mono (pe_callB hc hg hm hv (pa_cons ha pa_nil (starEach_cons hs _ _)) hn hdb (starEach_cons hs _ _) rfl) fun σ H Q ⟨c, L, M, μ, S, p⟩ => ⟨c, L, M, μ, S, p.bind fun x μ1 v H1 S1 k1 d1 p1 => ?_⟩
  obtain ⟨z, e, q⟩ := p1.opt
  exact ⟨c, L, M, μ1, σ, v, x, z, rfl, S1, d1, e, q⟩
theorem je_b1T {id : String} {x : Str} {g : D → Option D} (hc : CallR X (.type id) (rC1 X.K g)) (hg : Gl X x) (hm : X.mg x = none) (hv : bootBuiltins x = some (.type id)) (ha : JP X W a ra) (hs : isStar a = false) (hn : x ≠ "__name__") (hdb : (x == ("__debug__" : Str)) = false) :
    JE X W (.Call (.Name x p) [a] [] pos) fun μ => (ra μ).bind fun x μ1 => Rs.opt (g x) μ1 := by
  refine pe_mono (pe_callTy hc hg hm hv (pa_cons ha pa_nil (starEach_cons hs _ _)) hn hdb (starEach_cons hs _ _) rfl) fun σ H Q ⟨c, L, M, μ, S, p⟩ => ⟨c, L, M, μ, S, p.bind fun x μ1 v H1 S1 k1 d1 p1 => ?_⟩
  obtain ⟨z, e, q⟩ := p1.opt
  exact ⟨c, L, M, μ1, σ, v, x, z, rfl, S1, d1, e, q⟩
/-! two ints -/
def rC2 (K : PySem.W.Frag) (g : D → D → Option D) : List V → Hp → VK → Prop := fun xs H Q => ∃ c L M μ σ x y d e z, xs = [x, y] ∧ Sr K c L M μ σ H ∧ Dv K H L d x ∧ Dv K H L e y ∧ g d e = some z ∧ ∀ v H', Sr K c L M μ σ H' → Kp M H H' → Dv K H' L z v → Q v H'
theorem c_max2 (hc : X.calm = true) : CallR X (.builtin "max") (rC2 X.K (b2D .max)) := callR_by fun xs H Q ⟨c, L, M, μ, σ, x, y, d, e, z, h, S, hx, hy, hg, q⟩ => by
  subst h
  cases d <;> try (cases hg)
  cases e <;> try (cases hg)
  cases hx; cases hy
  exact ⟨_, call_max2 hc, _, _, rfl, q _ _ S .refl (.int _)⟩
theorem c_min2 (hc : X.calm = true) : CallR X (.builtin "min") (rC2 X.K (b2D .min)) := callR_by fun xs H Q ⟨c, L, M, μ, σ, x, y, d, e, z, h, S, hx, hy, hg, q⟩ => by
  subst h
  cases d <;> try (cases hg)
  cases e <;> try (cases hg)
  cases hx; cases hy
  exact ⟨_, call_min2 hc, _, _, rfl, q _ _ S .refl (.int _)⟩
theorem je_b2 {id : String} {x : Str} {g : D → D → Option D} (hc : CallR X (.builtin id) (rC2 X.K g)) (hg : Gl X x) (hm : X.mg x = none) (hv : bootBuiltins x = some (.builtin id)) (ha : JE X W a ra) (hb : JE X W b rb) (hs : isStar a = false) (hs2 : isStar b = false) (hn : x ≠ "__name__") (hdb : (x == ("__debug__" : Str)) = false) :
    JE X W (.Call (.Name x p) [a, b] [] pos) fun μ => (ra μ).bind fun x μ1 => (rb μ1).bind fun y μ2 => Rs.opt (g x y) μ2 := by
  refine pe_mono (pe_callB hc hg hm hv (pa_cons ha (pa_cons hb pa_nil (starEach_cons hs2 _ _)) (starEach_cons hs _ _)) hn hdb (starEach_cons hs _ _) (backTo_plain (by simp [hs2]))) fun σ H Q ⟨c, L, M, μ, S, p⟩ => ⟨c, L, M, μ, S, p.bind fun x μ1 v H1 S1 k1 d1 p1 => ⟨c, L, M, μ1, S1, p1.bind fun y μ2 w H2 S2 k2 d2 p2 => ?_⟩⟩
  obtain ⟨z, e, q⟩ := p2.opt
  exact ⟨c, L, M, μ2, σ, v, w, x, y, z, rfl, S2, S2.dk d1 k2, d2, e, q⟩
/-! isinstance -/
def tyName : Ty → String
  | .int => "int" | .bool => "bool" | .tuple => "tuple" | .list => "list" | .str => "str"
def rIs (K : PySem.W.Frag) (t : Ty) : List V → Hp → VK → Prop := fun xs H Q => ∃ L x d z, xs = [x, .ty (tyName t)] ∧ Dv K H L d x ∧ isiD d t = some z ∧ Q (.bl z) H
theorem c_isi (t : Ty) : CallR X (.builtin "isinstance") (rIs X.K t) := by
  rintro pins s σ H xs us Q I rv ⟨L, x, d, z, rfl, hx, hz, q⟩
  unfold isiD at hz
  split at hz
  · rename_i h1
    cases hz
    obtain ⟨u, u2, rfl, rx, r2⟩ := vals2 rv
    cases r2
    obtain ⟨as, r⟩ := Dw.reads I (.inl hx) h1 rx
    cases t
    · exact PySem.W.isinstance_int_data r fun tk _ => ⟨.bl _, H, I.tok _, rfl, q⟩
    · exact PySem.W.isinstance_bool_data r fun tk _ => ⟨.bl _, H, I.tok _, rfl, q⟩
    · exact PySem.W.isinstance_tuple_data r fun tk _ => ⟨.bl _, H, I.tok _, rfl, q⟩
    · exact PySem.W.isinstance_list_data r fun tk _ => ⟨.bl _, H, I.tok _, rfl, q⟩
    · exact PySem.W.isinstance_str_data r fun tk _ => ⟨.bl _, H, I.tok _, rfl, q⟩
  · cases hz
theorem je_isi {t : Ty} {p1 p2 : Pos} (hg : Gl X "isinstance") (hm : X.mg "isinstance" = none) (hgt : Gl X (Str.ofString (tyName t))) (hmt : X.mg (Str.ofString (tyName t)) = none) (ha : JE X W a ra) (hs : isStar a = false) :
    JE X W (.Call (.Name "isinstance" p) [a, .Name (Str.ofString (tyName t)) p1] [] pos) fun μ => (ra μ).bind fun x μ1 => Rs.opt ((isiD x t).map .bool) μ1 := by
  have hb : bootBuiltins (Str.ofString (tyName t)) = some (.type (tyName t)) := by cases t <;> decide +kernel
  refine pe_mono (pe_callB (c_isi t) hg hm (by decide +kernel) (pa_cons ha (pa_cons (pe_bltn (v := .ty (tyName t)) hgt hmt hb rfl (by cases t <;> decide) (by cases t <;> decide)) pa_nil (starEach_cons rfl _ _)) (starEach_cons hs _ _)) (by decide) (by decide) (starEach_cons hs _ _) (backTo_plain rfl))
    fun σ H Q ⟨c, L, M, μ, S, p⟩ => ⟨c, L, M, μ, S, p.bind fun x μ1 v H1 S1 k1 d1 p1 => ?_⟩
  obtain ⟨z, e, q⟩ := p1.opt
  cases hz : isiD x t with
  | none => rw [hz] at e; cases e
  | some bb => rw [hz] at e; cases e; exact ⟨L, v, x, bb, rfl, d1, hz, q _ _ S1 .refl (.bl _)⟩
end
end Mn
set_option Elab.async false
set_option linter.all false
set_option maxRecDepth 100000
set_option autoImplicit false
namespace Mn
open PySem PySem.Spec L2
/-! ## calls of the program's own defs -/
abbrev XRl := Xc → Value → Option Addr → Hp → Prop
def wx (xr : XRl) (W : WXm) : WX := fun cls d σ H => ∃ x, xr x cls d H ∧ W x σ H
/-- the lent objects among the arguments -/
def ioA : List Sl → List V → List Addr
  | .own _ :: s, .ref a :: v => a :: ioA s v
  | _ :: s, _ :: v => ioA s v
  | _, _ => []
inductive ArgOk (K : PySem.W.Frag) (H : Hp) (L : Ads) : List Sl → List V → Prop
  | nil : ArgOk K H L [] []
  | val {d : D} {v : V} {s : List Sl} {vs : List V} : Dv K H L d v → ArgOk K H L s vs → ArgOk K H L (.val d :: s) (v :: vs)
  | own {d : D} {a : Addr} {s : List Sl} {vs : List V} : OwnAt K H L d a → L a → ArgOk K H L s vs → ArgOk K H L (.own d :: s) (.ref a :: vs)
inductive OutOk (K : PySem.W.Frag) (H : Hp) (L : Ads) : List Addr → List D → Prop
  | nil : OutOk K H L [] []
  | cons {a : Addr} {d : D} {as : List Addr} {ds : List D} : OwnAt K H L d a → OutOk K H L as ds → OutOk K H L (a :: as) (d :: ds)
theorem ArgOk.length {K : PySem.W.Frag} {H : Hp} {L : Ads} {s : List Sl} {vs : List V} (h : ArgOk K H L s vs) : s.length = vs.length := by
  induction h with
  | nil => rfl
  | val _ _ ih => simp [ih]
  | own _ _ _ ih => simp [ih]
/-- the promise of a def that gives G; n: how many parameters -/
def spF (K : PySem.W.Frag) (xr : XRl) (n : Nat) (G : List Sl → FR) : Sp := fun vs H Q E => ∃ (L : Ads) (sl : List Sl), ArgOk K H L sl vs ∧ sl.length = n ∧ (ioA sl vs).Nodup ∧ (∀ a, L a → H a ≠ none) ∧
  match G sl with
  | .ok d outs => ∀ v H', (∀ a o, H a = some o → a ∉ ioA sl vs → H' a = some o) → Dv K H' L d v → OutOk K H' L (ioA sl vs) outs → Q v H'
  | .fr d outs => ∀ a H', (∀ a o, H a = some o → a ∉ ioA sl vs → H' a = some o) → H a = none → OwnAt K H' (plusA L a) d a → OutOk K H' (plusA L a) (ioA sl vs) outs → Q (.ref a) H'
  | .ex x outs => ∀ cls d H', (∀ a o, H a = some o → a ∉ ioA sl vs → H' a = some o) → xr x cls d H' → OutOk K H' L (ioA sl vs) outs → E cls d H'
  | .st => False
/-- an argument: a value, or a slot's own object -/
inductive AgOk (K : PySem.W.Frag) (σ : St) (H : Hp) (L : Ads) : List Ag → List V → Prop
  | nil : AgOk K σ H L [] []
  | val {d : D} {v : V} {s : List Ag} {vs : List V} : Dv K H L d v → AgOk K σ H L s vs → AgOk K σ H L (.v d :: s) (v :: vs)
  | io {i : Nat} {v : V} {s : List Ag} {vs : List V} : σ[i]? = some (some v) → AgOk K σ H L s vs → AgOk K σ H L (.io i :: s) (v :: vs)
def rAg (K : PySem.W.Frag) (σ : St) : Rl (List Ag) (List V) := fun L as vs H => AgOk K σ H L as vs
def TrA (K : PySem.W.Frag) (W : WXm) (r : Mu → Rs (List Ag)) : TA := fun σ H Q => ∃ c L M μ, Sr K c L M μ σ H ∧ Pst K c L M W σ H (rAg K σ) Q (r μ)
abbrev JAg (X : Cx) (W : WXm) (es : List Expr) (r : Mu → Rs (List Ag)) : Prop := PA X es (TrA X.K W r)
section
variable {K : PySem.W.Frag} {c : Ent} {L M : Ads} {μ μ' : Mu} {σ : St} {H H1 : Hp}
theorem AgOk.keep {as : List Ag} {vs : List V} (k : Kp L H H1) (h : AgOk K σ H L as vs) : AgOk K σ H1 L as vs := by
  induction h with
  | nil => exact .nil
  | val d _ ih => exact .val (d.keep k) ih
  | io e _ ih => exact .io e ih
/-- the callee's view of the arguments -/
theorem AgOk.args (S : Sr K c L M μ σ H) : ∀ {as : List Ag} {vs : List V} {sl : List Sl}, AgOk K σ H L as vs → argSl μ as = some sl →
    ArgOk K H L sl vs ∧ (∀ a, a ∈ ioA sl vs ↔ ∃ i ∈ ioNd as, σ[i]? = some (some (.ref a))) ∧ (∀ i ∈ ioNd as, ∃ d, μ[i]? = some (.own d)) ∧
      ((ioNd as).Nodup → (ioA sl vs).Nodup) ∧ Paired (fun i a => σ[i]? = some (some (.ref a))) (ioNd as) (ioA sl vs)
  | _, _, _, .nil, h => by
    cases h
    exact ⟨.nil, fun a => by simp [ioA, ioNd], fun i hi => by simp [ioNd] at hi, fun _ => List.nodup_nil, .nil⟩
  | .v d :: as, v :: vs, sl, .val w t, h => by
    unfold argSl at h
    cases q : argSl μ as with
    | none => rw [q] at h; cases h
    | some sl' =>
      rw [q] at h
      cases h
      obtain ⟨h1, h2, h3, h4, h5⟩ := AgOk.args S t q
      have e : ioA (.val d :: sl') (v :: vs) = ioA sl' vs := by cases v <;> rfl
      rw [show ioNd (.v d :: as) = ioNd as from rfl]
      refine ⟨.val w h1, ?_, h3, ?_, ?_⟩
      · rw [e]; exact h2
      · rw [e]; exact h4
      · rw [e]; exact h5
  | .io i :: as, v :: vs, sl, .io ev t, h => by
    unfold argSl at h
    cases ho : owned μ i with
    | none => rw [ho] at h; cases h
    | some d =>
      rw [ho] at h
      simp only at h
      cases q : argSl μ as with
      | none => rw [q] at h; cases h
      | some sl' =>
        rw [q] at h
        cases h
        have hd : μ[i]? = some (.own d) := by
          unfold owned at ho
          split at ho
          · cases ho; assumption
          · cases ho
        obtain ⟨a, e1, e2, e3⟩ := S.own i d hd
        have : v = .ref a := by rw [ev] at e1; exact Option.some.inj (Option.some.inj e1)
        subst this
        obtain ⟨h1, h2, h3, h4, h5⟩ := AgOk.args S t q
        refine ⟨.own e2 (S.ml a e3) h1, fun b => ?_, fun j hj => ?_, fun nd => ?_, ?_⟩
        · show b ∈ a :: ioA sl' vs ↔ ∃ j ∈ i :: ioNd as, σ[j]? = some (some (.ref b))
          rw [List.mem_cons, h2]
          constructor
          · rintro (rfl | ⟨j, hj, ej⟩)
            · exact ⟨i, List.mem_cons_self, ev⟩
            · exact ⟨j, List.mem_cons_of_mem _ hj, ej⟩
          · rintro ⟨j, hj, ej⟩
            rcases List.mem_cons.mp hj with rfl | hj
            · left; rw [ev] at ej; cases ej; rfl
            · exact .inr ⟨j, hj, ej⟩
        · rcases List.mem_cons.mp hj with rfl | hj
          · exact ⟨d, hd⟩
          · exact h3 j hj
        · show (a :: ioA sl' vs).Nodup
          have nd' : (i :: ioNd as).Nodup := nd
          rw [List.nodup_cons] at nd' ⊢
          refine ⟨fun hm => ?_, h4 nd'.2⟩
          obtain ⟨j, hj, ej⟩ := (h2 a).mp hm
          obtain ⟨d', hd'⟩ := h3 j hj
          have := S.inj i j _ _ a hd rfl hd' rfl ev ej
          subst this
          exact nd'.1 hj
        · exact .cons ev h5
/-- the slots behind a call -/
theorem outM_get : ∀ {is : List Nat} {ds : List D} {μ μ' : Mu}, outM is ds μ = some μ' → is.Nodup → (∀ i ∈ is, i < μ.length) →
    μ'.length = μ.length ∧ (∀ j, j ∉ is → μ'[j]? = μ[j]?) ∧ Paired (fun i d => μ'[i]? = some (.own d)) is ds
  | [], [], μ, μ', h, _, _ => by cases h; exact ⟨rfl, fun _ _ => rfl, .nil⟩
  | i :: is, d :: ds, μ, μ', h, nd, hl => by
    unfold outM at h
    rw [List.nodup_cons] at nd
    obtain ⟨h1, h2, h3⟩ := outM_get h nd.2 (fun j hj => by rw [List.length_set]; exact hl j (List.mem_cons_of_mem _ hj))
    rw [List.length_set] at h1
    refine ⟨h1, fun j hj => ?_, .cons ?_ h3⟩
    · rw [List.mem_cons, not_or] at hj
      rw [h2 j hj.2, List.getElem?_set_ne (Ne.symm hj.1)]
    · rw [h2 i nd.1, List.getElem?_set_self (hl i List.mem_cons_self)]
  | [], _ :: _, _, _, h, _, _ => by cases h
  | _ :: _, [], _, _, h, _, _ => by cases h
theorem paired_left {α β : Type} {R : α → β → Prop} : ∀ {xs : List α} {ys : List β}, Paired R xs ys → ∀ x ∈ xs, ∃ y ∈ ys, R x y
  | _, _, .nil, x, h => by simp at h
  | _, _, .cons r t, x, h => by
    rcases List.mem_cons.mp h with rfl | h
    · exact ⟨_, List.mem_cons_self, r⟩
    · obtain ⟨y, h1, h2⟩ := paired_left t x h
      exact ⟨y, List.mem_cons_of_mem _ h1, h2⟩
theorem paired_right {α β : Type} {R : α → β → Prop} : ∀ {xs : List α} {ys : List β}, Paired R xs ys → ∀ y ∈ ys, ∃ x ∈ xs, R x y
  | _, _, .nil, x, h => by simp at h
  | _, _, .cons r t, x, h => by
    rcases List.mem_cons.mp h with rfl | h
    · exact ⟨_, List.mem_cons_self, r⟩
    · obtain ⟨y, h1, h2⟩ := paired_right t x h
      exact ⟨y, List.mem_cons_of_mem _ h1, h2⟩
/-- three lists side by side -/
theorem out_at {H' : Hp} : ∀ {is : List Nat} {as : List Addr} {ds : List D}, Paired (fun i a => σ[i]? = some (some (V.ref a))) is as → Paired (fun i d => μ'[i]? = some (Sl.own d)) is ds → OutOk K H' L as ds →
    ∀ i ∈ is, ∃ a d, σ[i]? = some (some (.ref a)) ∧ μ'[i]? = some (.own d) ∧ OwnAt K H' L d a ∧ a ∈ as
  | _, _, _, .nil, .nil, _, i, h => by simp at h
  | _, _, _, .cons r1 t1, .cons r2 t2, .cons o1 o2, i, h => by
    rcases List.mem_cons.mp h with rfl | h
    · exact ⟨_, _, r1, r2, o1, List.mem_cons_self⟩
    · obtain ⟨a, d, h1, h2, h3, h4⟩ := out_at t1 t2 o2 i h
      exact ⟨a, d, h1, h2, h3, List.mem_cons_of_mem _ h4⟩
theorem OutOk.at {H' : Hp} : ∀ {as : List Addr} {ds : List D}, OutOk K H' L as ds → ∀ a ∈ as, ∃ d, OwnAt K H' L d a
  | _, _, .nil, a, h => by simp at h
  | _, _, .cons o t, a, h => by
    rcases List.mem_cons.mp h with rfl | h
    · exact ⟨_, o⟩
    · exact OutOk.at t a h
theorem Sr.after {H' : Hp} {L' : Ads} {is : List Nat} {as : List Addr} {outs : List D} (S : Sr K c L M μ σ H) (up : ∀ b, L b → L' b) (dn : ∀ b, L' b → L b ∨ (H b = none ∧ H' b ≠ none)) (nd : is.Nodup) (hk : ∀ a o, H a = some o → a ∉ as → H' a = some o) (hp : Paired (fun i a => σ[i]? = some (some (.ref a))) is as)
    (ho : ∀ i ∈ is, ∃ d, μ[i]? = some (.own d)) (oo : OutOk K H' L' as outs) (e : outM is outs μ = some μ') : Sr K c L' M μ' σ H' ∧ Kp M H H' := by
  have hl : ∀ i ∈ is, i < μ.length := fun i hi => by
    obtain ⟨d, e⟩ := ho i hi
    exact (List.getElem?_eq_some_iff.mp e).1
  obtain ⟨l1, l2, l3⟩ := outM_get e nd hl
  have asM : ∀ a ∈ as, M a := fun a ha => by
    obtain ⟨i, hi, ei⟩ := paired_right hp a ha
    obtain ⟨d, hd⟩ := ho i hi
    obtain ⟨b, e1, _, e3⟩ := S.own i d hd
    rw [ei] at e1; cases e1; exact e3
  have kp : Kp M H H' := fun a o q n => hk a o q fun ha => n (asM a ha)
  have kl : Kp L' H H' := kp.mono fun a h => up a (S.ml a h)
  have gr : ∀ b, L' b → L b ∨ H b = none := fun b h => (dn b h).imp_right fun z => z.1
  have back : ∀ (i : Nat) (s : Sl), μ'[i]? = some s → s.held = true → ∃ t, μ[i]? = some t ∧ t.held = true := fun i s q hh => by
    by_cases hi : i ∈ is
    · obtain ⟨d, hd⟩ := ho i hi; exact ⟨_, hd, rfl⟩
    · rw [l2 i hi] at q; exact ⟨s, q, hh⟩
  have off : ∀ (i : Nat) (s : Sl) (a : Addr), i ∉ is → μ[i]? = some s → s.held = true → σ[i]? = some (some (.ref a)) → a ∉ as := fun i s a ni q hh es ha => by
    obtain ⟨j, hj, ej⟩ := paired_right hp a ha
    obtain ⟨d, hd⟩ := ho j hj
    have := S.inj i j _ _ a q hh hd rfl es ej
    subst this
    exact ni hj
  refine ⟨⟨l1.trans S.len, fun i d q => ?_, fun i d q => ?_, fun i d q => ?_, fun i j s t a q1 hs q2 ht e1 e2 => ?_, fun b h => up b (S.ml b h), fun b h => ⟨up b (S.lkl b h).1, (S.lkl b h).2⟩, fun b h => up b (S.l0 b h), S.m0, S.l00, fun a hL => ?_, fun a o q n => ?_, fun p hpp => ?_, fun p hpp => ?_⟩, kp⟩
  · by_cases hi : i ∈ is
    · obtain ⟨a, d', _, h2, _⟩ := out_at hp l3 oo i hi
      rw [q] at h2; cases h2
    · rw [l2 i hi] at q
      obtain ⟨v, e1, e2⟩ := S.val i d q
      exact ⟨v, e1, (e2.grow gr).keep kl⟩
  · by_cases hi : i ∈ is
    · obtain ⟨a, d', h1, h2, h3, h4⟩ := out_at hp l3 oo i hi
      rw [q] at h2; cases h2
      exact ⟨a, h1, h3, asM a h4⟩
    · rw [l2 i hi] at q
      obtain ⟨a, e1, e2, e3⟩ := S.own i d q
      exact ⟨a, e1, (e2.grow gr).keep kl fun o eo => hk a o eo (off i _ a hi q rfl e1), e3⟩
  · by_cases hi : i ∈ is
    · obtain ⟨a, d', _, h2, _⟩ := out_at hp l3 oo i hi
      rw [q] at h2; cases h2
    · rw [l2 i hi] at q
      obtain ⟨a, e1, e2, e3⟩ := S.lck i d q
      exact ⟨a, e1, (e2.grow gr).keep kl fun o eo => hk a o eo (off i _ a hi q rfl e1), e3⟩
  · obtain ⟨s', q1', hs'⟩ := back i s q1 hs
    obtain ⟨t', q2', ht'⟩ := back j t q2 ht
    exact S.inj i j s' t' a q1' hs' q2' ht' e1 e2
  · by_cases ha : a ∈ as
    · obtain ⟨d, hd⟩ := oo.at a ha
      obtain ⟨o, eo⟩ := hd.there
      rw [eo]; simp
    · rcases dn a hL with hL | hL
      · cases q : H a with
        | none => exact absurd q (S.trk a hL)
        | some o => rw [hk a o q ha]; simp
      · exact hL.2
  · refine hk a o (S.keep a o q n) fun ha => ?_
    rcases S.m0 a (asM a ha) with h | h
    · exact n h
    · rw [h] at q; cases q
  · obtain ⟨e1, s, q, hs⟩ := S.io p hpp
    refine ⟨e1, ?_⟩
    by_cases hi : p.1 ∈ is
    · obtain ⟨a, d', _, h2, _⟩ := out_at hp l3 oo p.1 hi
      exact ⟨_, h2, rfl⟩
    · exact ⟨s, by rw [l2 _ hi]; exact q, hs⟩
  · obtain ⟨e1, dd, q⟩ := S.lks p hpp
    refine ⟨e1, dd, ?_⟩
    have hi : p.1 ∉ is := fun hi => by
      obtain ⟨d', hd'⟩ := ho p.1 hi
      rw [hd'] at q; cases q
    rw [l2 _ hi]; exact q
end

section
variable {X : Cx} {W : WXm} {e : Expr} {es : List Expr} {pos p : Pos} {ra : Mu → Rs D} {rs : Mu → Rs (List Ag)}
theorem jg_nil : JAg X W [] fun μ => .ok [] μ := pa_mono pa_nil fun _ _ _ ⟨_, _, _, _, S, p⟩ => p _ _ S .refl .nil
theorem jg_val (ha : JE X W e ra) (hr : JAg X W es rs) (hs : isStar e = false) : JAg X W (e :: es) fun μ => ((ra μ).bind fun d μ1 => .ok (.v d) μ1).bind fun x μ1 => (rs μ1).bind fun xs μ2 => .ok (x :: xs) μ2 := by
  refine pa_mono (pa_cons ha hr (starEach_cons hs _ _)) fun σ H Q ⟨c, L, M, μ, S, p⟩ => ⟨c, L, M, μ, S, ?_⟩
  cases hq : ra μ with
  | ok d μ1 =>
    simp only [hq] at p
    intro v H1 S1 k1 d1
    refine ⟨c, L, M, μ1, S1, Pst.bind (Pst.up k1 (show Pst X.K c L M W σ H (rAg X.K σ) Q ((rs μ1).bind fun xs μ2 => .ok (.v d :: xs) μ2) from p)) fun xs μ2 ws H2 S2 k2 d2 p2 => ?_⟩
    exact p2 _ _ S2 .refl (.val (S2.dk d1 k2) d2)
  | ex x μ1 => simp only [hq] at p; exact p
  | st => simp only [hq] at p; exact p
theorem jg_io {i : Nat} {x : Str} {p1 : Pos} (hN : X.N[i]? = some x) (hv : Vis X.env.scope x) (hd : (x == ("__debug__" : Str)) = false) (hcd : (x == ("__classdict__" : Str)) = false) (hr : JAg X W es rs) :
    JAg X W (.Name x p1 :: es) fun μ => (match owned μ i with
      | some _ => Rs.ok (Ag.io i) μ
      | none => .st).bind fun x μ1 => (rs μ1).bind fun xs μ2 => .ok (x :: xs) μ2 := by
  refine pa_mono (pa_cons (pe_var (i := i) hN hv hd hcd) hr (starEach_cons rfl _ _)) fun σ H Q ⟨c, L, M, μ, S, p⟩ => ?_
  cases ho : owned μ i with
  | none => simp only [ho] at p; exact p.elim
  | some d =>
    simp only [ho] at p
    have hd : μ[i]? = some (.own d) := by
      unfold owned at ho
      split at ho
      · cases ho; assumption
      · cases ho
    obtain ⟨a, e1, _, _⟩ := S.own i d hd
    refine ⟨.ref a, e1, c, L, M, μ, S, Pst.bind (show Pst X.K c L M W σ H (rAg X.K σ) Q ((rs μ).bind fun xs μ2 => .ok (.io i :: xs) μ2) from p) fun xs μ2 ws H2 S2 k2 d2 p2 => ?_⟩
    exact p2 _ _ S2 .refl (.io e1 d2)
theorem je_call {xr : XRl} {k n : Nat} {f : Addr} {fd : FuncData} {ps : List Str} {G : List Sl → FR} {x : Str} (F : FnG X.prog X.w X.K X.mg X.base (L2.CX X.prog X.w) k f fd ps (spF X.K xr n G)) (hr : Room k X.A) (hgd : X.A.guards = some []) (hg : Gl X x)
    (hm : X.mg x = some (.ref f)) (hk : PySem.W.keepIn X.K (.ref f) = true) (hb : Binds X.K fd ps []) (tk : Takes X (wx xr W)) (ha : JAg X W (e :: es) rs) (hn : ∀ μ xs μ', rs μ = .ok xs μ' → xs.length = n) (hdb : (x == ("__debug__" : Str)) = false) (hst : isStar e = false) (hpl : es.all (fun e => !isStar e) = true) :
    JE X W (.Call (.Name x p) (e :: es) [] pos) fun μ => (rs μ).bind fun xs μ1 => callG G xs μ1 := by
  refine ⟨fun pins s σ H Q I ⟨c, L, M, μ, S, pp⟩ => ?_⟩
  refine wpAny_Call_Name_kw (ld_glob I hg hm ?_ hdb)
  refine PySem.W.callWith_K (h₀ := X.base) I.ok.mod.kin hk (thn (ha.run pos pins s σ H (fun vs H1 => ∃ as μ1, as.length = n ∧ Sr X.K c L M μ1 σ H1 ∧ AgOk X.K σ H1 L as vs ∧ Pst X.K c L M W σ H1 (rD X.K) Q (callG G as μ1)) I
    ⟨c, L, M, μ, S, Pst.bindE pp fun as μ1 vs H1 e1 S1 k1 d1 p1 => ⟨as, μ1, hn _ _ _ e1, S1, d1, p1⟩⟩) fun us s1 ⟨vs, H1, I1, r, as, μ1, hlen, S1, d1, p1⟩ => ⟨I1.kIn, ?_⟩) (starEach_cons hst _ _) (backTo_plain hpl)
  unfold callG at p1
  split at p1
  · rename_i nd
    cases hsl : argSl μ1 as with
    | none => rw [hsl] at p1; exact p1.elim
    | some sl =>
      rw [hsl] at p1
      simp only at p1
      obtain ⟨h1, h2, h3, h4, h5⟩ := AgOk.args S1 d1 hsl
      have hln : sl.length = n := by
        have e1 := h1.length
        have e2 : ∀ {as : List Ag} {vs : List V}, AgOk X.K σ H1 L as vs → as.length = vs.length := fun {as vs} h => by
          induction h with
          | nil => rfl
          | val _ _ ih => simp [ih]
          | io _ _ ih => simp [ih]
        rw [e1, ← e2 d1]; exact hlen
      have prom : spF X.K xr n G vs H1 Q (WE (wx xr W) σ) := by
        refine ⟨L, sl, h1, hln, h4 nd, S1.trk, ?_⟩
        cases hG : G sl with
        | ok d outs =>
          rw [hG] at p1
          simp only at p1 ⊢
          intro v H' hk' dv oo
          split at p1
          · rename_i μ2 e2
            obtain ⟨S2, k2⟩ := S1.after (fun _ h => h) (fun _ h => .inl h) nd hk' h5 h3 oo e2
            exact p1 v H' S2 k2 dv
          · exact p1.elim
        | fr d outs => rw [hG] at p1; exact p1.elim
        | ex x outs =>
          rw [hG] at p1
          simp only at p1 ⊢
          intro cls d H' hk' hx oo
          split at p1
          · rename_i μ2 e2
            obtain ⟨S2, k2⟩ := S1.after (fun _ h => h) (fun _ h => .inl h) nd hk' h5 h3 oo e2
            exact ⟨x, hx, p1 H' S2 k2⟩
          · exact p1.elim
        | st => rw [hG] at p1; exact p1.elim
      have hl : us.length = ps.length := by rw [← r.length]; exact F.len _ _ _ _ prom
      have hbt : BindsTo s1 fd ⟨us, []⟩ (ps.zip us) := by
        have := hb s1 us I1.kIn (by rw [List.append_nil]; exact hl)
        rwa [List.append_nil] at this
      refine wpAny_call (codeAny_mono (F.run X.A X.stack s1 H1 ⟨us, []⟩ us vs Q (WE (wx xr W) σ) hr hgd I1.env0 hbt r prom) fun res s' hq => ?_)
      cases res with
      | error ee => exact passAt tk σ pins H1 s1 ee s' I1 hq
      | ok fl =>
        cases fl with
        | ret u => exact I1.after hq
        | next => exact hq.elim
        | brk => exact hq.elim
        | cont => exact hq.elim
  · exact p1.elim
theorem jf_call {xr : XRl} {k n : Nat} {f : Addr} {fd : FuncData} {ps : List Str} {G : List Sl → FR} {x : Str} (F : FnG X.prog X.w X.K X.mg X.base (L2.CX X.prog X.w) k f fd ps (spF X.K xr n G)) (hr : Room k X.A) (hgd : X.A.guards = some []) (hg : Gl X x)
    (hm : X.mg x = some (.ref f)) (hk : PySem.W.keepIn X.K (.ref f) = true) (hb : Binds X.K fd ps []) (tk : Takes X (wx xr W)) (ha : JAg X W (e :: es) rs) (hn : ∀ μ xs μ', rs μ = .ok xs μ' → xs.length = n) (hdb : (x == ("__debug__" : Str)) = false) (hst : isStar e = false) (hpl : es.all (fun e => !isStar e) = true) :
    JF X W (.Call (.Name x p) (e :: es) [] pos) fun μ => (rs μ).bind fun xs μ1 => callH G xs μ1 := by
  refine ⟨fun pins s σ H Q I ⟨c, L, M, μ, S, pp⟩ => ?_⟩
  refine wpAny_Call_Name_kw (ld_glob I hg hm ?_ hdb)
  refine PySem.W.callWith_K (h₀ := X.base) I.ok.mod.kin hk (thn (ha.run pos pins s σ H (fun vs H1 => ∃ as μ1, as.length = n ∧ Sr X.K c L M μ1 σ H1 ∧ AgOk X.K σ H1 L as vs ∧ Pf X.K c L M W σ H1 Q (callH G as μ1)) I
    ⟨c, L, M, μ, S, Pst.bindF pp fun as μ1 vs H1 e1 S1 k1 d1 p1 => ⟨as, μ1, hn _ _ _ e1, S1, d1, p1⟩⟩) fun us s1 ⟨vs, H1, I1, r, as, μ1, hlen, S1, d1, p1⟩ => ⟨I1.kIn, ?_⟩) (starEach_cons hst _ _) (backTo_plain hpl)
  unfold callH at p1
  split at p1
  · rename_i nd
    cases hsl : argSl μ1 as with
    | none => rw [hsl] at p1; exact p1.elim
    | some sl =>
      rw [hsl] at p1
      simp only at p1
      obtain ⟨h1, h2, h3, h4, h5⟩ := AgOk.args S1 d1 hsl
      have hln : sl.length = n := by
        have e1 := h1.length
        have e2 : ∀ {as : List Ag} {vs : List V}, AgOk X.K σ H1 L as vs → as.length = vs.length := fun {as vs} h => by
          induction h with
          | nil => rfl
          | val _ _ ih => simp [ih]
          | io _ _ ih => simp [ih]
        rw [e1, ← e2 d1]; exact hlen
      have prom : spF X.K xr n G vs H1 Q (WE (wx xr W) σ) := by
        refine ⟨L, sl, h1, hln, h4 nd, S1.trk, ?_⟩
        cases hG : G sl with
        | ok d outs => rw [hG] at p1; exact p1.elim
        | fr d outs =>
          rw [hG] at p1
          simp only at p1 ⊢
          intro a H' hk' hn ow oo
          split at p1
          · rename_i μ2 e2
            have nL : ¬ L a := S1.free hn
            obtain ⟨o, eo⟩ := ow.there
            obtain ⟨S2, k2⟩ := S1.after (L' := plusA L a) (fun _ h => .inl h) (fun b h => h.imp_right fun z => by subst z; exact ⟨hn, by rw [eo]; simp⟩) nd hk' h5 h3 oo e2
            exact p1 a H' (S2.minus S1.ml S1.l0 fun b h => (S1.lkl b h).1) S2 k2 nL (fun b e => by rw [hn] at e; cases e) ow
          · exact p1.elim
        | ex x outs =>
          rw [hG] at p1
          simp only at p1 ⊢
          intro cls d H' hk' hx oo
          split at p1
          · rename_i μ2 e2
            obtain ⟨S2, k2⟩ := S1.after (fun _ h => h) (fun _ h => .inl h) nd hk' h5 h3 oo e2
            exact ⟨x, hx, p1 H' S2 k2⟩
          · exact p1.elim
        | st => rw [hG] at p1; exact p1.elim
      have hl : us.length = ps.length := by rw [← r.length]; exact F.len _ _ _ _ prom
      have hbt : BindsTo s1 fd ⟨us, []⟩ (ps.zip us) := by
        have := hb s1 us I1.kIn (by rw [List.append_nil]; exact hl)
        rwa [List.append_nil] at this
      refine wpAny_call (codeAny_mono (F.run X.A X.stack s1 H1 ⟨us, []⟩ us vs Q (WE (wx xr W) σ) hr hgd I1.env0 hbt r prom) fun res s' hq => ?_)
      cases res with
      | error ee => exact passAt tk σ pins H1 s1 ee s' I1 hq
      | ok fl =>
        cases fl with
        | ret u => exact I1.after hq
        | next => exact hq.elim
        | brk => exact hq.elim
        | cont => exact hq.elim
  · exact p1.elim
end
end Mn
set_option Elab.async false
set_option linter.all false
set_option maxRecDepth 100000
set_option autoImplicit false
namespace Mn
open PySem PySem.Spec L2
/-! ## what is walked -/
inductive Yi where
  | one (v : V)
  | two (v w : V)
def YOk : Yi → V → Hp → Hp → Prop
  | .one v, x, H, H' => x = v ∧ H' = H
  | .two v w, x, H, H' => ∃ T, x = .ref T ∧ H T = none ∧ H' = upd H T (.tup [v, w])
inductive Dyi (K : PySem.W.Frag) (H : Hp) (L : Ads) : D → Yi → Prop
  | one {d : D} {v : V} : Dv K H L d v → Dyi K H L d (.one v)
  | two {d e : D} {v w : V} : Dv K H L d v → Dv K H L e w → Dyi K H L (pairD d e) (.two v w)
inductive Dys (K : PySem.W.Frag) (H : Hp) (L : Ads) : List D → List Yi → Prop
  | nil : Dys K H L [] []
  | cons {d : D} {y : Yi} {ds : List D} {ys : List Yi} : Dyi K H L d y → Dys K H L ds ys → Dys K H L (d :: ds) (y :: ys)
def ItAt (J : It) (ys : List Yi) (H : Hp) : Prop := (∀ (i : Nat) (y : Yi), ys[i]? = some y → J.go i H ∧ ∀ x H', J.yld i H x H' → YOk y x H H') ∧ J.stop ys.length H
def IterSt (K : PySem.W.Frag) (L N : Ads) (J : It) (ds : List D) (H : Hp) : Prop := ∃ (deps : List (Addr × HO)) (ys : List Yi), (∀ p ∈ deps, H p.1 = some p.2 ∧ ¬ N p.1) ∧ Dys K H L ds ys ∧ ∀ H', (∀ p ∈ deps, H' p.1 = some p.2) → ItAt J ys H'
section
variable {K : PySem.W.Frag} {L L' N N' : Ads} {J : It} {ds : List D} {ys : List Yi} {H H' : Hp}
theorem Dyi.keep {d : D} {y : Yi} (k : Kp L H H') (h : Dyi K H L d y) : Dyi K H' L d y := by
  cases h with
  | one w => exact .one (w.keep k)
  | two w z => exact .two (w.keep k) (z.keep k)
theorem Dyi.anti {d : D} {y : Yi} (k : ∀ a, L' a → L a) (h : Dyi K H L d y) : Dyi K H L' d y := by
  cases h with
  | one w => exact .one (w.anti k)
  | two w z => exact .two (w.anti k) (z.anti k)
theorem Dyi.plus {d : D} {y : Yi} {b : Addr} (n : H b = none) (h : Dyi K H L d y) : Dyi K H (plusA L b) d y := by
  cases h with
  | one w => exact .one (w.plus n)
  | two w z => exact .two (w.plus n) (z.plus n)
theorem Dys.map {f : ∀ {d : D} {y : Yi}, Dyi K H L d y → Dyi K H' L' d y} : ∀ {ds : List D} {ys : List Yi}, Dys K H L ds ys → Dys K H' L' ds ys
  | _, _, .nil => .nil
  | _, _, .cons h t => .cons (f h) (Dys.map (f := f) t)
theorem Dys.length : ∀ {ds : List D} {ys : List Yi}, Dys K H L ds ys → ds.length = ys.length
  | _, _, .nil => rfl
  | _, _, .cons _ t => congrArg (· + 1) (Dys.length t)
theorem Dys.at : ∀ {ds : List D} {ys : List Yi} {i : Nat} {d : D}, Dys K H L ds ys → ds[i]? = some d → ∃ y, ys[i]? = some y ∧ Dyi K H L d y
  | _, _, _, _, .nil, e => by simp at e
  | _, _, 0, _, .cons x _, e => by simp at e; subst e; exact ⟨_, rfl, x⟩
  | _, _, i + 1, d, .cons _ t, e => by
    obtain ⟨y, h1, h2⟩ := Dys.at (i := i) (d := d) t (by simpa using e)
    exact ⟨y, by simpa using h1, h2⟩
theorem Dys.ones : ∀ {ds : List D} {vs : List V}, Dvs K H L ds vs → Dys K H L ds (vs.map .one)
  | _, _, .nil => .nil
  | _, _, .cons h t => .cons (.one h) (Dys.ones t)
theorem IterSt.keep (h : IterSt K L N J ds H) (k : Kp N H H') (nl : ∀ a, N a → L a) : IterSt K L N J ds H' := by
  obtain ⟨deps, ys, h1, h2, h3⟩ := h
  exact ⟨deps, ys, fun p hp => ⟨k _ _ (h1 p hp).1 (h1 p hp).2, (h1 p hp).2⟩, h2.map (f := fun x => x.keep (k.mono nl)), h3⟩
theorem IterSt.plus {b : Addr} (h : IterSt K L N J ds H) (n : H b = none) : IterSt K (plusA L b) (plusA N b) J ds H := by
  obtain ⟨deps, ys, h1, h2, h3⟩ := h
  exact ⟨deps, ys, fun p hp => ⟨(h1 p hp).1, fun z => z.elim (h1 p hp).2 (ne_of_none (h1 p hp).1 n)⟩, h2.map (f := fun x => x.plus n), h3⟩
theorem IterSt.anti (h : IterSt K L N J ds H) (hl : ∀ a, L' a → L a) (hn : ∀ a, N' a → N a) : IterSt K L' N' J ds H := by
  obtain ⟨deps, ys, h1, h2, h3⟩ := h
  exact ⟨deps, ys, fun p hp => ⟨(h1 p hp).1, fun z => (h1 p hp).2 (hn _ z)⟩, h2.map (f := fun x => x.anti hl), h3⟩
theorem IterSt.laid (h : IterSt K L N J ds H) (k : ∀ a o, H a = some o → H' a = some o) : IterSt K L N J ds H' := by
  obtain ⟨deps, ys, h1, h2, h3⟩ := h
  exact ⟨deps, ys, fun p hp => ⟨k _ _ (h1 p hp).1, (h1 p hp).2⟩, h2.map (f := fun x => x.keep fun a o e _ => k a o e), h3⟩
theorem IterSt.turn {i : Nat} {d : D} (h : IterSt K L N J ds H) (e : ds[i]? = some d) : ∃ y, Dyi K H L d y ∧ J.go i H ∧ ∀ x H', J.yld i H x H' → YOk y x H H' := by
  obtain ⟨deps, ys, h1, h2, h3⟩ := h
  obtain ⟨y, ey, dy⟩ := h2.at e
  obtain ⟨a, b⟩ := (h3 H fun p hp => (h1 p hp).1).1 i y ey
  exact ⟨y, dy, a, b⟩
theorem IterSt.stop (h : IterSt K L N J ds H) : J.stop ds.length H := by
  obtain ⟨deps, ys, h1, h2, h3⟩ := h
  rw [h2.length]
  exact (h3 H fun p hp => (h1 p hp).1).2
/-! the kinds -/
theorem sqL_deps {a : Addr} {vs : List V} (r : Rd H a (.lst vs)) : ∃ o, H a = some o ∧ ∀ H' : Hp, H' a = some o → SqL K H' a vs := by
  rcases r with r | ⟨o, r⟩
  · exact ⟨_, r, fun H' e => .inl (.inl e)⟩
  · exact ⟨_, r, fun H' e => .inl (.inr ⟨o, e⟩)⟩
theorem sqT_deps {a : Addr} {vs : List V} (r : Rd H a (.tup vs)) : ∃ o, H a = some o ∧ ∀ H' : Hp, H' a = some o → SqT K H' a vs := by
  rcases r with r | ⟨o, r⟩
  · exact ⟨_, r, fun H' e => .inl (.inl e)⟩
  · exact ⟨_, r, fun H' e => .inl (.inr ⟨o, e⟩)⟩
/-- what a walked thing leans on: its one object, or none (a constant of the module) -/
theorem Dw.src {d : D} {v : V} {xs : List D} (w : Dw K H L d v) (hs : seqD d = some xs) : ∃ (a : Addr) (vs : List V) (deps : List (Addr × HO)), v = .ref a ∧ Dvs K H L xs vs ∧ (∀ p ∈ deps, H p.1 = some p.2 ∧ (¬ L p.1 ∨ (p.1 = a ∧ OwnAt K H L d a))) ∧
    ((d = .list xs ∧ ∀ H' : Hp, (∀ p ∈ deps, H' p.1 = some p.2) → SqL K H' a vs) ∨ (d = .tuple xs ∧ ∀ H' : Hp, (∀ p ∈ deps, H' p.1 = some p.2) → SqT K H' a vs)) := by
  unfold seqD at hs
  split at hs
  · cases hs
    rcases w with w | ⟨a, rfl, w⟩
    · cases w with
      | lst n r s =>
        obtain ⟨o, e, f⟩ := sqL_deps (K := K) r
        exact ⟨_, _, [(_, o)], rfl, s, fun p hp => by simp at hp; subst hp; exact ⟨e, .inl n⟩, .inl ⟨rfl, fun H' q => f H' (q _ List.mem_cons_self)⟩⟩
      | lstK wr s => exact ⟨_, _, [], rfl, s, fun p hp => by simp at hp, .inl ⟨rfl, fun H' _ => wr.sq⟩⟩
    · rcases id w with ⟨_, vs, e, h, s⟩ | ⟨_, _, e, _⟩
      · cases e
        exact ⟨a, vs, [(a, _)], rfl, s, fun p hp => by simp at hp; subst hp; exact ⟨h, .inr ⟨rfl, w⟩⟩, .inl ⟨rfl, fun H' q => .inl (.inl (q _ List.mem_cons_self))⟩⟩
      · cases e
  · cases hs
    rcases w with w | ⟨a, rfl, w⟩
    · cases w with
      | tup n r s =>
        obtain ⟨o, e, f⟩ := sqT_deps (K := K) r.rd
        exact ⟨_, _, [(_, o)], rfl, s, fun p hp => by simp at hp; subst hp; exact ⟨e, .inl n⟩, .inr ⟨rfl, fun H' q => f H' (q _ List.mem_cons_self)⟩⟩
      | tupK wr s => exact ⟨_, _, [], rfl, s, fun p hp => by simp at hp, .inr ⟨rfl, fun H' _ => wr.sq⟩⟩
    · rcases w with ⟨_, _, e, _⟩ | ⟨_, _, e, _⟩
      · cases e
      · cases e
  · cases hs
theorem itAt_list {a : Addr} {vs : List V} (h : SqL K H a vs) : ItAt (Itl K a) (vs.map .one) H := by
  refine ⟨fun i y e => ?_, ?_⟩
  · rw [List.getElem?_map] at e
    cases q : vs[i]? with
    | none => rw [q] at e; cases e
    | some v =>
      rw [q] at e; cases e
      exact ⟨⟨vs, v, h, q⟩, fun x H' ⟨e1, e2⟩ => ⟨Option.some.inj ((e2 vs h).symm.trans q), e1⟩⟩
  · exact ⟨vs, h, by rw [List.length_map]; exact Nat.le_refl _⟩
theorem itAt_tup {a : Addr} {vs : List V} (h : SqT K H a vs) : ItAt (Itt K a) (vs.map .one) H := by
  refine ⟨fun i y e => ?_, ?_⟩
  · rw [List.getElem?_map] at e
    cases q : vs[i]? with
    | none => rw [q] at e; cases e
    | some v =>
      rw [q] at e; cases e
      exact ⟨⟨vs, v, h, q⟩, fun x H' ⟨e1, e2⟩ => ⟨Option.some.inj ((e2 vs h).symm.trans q), e1⟩⟩
  · exact ⟨vs, h, by rw [List.length_map]; exact Nat.le_refl _⟩
end
/-- the address of a slot's own object left out -/
def Mlk (M : Ads) (μ : Mu) (σ : St) (o : Option Nat) : Ads := fun b => M b ∧ ∀ i d, o = some i → μ[i]? = some (.own d) → σ[i]? ≠ some (some (.ref b))
def PstI (K : PySem.W.Frag) (c : Ent) (L M : Ads) (W : WXm) (o : Option Nat) (σ : St) (H : Hp) (R : It → Hp → Prop) : Rs (List D) → Prop
  | .ok ds μ' => ∀ J H', Sr K c L M μ' σ H' → Kp M H H' → IterSt K L (Mlk M μ' σ o) J ds H' → ds.length ≤ sizeLine → R J H'
  | .ex x μ' => ∀ H', Sr K c L M μ' σ H' → Kp M H H' → W x σ H'
  | .st => False
def TrI (K : PySem.W.Frag) (W : WXm) (o : Option Nat) (r : Mu → Rs (List D)) : TI := fun σ H R => ∃ c L M μ, Sr K c L M μ σ H ∧ PstI K c L M W o σ H R (r μ)
abbrev JI (X : Cx) (W : WXm) (is : Option Nat) (tg e : Expr) (r : Mu → Rs (List D)) : Prop := PI X tg e (TrI X.K W is r)
section
variable {X : Cx} {W : WXm} {tg e a b : Expr} {pos p : Pos} {ra rb : Mu → Rs D}
theorem Pst.bindI {K : PySem.W.Frag} {c : Ent} {L M : Ads} {is : Option Nat} {σ : St} {H : Hp} {α β : Type} {R : Rl α β} {Q : β → Hp → Prop} {R2 : It → Hp → Prop} {r : Rs α} {k : α → Mu → Rs (List D)} (p : PstI K c L M W is σ H R2 (r.bind k))
    (g : ∀ a μ1 b H1, Sr K c L M μ1 σ H1 → Kp M H H1 → R L a b H1 → PstI K c L M W is σ H1 R2 (k a μ1) → Q b H1) : Pst K c L M W σ H R Q r := by
  cases r with
  | ok a μ =>
    intro b H' S k' h
    refine g a μ b H' S k' h ?_
    have p' : PstI K c L M W is σ H R2 (k a μ) := p
    cases h2 : k a μ with
    | ok d μ2 => rw [h2] at p'; exact fun J H2 S1 k2 i z => p' J H2 S1 (k'.trans k2) i z
    | ex x μ2 => rw [h2] at p'; exact fun H2 S1 k2 => p' H2 S1 (k'.trans k2)
    | st => rw [h2] at p'; exact p'
  | ex x μ => exact p
  | st => exact p
theorem PstI.opt {K : PySem.W.Frag} {c : Ent} {L M : Ads} {is : Option Nat} {σ : St} {H : Hp} {R2 : It → Hp → Prop} {o : Option (List D)} {μ : Mu} (p : PstI K c L M W is σ H R2 (Rs.opt o μ)) :
    ∃ ds, o = some ds ∧ ∀ J H', Sr K c L M μ σ H' → Kp M H H' → IterSt K L (Mlk M μ σ is) J ds H' → ds.length ≤ sizeLine → R2 J H' := by
  cases o with
  | none => exact p.elim
  | some a => exact ⟨a, rfl, p⟩
theorem pi_seq {l : Expr} {tl : TE} (hl : PE X l tl) : PI X tg l (fun σ H R => tl σ H fun x H1 => ∃ a, x = .ref a ∧ ((∃ xs, SqL X.K H1 a xs ∧ (xs.length ≤ sizeLine → R (Itl X.K a) H1)) ∨ (∃ xs, SqT X.K H1 a xs ∧ (xs.length ≤ sizeLine → R (Itt X.K a) H1)))) := by
  refine ⟨fun pins s σ H R I h => thn (hl.run pins s σ H _ I h) fun v s1 ⟨x, H1, I1, r1, a, ex, q⟩ => ?_⟩
  subst ex
  cases r1
  rcases q with ⟨xs, hq, q⟩ | ⟨xs, hq, q⟩
  · obtain ⟨its, rv, p', hz⟩ := I1.list hq
    exact wpAny_pyIter_list p'.isList (pi_one (tk := s1.toks) I1 _ (turn_list a _) ⟨_, Heap.get?_push_size _ rfl, rfl, rfl⟩ (q hz))
  · obtain ⟨its, rv, p', hz⟩ := I1.tuple hq
    exact wpAny_pyIter_tuple (show s1.heap.IsTuple a its.toArray from p') (pi_one (tk := s1.toks) I1 _ (turn_tuple a _) ⟨_, Heap.get?_push_size _ rfl, rfl, rfl⟩ (q hz))
theorem Dv.src2 {K : PySem.W.Frag} {H : Hp} {L : Ads} {d : D} {v : V} {xs : List D} (w : Dv K H L d v) (hs : seqD d = some xs) : ∃ (a : Addr) (vs : List V) (deps : List (Addr × HO)), v = .ref a ∧ Dvs K H L xs vs ∧ (∀ p ∈ deps, H p.1 = some p.2 ∧ ¬ L p.1) ∧
    ((d = .list xs ∧ ∀ H' : Hp, (∀ p ∈ deps, H' p.1 = some p.2) → SqL K H' a vs) ∨ (d = .tuple xs ∧ ∀ H' : Hp, (∀ p ∈ deps, H' p.1 = some p.2) → SqT K H' a vs)) := by
  unfold seqD at hs
  split at hs
  · cases hs
    cases w with
    | lst n r s =>
      obtain ⟨o, e, f⟩ := sqL_deps (K := K) r
      exact ⟨_, _, [(_, o)], rfl, s, fun p hp => by simp at hp; subst hp; exact ⟨e, n⟩, .inl ⟨rfl, fun H' q => f H' (q _ List.mem_cons_self)⟩⟩
    | lstK wr s => exact ⟨_, _, [], rfl, s, fun p hp => by simp at hp, .inl ⟨rfl, fun H' _ => wr.sq⟩⟩
  · cases hs
    cases w with
    | tup n r s =>
      obtain ⟨o, e, f⟩ := sqT_deps (K := K) r.rd
      exact ⟨_, _, [(_, o)], rfl, s, fun p hp => by simp at hp; subst hp; exact ⟨e, n⟩, .inr ⟨rfl, fun H' q => f H' (q _ List.mem_cons_self)⟩⟩
    | tupK wr s => exact ⟨_, _, [], rfl, s, fun p hp => by simp at hp, .inr ⟨rfl, fun H' _ => wr.sq⟩⟩
  · cases hs
theorem seq_fin {K : PySem.W.Frag} {c : Ent} {L M : Ads} {μ : Mu} {σ : St} {H : Hp} {is : Option Nat} {d : D} {v : V} {ds : List D} {R : It → Hp → Prop} (S : Sr K c L M μ σ H) (w : Dv K H L d v ∨ ∃ a, v = .ref a ∧ OwnAt K H L d a ∧ ¬ Mlk M μ σ is a) (e : seqD d = some ds)
    (q : ∀ J, IterSt K L (Mlk M μ σ is) J ds H → ds.length ≤ sizeLine → R J H) :
    ∃ a, v = .ref a ∧ ((∃ xs, SqL K H a xs ∧ (xs.length ≤ sizeLine → R (Itl K a) H)) ∨ (∃ xs, SqT K H a xs ∧ (xs.length ≤ sizeLine → R (Itt K a) H))) := by
  have fin : ∀ (a : Addr) (vs : List V) (deps : List (Addr × HO)), Dvs K H L ds vs → (∀ p ∈ deps, H p.1 = some p.2 ∧ ¬ Mlk M μ σ is p.1) → ((d = .list ds ∧ ∀ H' : Hp, (∀ p ∈ deps, H' p.1 = some p.2) → SqL K H' a vs) ∨ (d = .tuple ds ∧ ∀ H' : Hp, (∀ p ∈ deps, H' p.1 = some p.2) → SqT K H' a vs)) →
      ((∃ xs, SqL K H a xs ∧ (xs.length ≤ sizeLine → R (Itl K a) H)) ∨ (∃ xs, SqT K H a xs ∧ (xs.length ≤ sizeLine → R (Itt K a) H))) := fun a vs deps w' hd hk => by
    have self : ∀ p ∈ deps, H p.1 = some p.2 := fun p hp => (hd p hp).1
    rcases hk with ⟨_, hk⟩ | ⟨_, hk⟩
    · exact .inl ⟨vs, hk H self, fun hz => q _ ⟨deps, vs.map .one, hd, .ones w', fun H' hH => itAt_list (hk H' hH)⟩ (by rw [w'.length]; exact hz)⟩
    · exact .inr ⟨vs, hk H self, fun hz => q _ ⟨deps, vs.map .one, hd, .ones w', fun H' hH => itAt_tup (hk H' hH)⟩ (by rw [w'.length]; exact hz)⟩
  rcases w with w | ⟨a, rfl, ow, nm⟩
  · obtain ⟨a, vs, deps, rfl, w', hd, hk⟩ := w.src2 e
    exact ⟨a, rfl, fin a vs deps w' (fun p hp => ⟨(hd p hp).1, fun z => (hd p hp).2 (S.ml _ z.1)⟩) hk⟩
  · rcases id ow with ⟨_, vs, e', h, s⟩ | ⟨_, _, e', _⟩
    · subst e'
      cases e
      exact ⟨a, rfl, fin a vs [(a, _)] s (fun p hp => by simp at hp; subst hp; exact ⟨h, nm⟩) (.inl ⟨rfl, fun H' q => .inl (.inl (q _ List.mem_cons_self))⟩)⟩
    · subst e'; cases e
theorem ji_seq {is : Option Nat} (ha : JE X W e ra) : JI X W is tg e fun μ => (ra μ).bind fun x μ1 => Rs.opt (seqD x) μ1 := by
  refine pi_mono (pi_seq ha) fun σ H R ⟨c, L, M, μ, S, p⟩ => ⟨c, L, M, μ, S, Pst.bindI p fun x μ1 v H1 S1 k1 d1 p1 => ?_⟩
  obtain ⟨ds, e1, q⟩ := p1.opt
  exact seq_fin S1 (.inl d1) e1 fun J i z => q J H1 S1 .refl i z
theorem ji_seqK {i : Nat} {x : Str} (hN : X.N[i]? = some x) (hv : Vis X.env.scope x) (hd : (x == ("__debug__" : Str)) = false) (hcd : (x == ("__classdict__" : Str)) = false) :
    JI X W (some i) tg (.Name x pos) fun μ => (Rs.opt (peek μ i) μ).bind fun x μ1 => Rs.opt (seqD x) μ1 := by
  refine pi_mono (pi_seq (pe_var (i := i) hN hv hd hcd)) fun σ H R ⟨c, L, M, μ, S, p⟩ => ?_
  cases hp : peek μ i with
  | none => simp only [hp] at p; exact p.elim
  | some d0 =>
    simp only [hp] at p
    obtain ⟨ds, e1, q⟩ := PstI.opt (show PstI X.K c L M W (some i) σ H R (Rs.opt (seqD d0) μ) from p)
    unfold peek at hp
    split at hp
    · rename_i d' h; cases hp
      obtain ⟨v', e2, e3⟩ := S.val i _ h
      exact ⟨v', e2, seq_fin S (.inl e3) e1 fun J i z => q J H S .refl i z⟩
    · rename_i d' h; cases hp
      obtain ⟨a, e2, e3, _⟩ := S.own i _ h
      exact ⟨_, e2, seq_fin S (.inr ⟨a, rfl, e3, fun z => z.2 i _ rfl h e2⟩) e1 fun J i z => q J H S .refl i z⟩
    · rename_i d' h; cases hp
      obtain ⟨a, e2, e3, e4⟩ := S.lck i _ h
      exact ⟨_, e2, seq_fin S (.inr ⟨a, rfl, e3, fun z => (S.lkl a ⟨_, e4, rfl⟩).2 z.1⟩) e1 fun J i z => q J H S .refl i z⟩
    · cases hp
/-! ranges -/
theorem range_get {lo : Int} {n i : Nat} {d : D} (h : (rangeD lo n)[i]? = some d) : i < n ∧ d = .int (lo + (i : Int)) := by
  unfold rangeD at h
  rw [List.getElem?_map] at h
  cases q : (List.range n)[i]? with
  | none => rw [q] at h; cases h
  | some k =>
    rw [q] at h
    obtain ⟨h1, h2⟩ := List.getElem?_eq_some_iff.mp q
    rw [List.getElem_range] at h2
    rw [List.length_range] at h1
    cases h
    exact ⟨h1, by rw [h2]⟩
theorem rangeD_dvs {K : PySem.W.Frag} {H : Hp} {L : Ads} (ns : List Int) : Dys K H L (ns.map PyData.int) (ns.map fun i => .one (.int i)) := by
  induction ns with
  | nil => exact .nil
  | cons n ns ih => exact .cons (.one (.int n)) ih
theorem iter_ints {K : PySem.W.Frag} {H : Hp} {L N : Ads} {J : It} {f : Nat → Int} {n : Nat} (hg : ∀ i H, i < n → J.go i H) (hy : ∀ i H x H', i < n → J.yld i H x H' → H' = H ∧ x = .int (f i)) (hs : ∀ H, J.stop n H) : IterSt K L N J ((List.range n).map fun k => .int (f k)) H := by
  refine ⟨[], ((List.range n).map f).map (fun i => .one (.int i)), fun p hp => by simp at hp, ?_, fun H' _ => ⟨fun i y e => ?_, ?_⟩⟩
  · have := rangeD_dvs (K := K) (H := H) (L := L) ((List.range n).map f)
    rw [List.map_map] at this; exact this
  · rw [List.map_map, List.getElem?_map] at e
    cases q : (List.range n)[i]? with
    | none => rw [q] at e; cases e
    | some k =>
      obtain ⟨h1, h2⟩ := List.getElem?_eq_some_iff.mp q
      rw [List.getElem_range] at h2
      rw [List.length_range] at h1
      subst h2
      rw [q] at e; cases e
      exact ⟨hg i H' h1, fun x H'' y => let ⟨a, b⟩ := hy i H' x H'' h1 y; ⟨b, a⟩⟩
  · simp only [List.length_map, List.length_range]; exact hs H'
theorem smallI_of {i : Int} (h : smallI i = true) : -(2 ^ 62) ≤ i ∧ i < 2 ^ 62 ∧ -(2 ^ 61) ≤ i ∧ i < 2 ^ 61 := by
  unfold smallI at h
  simp only [Bool.and_eq_true, decide_eq_true_eq] at h
  exact ⟨by omega, by omega, h.1, h.2⟩
theorem ji_rng1 {is : Option Nat} (hg : Gl X "range") (hm : X.mg "range" = none) (ha : JE X W a ra) (hs : isStar a = false) : JI X W is tg (.Call (.Name "range" p) [a] [] pos) fun μ => (ra μ).bind fun x μ1 => match x with
    | .int j => if smallI j && sizeOkN j.toNat then .ok (rangeD 0 j.toNat) μ1 else .st
    | _ => .st := by
  refine pi_mono (pi_range1 hg hm (pa_cons ha pa_nil (starEach_cons hs _ _)) (starEach_cons hs _ _)) fun σ H R ⟨c, L, M, μ, S, p⟩ => ⟨c, L, M, μ, S, Pst.bindI p fun x μ1 v H1 S1 k1 d1 p1 => ?_⟩
  split at p1
  · rename_i j
    split at p1
    · rename_i h
      simp only [Bool.and_eq_true] at h
      cases d1
      obtain ⟨s1, s2, _⟩ := smallI_of h.1
      refine ⟨j, rfl, s1, s2, p1 _ _ S1 .refl (iter_ints (f := fun k => 0 + (k : Int)) (fun i H hi => hi) (fun i H x H' hi y => ⟨y.1, y.2⟩) fun H => Nat.le_refl _) ?_⟩
      unfold rangeD; rw [List.length_map, List.length_range]; exact sizeOkN_of h.2
    · exact p1.elim
  · exact p1.elim
theorem ji_rng2 {is : Option Nat} (hg : Gl X "range") (hm : X.mg "range" = none) (ha : JE X W a ra) (hb : JE X W b rb) (hs : isStar a = false) (hs2 : isStar b = false) : JI X W is tg (.Call (.Name "range" p) [a, b] [] pos) fun μ => (ra μ).bind fun x μ1 => (rb μ1).bind fun y μ2 => match x, y with
    | .int i, .int j => if smallI i && smallI j && sizeOkN (j - i).toNat then .ok (rangeD i (j - i).toNat) μ2 else .st
    | _, _ => .st := by
  refine pi_mono (pi_range2 hg hm (pa_cons ha (pa_cons hb pa_nil (starEach_cons hs2 _ _)) (starEach_cons hs _ _)) (by rw [starEach_cons hs, starEach_cons hs2]; rfl) (by rw [starEach_cons hs2]; rfl)) fun σ H R ⟨c, L, M, μ, S, p⟩ => ⟨c, L, M, μ, S, Pst.bindI p fun x μ1 v H1 S1 k1 d1 p1 => ⟨c, L, M, μ1, S1, Pst.bindI p1 fun y μ2 w H2 S2 k2 d2 p2 => ?_⟩⟩
  split at p2
  · rename_i i j
    split at p2
    · rename_i h
      simp only [Bool.and_eq_true] at h
      cases d1; cases d2
      obtain ⟨s1, s2, _⟩ := smallI_of h.1.1
      obtain ⟨s3, s4, _⟩ := smallI_of h.1.2
      refine ⟨i, j, rfl, ⟨s1, s2, s3, s4⟩, p2 _ _ S2 .refl (iter_ints (f := fun k => i + (k : Int)) (fun i H hi => hi) (fun i H x H' hi y => ⟨y.1, y.2⟩) fun H => Nat.le_refl _) ?_⟩
      unfold rangeD; rw [List.length_map, List.length_range]; exact sizeOkN_of h.2
    · exact p2.elim
  · exact p2.elim
/-! zip -/
theorem dys_zip {K : PySem.W.Frag} {H : Hp} {L : Ads} : ∀ {xs ys : List D} {vs ws : List V}, Dvs K H L xs vs → Dvs K H L ys ws → Dys K H L (zipD xs ys) ((vs.zip ws).map fun p => .two p.1 p.2)
  | _, _, _, _, .nil, _ => .nil
  | _, _, _, _, .cons _ _, .nil => .nil
  | _, _, _, _, .cons a t, .cons b u => .cons (.two a b) (dys_zip t u)
theorem zip_get {α β : Type} {xs : List α} {ys : List β} {i : Nat} {x : α} {y : β} (h : (xs.zip ys)[i]? = some (x, y)) : xs[i]? = some x ∧ ys[i]? = some y := by
  rw [List.getElem?_zip_eq_some] at h; exact h
theorem itAt_zip {K : PySem.W.Frag} {H : Hp} {a b : Addr} {vs ws : List V} (h1 : SqL K H a vs) (h2 : SqL K H b ws) : ItAt (Itz K a b) ((vs.zip ws).map fun p => .two p.1 p.2) H := by
  refine ⟨fun i y e => ?_, ⟨vs, ws, h1, h2, ?_⟩⟩
  · rw [List.getElem?_map] at e
    cases q : (vs.zip ws)[i]? with
    | none => rw [q] at e; cases e
    | some p =>
      obtain ⟨v, w⟩ := p
      rw [q] at e; cases e
      obtain ⟨q1, q2⟩ := zip_get q
      refine ⟨⟨vs, ws, v, w, h1, h2, q1, q2⟩, fun x H' ⟨T, x1, x2, e1, e2, e3, f1, f2⟩ => ?_⟩
      have z1 : x1 = v := Option.some.inj ((f1 vs h1).symm.trans q1)
      have z2 : x2 = w := Option.some.inj ((f2 ws h2).symm.trans q2)
      subst z1 z2
      exact ⟨T, e1, e2, e3⟩
  · rw [List.length_map, List.length_zip]; omega
theorem itAt_zipT {K : PySem.W.Frag} {H : Hp} {a b : Addr} {vs ws : List V} (h1 : SqT K H a vs) (h2 : SqT K H b ws) : ItAt (RZ.ItzT K a b) ((vs.zip ws).map fun p => .two p.1 p.2) H := by
  refine ⟨fun i y e => ?_, ⟨vs, ws, h1, h2, ?_⟩⟩
  · rw [List.getElem?_map] at e
    cases q : (vs.zip ws)[i]? with
    | none => rw [q] at e; cases e
    | some p =>
      obtain ⟨v, w⟩ := p
      rw [q] at e; cases e
      obtain ⟨q1, q2⟩ := zip_get q
      refine ⟨⟨vs, ws, v, w, h1, h2, q1, q2⟩, fun x H' ⟨T, x1, x2, e1, e2, e3, f1, f2⟩ => ?_⟩
      have z1 : x1 = v := Option.some.inj ((f1 vs h1).symm.trans q1)
      have z2 : x2 = w := Option.some.inj ((f2 ws h2).symm.trans q2)
      subst z1 z2
      exact ⟨T, e1, e2, e3⟩
  · rw [List.length_map, List.length_zip]; omega
/-- what is known while a body runs -/
theorem pa_inv {es : List Expr} {ta : TA} (ha : PA X es ta) : PA X es (fun σ H Q => ta σ H fun vs H1 => (∃ pins s, L2.Inv X pins σ H1 s) → Q vs H1) :=
  ⟨fun pos' pins' s' σ' H' Q' I' h' => thn (ha.run pos' pins' s' σ' H' _ I' h') fun us s1 ⟨vs, H1, I1, r, q⟩ => ⟨vs, H1, I1, r, q ⟨pins', s1, I1⟩⟩⟩
theorem pe_inv {e : Expr} {te : TE} (ha : PE X e te) : PE X e (fun σ H Q => te σ H fun v H1 => (∃ pins s, L2.Inv X pins σ H1 s) → Q v H1) :=
  ⟨fun pins' s' σ' H' Q' I' h' => thn (ha.run pins' s' σ' H' _ I' h') fun us s1 ⟨vs, H1, I1, r, q⟩ => ⟨vs, H1, I1, r, q ⟨pins', s1, I1⟩⟩⟩
theorem ji_zip {is : Option Nat} {elts : List Expr} {kk : Nat} {tpos : Pos} (hg : Gl X "zip") (hm : X.mg "zip" = none) (ha : JE X W a ra) (hb : JE X W b rb) (hs : isStar a = false) (hs2 : isStar b = false) :
    JI X W is (.Tuple elts kk tpos) (.Call (.Name "zip" p) [a, b] [] pos) fun μ => (ra μ).bind fun x μ1 => (rb μ1).bind fun y μ2 => match (if sameSeq x y then seqD x else none), seqD y with
      | some xs, some ys => .ok (zipD xs ys) μ2
      | _, _ => .st := by
  refine pi_mono (RZ.pi_zipA hg hm (pa_inv (pa_cons ha (pa_cons hb pa_nil (starEach_cons hs2 _ _)) (starEach_cons hs _ _))) (starEach_cons hs _ _) (backTo_plain (by simp [hs2]))) fun σ H R ⟨c, L, M, μ, S, p⟩ => ⟨c, L, M, μ, S, Pst.bindI p fun x μ1 v H1 S1 k1 d1 p1 => ⟨c, L, M, μ1, S1, Pst.bindI p1 fun y μ2 w H2 S2 k2 d2 p2 => ?_⟩⟩
  rintro ⟨pins, s, I⟩
  split at p2
  · rename_i xs ys e1 e2
    split at e1
    · rename_i hsame
      have d1' := S2.dk d1 k2
      obtain ⟨a1, vs, deps, rfl, w1, hd1, hk1⟩ := d1'.src2 e1
      obtain ⟨a2, ws, deps2, rfl, w2, hd2, hk2⟩ := Dv.src2 d2 e2
      have noN : ∀ p ∈ deps ++ deps2, H2 p.1 = some p.2 ∧ ¬ Mlk M μ2 σ is p.1 := fun p hp => by
        rcases List.mem_append.mp hp with h | h
        · exact ⟨(hd1 p h).1, fun z => (hd1 p h).2 (S2.ml _ z.1)⟩
        · exact ⟨(hd2 p h).1, fun z => (hd2 p h).2 (S2.ml _ z.1)⟩
      have self1 : ∀ p ∈ deps, H2 p.1 = some p.2 := fun p hp => (hd1 p hp).1
      have self2 : ∀ p ∈ deps2, H2 p.1 = some p.2 := fun p hp => (hd2 p hp).1
      have len : ∀ n, vs.length ≤ n → (zipD xs ys).length ≤ n := fun n h => by
        unfold zipD; rw [List.length_map, List.length_zip, w1.length]; omega
      rcases hk1 with ⟨f1, hk1⟩ | ⟨f1, hk1⟩
      · rcases hk2 with ⟨f2, hk2⟩ | ⟨f2, hk2⟩
        · refine ⟨a1, a2, vs, ws, rfl, .inl ⟨hk1 H2 self1, hk2 H2 self2, p2 _ _ S2 .refl ⟨deps ++ deps2, _, noN, dys_zip w1 w2, fun H' hH => itAt_zip (hk1 H' fun p hp => hH p (List.mem_append_left _ hp)) (hk2 H' fun p hp => hH p (List.mem_append_right _ hp))⟩ (len _ ?_)⟩⟩
          obtain ⟨_, _, _, z⟩ := I.list (hk1 H2 self1); exact z
        · rw [f1, f2] at hsame; cases hsame
      · rcases hk2 with ⟨f2, hk2⟩ | ⟨f2, hk2⟩
        · rw [f1, f2] at hsame; cases hsame
        · refine ⟨a1, a2, vs, ws, rfl, .inr ⟨hk1 H2 self1, hk2 H2 self2, p2 _ _ S2 .refl ⟨deps ++ deps2, _, noN, dys_zip w1 w2, fun H' hH => itAt_zipT (hk1 H' fun p hp => hH p (List.mem_append_left _ hp)) (hk2 H' fun p hp => hH p (List.mem_append_right _ hp))⟩ (len _ ?_)⟩⟩
          obtain ⟨_, _, _, z⟩ := I.tuple (hk1 H2 self1); exact z
    · cases e1
  · exact p2.elim
end
end Mn
set_option Elab.async false
set_option linter.all false
set_option maxRecDepth 100000
set_option autoImplicit false
namespace Mn
open PySem PySem.Spec L2
/-! ## a comprehension's own slots -/
theorem wipeL_len (μ : Mu) : ∀ t : List Nat, (wipeL μ t).length = μ.length
  | [] => rfl
  | v :: vs => by unfold wipeL; rw [List.length_set, wipeL_len μ vs]
theorem wipeL_out {μ : Mu} {i : Nat} : ∀ {t : List Nat}, i ∉ t → (wipeL μ t)[i]? = μ[i]?
  | [], _ => rfl
  | v :: vs, h => by
    rw [List.mem_cons, not_or] at h
    unfold wipeL
    rw [List.getElem?_set_ne (Ne.symm h.1), wipeL_out h.2]
theorem wipeL_in {μ : Mu} {i : Nat} : ∀ {t : List Nat}, i ∈ t → i < μ.length → (wipeL μ t)[i]? = some .no
  | v :: vs, h, hl => by
    unfold wipeL
    by_cases e : v = i
    · subst e; rw [List.getElem?_set_self (by rw [wipeL_len]; exact hl)]
    · rw [List.getElem?_set_ne e]
      exact wipeL_in ((List.mem_cons.mp h).resolve_left (Ne.symm e)) hl
theorem backL_len (μ0 μ : Mu) : ∀ t : List Nat, (backL μ0 μ t).length = μ.length
  | [] => rfl
  | v :: vs => by unfold backL; rw [List.length_set, backL_len μ0 μ vs]
theorem backL_out {μ0 μ : Mu} {i : Nat} : ∀ {t : List Nat}, i ∉ t → (backL μ0 μ t)[i]? = μ[i]?
  | [], _ => rfl
  | v :: vs, h => by
    rw [List.mem_cons, not_or] at h
    unfold backL
    rw [List.getElem?_set_ne (Ne.symm h.1), backL_out h.2]
theorem backL_in {μ0 μ : Mu} {i : Nat} : ∀ {t : List Nat}, i ∈ t → i < μ.length → (backL μ0 μ t)[i]? = some (μ0.getD i .no)
  | v :: vs, h, hl => by
    unfold backL
    by_cases e : v = i
    · subst e; rw [List.getElem?_set_self (by rw [backL_len]; exact hl)]
    · rw [List.getElem?_set_ne e]
      exact backL_in ((List.mem_cons.mp h).resolve_left (Ne.symm e)) hl
theorem freeAll_of {t : List Nat} {μ : Mu} (h : freeAll t μ = true) : ∀ i ∈ t, ∃ s, μ[i]? = some s ∧ s.held = false := fun i hi => by
  have := List.all_eq_true.mp h i hi
  cases q : μ[i]? with
  | none => rw [q] at this; cases this
  | some s => rw [q] at this; exact ⟨s, rfl, by simpa using this⟩
section
variable {K : PySem.W.Frag} {c : Ent} {L M : Ads} {μ μ1 μ3 m : Mu} {σ σ2 : St} {H H4 : Hp} {t : List Nat}
theorem wipe_out' {i : Nat} (h : i ∉ t) : (wipe σ t)[i]? = σ[i]? := wipe_out h
theorem Sr.wipe (S : Sr K c L M μ σ H) (hf : freeAll t μ = true) : Sr K c L M (wipeL μ t) (L2.wipe σ t) H := by
  have fr := freeAll_of hf
  have out : ∀ (i : Nat) (s : Sl), (wipeL μ t)[i]? = some s → s ≠ .no → i ∉ t := fun i s e n hi => by
    obtain ⟨s', e', _⟩ := fr i hi
    rw [wipeL_in hi (List.getElem?_eq_some_iff.mp e').1] at e
    exact n (Option.some.inj e).symm
  have held : ∀ (i : Nat) (s : Sl), μ[i]? = some s → s.held = true → i ∉ t := fun i s e h hi => by
    obtain ⟨s', e', h'⟩ := fr i hi
    rw [e] at e'; cases e'; rw [h] at h'; cases h'
  refine ⟨by rw [wipeL_len, wipe_length]; exact S.len, fun i d e => ?_, fun i d e => ?_, fun i d e => ?_, fun i j s s' a e1 h1 e2 h2 q1 q2 => ?_, S.ml, S.lkl, S.l0, S.m0, S.l00, S.trk, S.keep, fun p hp => ?_, fun p hp => ?_⟩
  · have n := out i _ e (by simp)
    rw [wipeL_out n] at e; rw [wipe_out n]; exact S.val i d e
  · have n := out i _ e (by simp)
    rw [wipeL_out n] at e; rw [wipe_out n]; exact S.own i d e
  · have n := out i _ e (by simp)
    rw [wipeL_out n] at e; rw [wipe_out n]; exact S.lck i d e
  · have n1 := out i _ e1 (by rintro rfl; cases h1)
    have n2 := out j _ e2 (by rintro rfl; cases h2)
    rw [wipeL_out n1] at e1; rw [wipeL_out n2] at e2
    rw [wipe_out n1] at q1; rw [wipe_out n2] at q2
    exact S.inj i j s s' a e1 h1 e2 h2 q1 q2
  · obtain ⟨e1, s, e2, e3⟩ := S.io p hp
    have n := held p.1 s e2 e3
    rw [wipe_out n, wipeL_out n]; exact ⟨e1, s, e2, e3⟩
  · obtain ⟨e1, d, e2⟩ := S.lks p hp
    have n := held p.1 _ e2 rfl
    rw [wipe_out n, wipeL_out n]; exact ⟨e1, d, e2⟩
theorem Sr.back (S3 : Sr K c L M μ3 σ2 H4) (S0 : Sr K c L M m σ H) (k : Kp M H H4) (ag : ∀ j, j ∉ t → σ2[j]? = σ[j]?) (hl : σ2.length = σ.length) (hf : freeAll t m = true) : Sr K c L M (backL m μ3 t) σ H4 := by
  have fr := freeAll_of hf
  have lm : m.length = μ3.length := by rw [S0.len, S3.len, hl]
  have atT : ∀ (i : Nat), i ∈ t → ∃ s, (backL m μ3 t)[i]? = some s ∧ m[i]? = some s ∧ s.held = false := fun i hi => by
    obtain ⟨s, e, h⟩ := fr i hi
    refine ⟨s, ?_, e, h⟩
    rw [backL_in hi (by rw [← lm]; exact (List.getElem?_eq_some_iff.mp e).1)]
    simp [List.getD, e]
  have held : ∀ (i : Nat) (s : Sl), (backL m μ3 t)[i]? = some s → s.held = true → i ∉ t := fun i s e h hi => by
    obtain ⟨s', e', _, h'⟩ := atT i hi
    rw [e] at e'; cases e'; rw [h] at h'; cases h'
  have held3 : ∀ (i : Nat), (∃ s, m[i]? = some s ∧ s.held = true) → i ∉ t := fun i ⟨s, e, h⟩ hi => by
    obtain ⟨s', _, e', h'⟩ := atT i hi
    rw [e] at e'; cases e'; rw [h] at h'; cases h'
  have kl : Kp L H H4 := k.mono S0.ml
  refine ⟨by rw [backL_len, S3.len, hl], fun i d e => ?_, fun i d e => ?_, fun i d e => ?_, fun i j s s' a e1 h1 e2 h2 q1 q2 => ?_, S3.ml, S3.lkl, S3.l0, S3.m0, S3.l00, S3.trk, S3.keep, fun p hp => ?_, fun p hp => ?_⟩
  · by_cases hi : i ∈ t
    · obtain ⟨s, e1, e2, _⟩ := atT i hi
      rw [e] at e1; cases e1
      obtain ⟨v, q1, q2⟩ := S0.val i d e2
      exact ⟨v, q1, q2.keep kl⟩
    · rw [backL_out hi] at e; rw [← ag i hi]; exact S3.val i d e
  · have hi := held i _ e rfl
    rw [backL_out hi] at e; rw [← ag i hi]; exact S3.own i d e
  · have hi := held i _ e rfl
    rw [backL_out hi] at e; rw [← ag i hi]; exact S3.lck i d e
  · have n1 := held i _ e1 h1
    have n2 := held j _ e2 h2
    rw [backL_out n1] at e1; rw [backL_out n2] at e2
    rw [← ag i n1] at q1; rw [← ag j n2] at q2
    exact S3.inj i j s s' a e1 h1 e2 h2 q1 q2
  · obtain ⟨_, s0, q2, q3⟩ := S0.io p hp
    have n := held3 p.1 ⟨s0, q2, q3⟩
    rw [← ag _ n, backL_out n]; exact S3.io p hp
  · obtain ⟨_, d0, q2⟩ := S0.lks p hp
    have n := held3 p.1 ⟨_, q2, rfl⟩
    rw [← ag _ n, backL_out n]; exact S3.lks p hp
theorem wipe_set {σ : St} {t : List Nat} {σ2 : St} (hl : σ2.length = σ.length) (ag : ∀ j, j ∉ t → σ2[j]? = (L2.wipe σ t)[j]?) : L2.wipe σ2 t = L2.wipe σ t := by
  apply List.ext_getElem?
  intro j
  by_cases hj : j ∈ t
  · have aux : ∀ (τ : St) (t : List Nat), j ∈ t → (L2.wipe τ t)[j]? = if j < τ.length then some none else none := fun τ t => by
      induction t with
      | nil => intro h; simp at h
      | cons v vs ih =>
        intro h
        unfold L2.wipe
        by_cases e : v = j
        · subst e
          by_cases hv : v < τ.length
          · rw [if_pos hv, List.getElem?_set_self (by rw [wipe_length]; exact hv)]
          · rw [if_neg hv, List.getElem?_eq_none (by rw [List.length_set, wipe_length]; omega)]
        · rw [List.getElem?_set_ne e]
          exact ih ((List.mem_cons.mp h).resolve_left (Ne.symm e))
    rw [aux σ2 t hj, aux σ t hj, hl]
  · rw [wipe_out hj, ag j hj]
end
/-! ## targets -/
def gsOf : List Nat → TGs
  | [] => gNil
  | i :: is => gCons (gName i) (gsOf is)
def gOf (K : PySem.W.Frag) (t : List Nat) (tup : Bool) : TG := match tup with
  | true => gTup K t.length (gsOf t)
  | false => gName (t.getD 0 0)
section
variable {K : PySem.W.Frag} {c : Ent} {L M : Ads} {μ μ1 : Mu} {σ : St} {H H' : Hp}
theorem isLck_of {μ : Mu} {i : Nat} (h : ¬ isLck μ i = true) : ∀ e, μ[i]? ≠ some (.lck e) := fun e z => by
  unfold isLck at h; rw [z] at h; exact h rfl
theorem Sr.set' (S : Sr K c L M μ σ H) {i : Nat} {d : D} {v : V} (w : Dv K H L d v) (hio : ∀ p ∈ c.io, p.1 ≠ i) (hlk : ∀ e, μ[i]? ≠ some (.lck e)) : Sr K c L M (setN i d μ) (σ.set i (some v)) H := by
  by_cases hi : i < σ.length
  · exact S.set w hio hlk hi
  · have e1 : σ.set i (some v) = σ := List.set_eq_of_length_le (by omega)
    have e2 : setN i d μ = μ := List.set_eq_of_length_le (by rw [S.len]; omega)
    rw [e1, e2]; exact S
theorem gs_set : ∀ {t : List Nat} {ds : List D} {vs : List V} {μ μ1 : Mu} {σ : St} {Q : St → Hp → Prop}, Sr K c L M μ σ H → Dvs K H L ds vs → setAll t ds μ = some μ1 → (∀ i ∈ t, ∀ p ∈ c.io, p.1 ≠ i) →
    (∀ σ2, Sr K c L M μ1 σ2 H → (∀ j, j ∉ t → σ2[j]? = σ[j]?) → σ2.length = σ.length → Q σ2 H) → gsOf t vs σ H Q
  | [], _, _, μ, μ1, σ, Q, S, .nil, e, _, q => by
    cases e
    exact ⟨rfl, q σ S (fun _ _ => rfl) rfl⟩
  | i :: is, _, _, μ, μ1, σ, Q, S, .cons w t, e, hi, q => by
    unfold setAll at e
    split at e
    · cases e
    · rename_i hl
      have h2 := hi i List.mem_cons_self
      have S' := S.set' w h2 (isLck_of hl)
      refine ⟨_, _, rfl, gs_set S' t e (fun j hj => ?_) fun σ2 S2 ag hl2 => q σ2 S2 (fun j hj => ?_) (by rw [hl2, List.length_set])⟩
      · exact hi j (List.mem_cons_of_mem _ hj)
      · rw [List.mem_cons, not_or] at hj
        rw [ag j hj.2, List.getElem?_set_ne (Ne.symm hj.1)]
  | [], _, _, _, _, _, _, _, .cons _ _, e, _, _ => by cases e
  | _ :: _, _, _, _, _, _, _, _, .nil, e, _, _ => by cases e
theorem setAll_len : ∀ {t : List Nat} {ds : List D} {μ μ1 : Mu}, setAll t ds μ = some μ1 → t.length = ds.length
  | [], [], _, _, _ => rfl
  | _ :: _, _ :: _, μ, μ1, e => by
    unfold setAll at e
    split at e
    · cases e
    · exact congrArg (· + 1) (setAll_len e)
  | [], _ :: _, _, _, e => by cases e
  | _ :: _, [], _, _, e => by cases e
/-- a target takes what a walk yields -/
theorem g_set {t : List Nat} {tup : Bool} {d : D} {y : Yi} {x : V} {Q : St → Hp → Prop} (S : Sr K c L M μ σ H) (dy : Dyi K H L d y) (hy : YOk y x H H') (e : setT t tup d μ = some μ1) (hi : ∀ i ∈ t, ∀ p ∈ c.io, p.1 ≠ i) (ht : tup = false → t.length = 1)
    (q : ∀ σ2, Sr K c L M μ1 σ2 H' → (∀ j, j ∉ t → σ2[j]? = σ[j]?) → σ2.length = σ.length → (∀ a o, H a = some o → H' a = some o) → Q σ2 H') : gOf K t tup x σ H' Q := by
  cases tup with
  | false =>
    have hlen := ht rfl
    match t, hlen with
    | [i], _ =>
      have e0 : (if isPair d then none else setAll [i] [d] μ) = some μ1 := e
      cases dy with
      | two w z => cases e0
      | one w =>
        obtain ⟨rfl, rfl⟩ := hy
        split at e0
        · cases e0
        · have e' : setAll [i] [d] μ = some μ1 := e0
          unfold setAll at e'
          split at e'
          · cases e'
          · rename_i hl
            have h2 := hi i List.mem_cons_self
            have e2 : setN i d μ = μ1 := by
              have : setAll [] [] (setN i d μ) = some μ1 := e'
              unfold setAll at this; exact Option.some.inj this
            subst e2
            show Q (σ.set i (some x)) H'
            exact q _ (S.set' w h2 (isLck_of hl)) (fun j hj => by rw [List.mem_singleton] at hj; rw [List.getElem?_set_ne (Ne.symm hj)]) (by rw [List.length_set]) fun _ _ h => h
  | true =>
    unfold setT at e
    simp only at e
    split at e
    · rename_i xs
      cases dy with
      | one w =>
        obtain ⟨rfl, rfl⟩ := hy
        obtain ⟨a, vs, rfl, sa, wa⟩ := w.tuple
        exact ⟨a, vs, rfl, sa, by rw [← wa.length, setAll_len e], gs_set S wa e hi fun σ2 S2 ag hl => q σ2 S2 ag hl fun _ _ h => h⟩
    · rename_i xs
      generalize hd : PyData.dict [(PyData.none, PyData.tuple xs)] = dd at dy
      cases dy with
      | one w =>
        subst hd
        cases w with
        | dct n r s => exact nomatch s
      | @two d1 d2 v w1 w z =>
        have hx : xs = [d1, d2] := by
          unfold pairD at hd
          simpa using hd
        subst hx
        obtain ⟨T, rfl, nT, rfl⟩ := hy
        refine ⟨T, _, rfl, .inl (.inl upd_same), ?_, gs_set (S.laid nT) (.cons (w.keep (Kp.laid nT)) (.cons (z.keep (Kp.laid nT)) .nil)) e hi fun σ2 S2 ag hl => q σ2 S2 ag hl (fun a o h => by rw [upd_ne (ne_of_none h nT)]; exact h)⟩
        rw [setAll_len e]; rfl
    · cases e
end
/-! ## locks -/
section
variable {K : PySem.W.Frag} {c : Ent} {L M : Ads} {μ : Mu} {σ : St} {H : Hp}
/-- a walk's own slot is locked meanwhile -/
theorem Sr.lock (S : Sr K c L M μ σ H) (o : Option Nat) : ∃ (c' : Ent) (M' : Ads), c'.io = c.io ∧ Sr K c' L M' (lockM o μ) σ H ∧ (∀ b, M' b → Mlk M μ σ o b) ∧ (∀ b, M' b → M b) ∧
    ∀ L2 M2 μ2 σ2 H2, Sr K c' L2 M2 μ2 σ2 H2 → ∃ M3, Sr K c L2 M3 (unlockM o μ μ2) σ2 H2 ∧ (∀ b, M3 b → M2 b ∨ M b) ∧ ((∀ b, M2 b ↔ M' b) → ∀ b, M3 b ↔ M b) := by
  have easy : (∀ i d, o = some i → μ[i]? ≠ some (.own d)) → ∃ (c' : Ent) (M' : Ads), c'.io = c.io ∧ Sr K c' L M' (lockM o μ) σ H ∧ (∀ b, M' b → Mlk M μ σ o b) ∧ (∀ b, M' b → M b) ∧
      ∀ L2 M2 μ2 σ2 H2, Sr K c' L2 M2 μ2 σ2 H2 → ∃ M3, Sr K c L2 M3 (unlockM o μ μ2) σ2 H2 ∧ (∀ b, M3 b → M2 b ∨ M b) ∧ ((∀ b, M2 b ↔ M' b) → ∀ b, M3 b ↔ M b) := fun no => by
    have e1 : lockM o μ = μ := by
      cases o with
      | none => rfl
      | some i =>
        unfold lockM
        cases hq : μ[i]? with
        | none => simp only [hq]
        | some s =>
          cases s with
          | own d => exact absurd hq (no i d rfl)
          | _ => simp only [hq]
    have e2 : ∀ μ2, unlockM o μ μ2 = μ2 := fun μ2 => by
      cases o with
      | none => rfl
      | some i =>
        unfold unlockM
        cases hq : μ[i]? with
        | none => simp only [hq]
        | some s =>
          cases s with
          | own d => exact absurd hq (no i d rfl)
          | _ => simp only [hq]
    refine ⟨c, M, rfl, by rw [e1]; exact S, fun b hb => ⟨hb, fun i d ho hd => absurd hd (no i d ho)⟩, fun _ h => h, fun L2 M2 μ2 σ2 H2 S2 => ⟨M2, by rw [e2]; exact S2, fun _ h => .inl h, fun h => h⟩⟩
  cases o with
  | none => exact easy (fun i d z => by cases z)
  | some i =>
    by_cases hd : ∃ d, μ[i]? = some (.own d)
    · obtain ⟨d, hd⟩ := hd
      obtain ⟨a, ea, ow, hM⟩ := S.own i d hd
      have il : i < μ.length := (List.getElem?_eq_some_iff.mp hd).1
      have e1 : lockM (some i) μ = μ.set i (.lck d) := by
        unfold lockM; simp only [hd]
      have back : ∀ (j : Nat) (s : Sl), (μ.set i (.lck d))[j]? = some s → s.held = true → ∃ t, μ[j]? = some t ∧ t.held = true := fun j s e h => by
        by_cases n : j = i
        · subst n; exact ⟨_, hd, rfl⟩
        · rw [List.getElem?_set_ne (Ne.symm n)] at e; exact ⟨s, e, h⟩
      refine ⟨{ c with lks := (i, a) :: c.lks }, fun b => M b ∧ b ≠ a, rfl, ?_, fun b hb => ⟨hb.1, fun j d' ho hd' z => ?_⟩, fun b hb => hb.1, fun L2 M2 μ2 σ2 H2 S2 => ?_⟩
      · rw [e1]
        refine ⟨by rw [List.length_set]; exact S.len, fun j e q => ?_, fun j e q => ?_, fun j e q => ?_, fun j j' s t b q1 h1 q2 h2 e1 e2 => ?_, fun b h => S.ml b h.1, fun b h => ?_, S.l0, fun b h => S.m0 b h.1, S.l00, S.trk, S.keep, fun p hp => ?_, fun p hp => ?_⟩
        · by_cases n : j = i
          · subst n; rw [List.getElem?_set_self il] at q; cases q
          · rw [List.getElem?_set_ne (Ne.symm n)] at q; exact S.val j e q
        · by_cases n : j = i
          · subst n; rw [List.getElem?_set_self il] at q; cases q
          · rw [List.getElem?_set_ne (Ne.symm n)] at q
            obtain ⟨b, q1, q2, q3⟩ := S.own j e q
            exact ⟨b, q1, q2, q3, fun z => n (S.inj j i _ _ a q rfl hd rfl (z ▸ q1) ea)⟩
        · by_cases n : j = i
          · subst n; rw [List.getElem?_set_self il] at q; cases q
            exact ⟨a, ea, ow, List.mem_cons_self⟩
          · rw [List.getElem?_set_ne (Ne.symm n)] at q
            obtain ⟨b, q1, q2, q3⟩ := S.lck j e q
            exact ⟨b, q1, q2, List.mem_cons_of_mem _ q3⟩
        · obtain ⟨s', a1, a2⟩ := back j s q1 h1
          obtain ⟨t', b1, b2⟩ := back j' t q2 h2
          exact S.inj j j' s' t' b a1 a2 b1 b2 e1 e2
        · obtain ⟨p, hp, rfl⟩ := h
          rcases List.mem_cons.mp hp with rfl | hp
          · exact ⟨S.ml a hM, fun z => z.2 rfl⟩
          · obtain ⟨z1, z2⟩ := S.lkl p.2 ⟨p, hp, rfl⟩
            exact ⟨z1, fun z => z2 z.1⟩
        · obtain ⟨q1, s, q2, q3⟩ := S.io p hp
          refine ⟨q1, ?_⟩
          by_cases n : p.1 = i
          · rw [n, List.getElem?_set_self il]; exact ⟨_, rfl, rfl⟩
          · rw [List.getElem?_set_ne (Ne.symm n)]; exact ⟨s, q2, q3⟩
        · rcases List.mem_cons.mp hp with rfl | hp
          · exact ⟨ea, d, List.getElem?_set_self il⟩
          · obtain ⟨q1, dd, q2⟩ := S.lks p hp
            have n : p.1 ≠ i := fun z => by rw [z, hd] at q2; cases q2
            exact ⟨q1, dd, by rw [List.getElem?_set_ne (Ne.symm n)]; exact q2⟩
      · cases ho
        rw [ea] at z; cases z; exact hb.2 rfl
      · obtain ⟨q1, d2, q2⟩ := S2.lks (i, a) List.mem_cons_self
        have q1 : σ2[i]? = some (some (.ref a)) := q1
        have q2 : μ2[i]? = some (.lck d2) := q2
        have il2 : i < μ2.length := (List.getElem?_eq_some_iff.mp q2).1
        have e2 : unlockM (some i) μ μ2 = μ2.set i (.own d2) := by
          unfold unlockM; simp only [hd, q2]
        obtain ⟨z1, z2⟩ := S2.lkl a ⟨(i, a), List.mem_cons_self, rfl⟩
        obtain ⟨a', ea', ow', _⟩ := S2.lck i d2 q2
        have : a' = a := by rw [q1] at ea'; cases ea'; rfl
        subst this
        have back2 : ∀ (j : Nat) (s : Sl), (μ2.set i (.own d2))[j]? = some s → s.held = true → ∃ t, μ2[j]? = some t ∧ t.held = true := fun j s e h => by
          by_cases n : j = i
          · subst n; exact ⟨_, q2, rfl⟩
          · rw [List.getElem?_set_ne (Ne.symm n)] at e; exact ⟨s, e, h⟩
        refine ⟨fun b => M2 b ∨ b = a', ?_, fun b h => h.elim .inl fun z => .inr (by rw [z]; exact hM), fun h b => ?_⟩
        · rw [e2]
          refine ⟨by rw [List.length_set]; exact S2.len, fun j e q => ?_, fun j e q => ?_, fun j e q => ?_, fun j j' s t b q1 h1 q2 h2 e1 e2 => ?_, fun b h => ?_, fun b h => ?_, S2.l0, fun b h => ?_, S2.l00, S2.trk, S2.keep, fun p hp => ?_, fun p hp => ?_⟩
          · by_cases n : j = i
            · subst n; rw [List.getElem?_set_self il2] at q; cases q
            · rw [List.getElem?_set_ne (Ne.symm n)] at q; exact S2.val j e q
          · by_cases n : j = i
            · subst n; rw [List.getElem?_set_self il2] at q; cases q
              exact ⟨a', q1, ow', .inr rfl⟩
            · rw [List.getElem?_set_ne (Ne.symm n)] at q
              obtain ⟨b, r1, r2, r3⟩ := S2.own j e q
              exact ⟨b, r1, r2, .inl r3⟩
          · by_cases n : j = i
            · subst n; rw [List.getElem?_set_self il2] at q; cases q
            · rw [List.getElem?_set_ne (Ne.symm n)] at q
              obtain ⟨b, r1, r2, r3⟩ := S2.lck j e q
              rcases List.mem_cons.mp r3 with r3 | r3
              · exact absurd (congrArg Prod.fst r3) n
              · exact ⟨b, r1, r2, r3⟩
          · obtain ⟨s', a1, a2⟩ := back2 j s q1 h1
            obtain ⟨t', b1, b2⟩ := back2 j' t q2 h2
            exact S2.inj j j' s' t' b a1 a2 b1 b2 e1 e2
          · rcases h with h | rfl
            · exact S2.ml b h
            · exact z1
          · obtain ⟨p, hp, rfl⟩ := h
            obtain ⟨y1, y2⟩ := S2.lkl p.2 ⟨p, List.mem_cons_of_mem _ hp, rfl⟩
            refine ⟨y1, fun z => ?_⟩
            rcases z with z | z
            · exact y2 z
            · exact (S.lkl p.2 ⟨p, hp, rfl⟩).2 (by rw [z]; exact hM)
          · rcases h with h | rfl
            · exact S2.m0 b h
            · exact S.m0 b hM
          · obtain ⟨r1, s, r2, r3⟩ := S2.io p hp
            refine ⟨r1, ?_⟩
            by_cases n : p.1 = i
            · rw [n, List.getElem?_set_self il2]; exact ⟨_, rfl, rfl⟩
            · rw [List.getElem?_set_ne (Ne.symm n)]; exact ⟨s, r2, r3⟩
          · obtain ⟨r1, dd, r2⟩ := S2.lks p (List.mem_cons_of_mem _ hp)
            have n : p.1 ≠ i := fun z => by
              obtain ⟨_, d3, r3⟩ := S.lks p hp
              rw [z, hd] at r3; cases r3
            exact ⟨r1, dd, by rw [List.getElem?_set_ne (Ne.symm n)]; exact r2⟩
        · constructor
          · rintro (z | rfl)
            · exact ((h b).mp z).1
            · exact hM
          · intro z
            by_cases e : b = a'
            · exact .inr e
            · exact .inl ((h b).mpr ⟨z, e⟩)
    · exact easy fun j d z => by cases z; exact fun q => hd ⟨d, q⟩
end
end Mn
set_option Elab.async false
set_option linter.all false
set_option maxRecDepth 100000
set_option autoImplicit false
namespace Mn
open PySem PySem.Spec L2
/-! ## comprehensions -/
abbrev W0 : WXm := fun _ _ _ => False
def ttOf (K : PySem.W.Frag) : Option (Mu → Rs Bool) → TT
  | none => tYes
  | some r => Tr K W0 rB r
/-- one turn -/
def turnR (t : List Nat) (tup : Bool) (re : Mu → Rs D) (rc : Option (Mu → Rs Bool)) (d : D) (m : Mu) : Rs (Option D) := Rs.nox (match (wipeM t m).bind (setT t tup d) with
  | none => .st
  | some m1 => match rc with
    | none => (re m1).bind fun y m2 => .ok (some y) (backL m m2 t)
    | some r => (r m1).bind fun b m2 => match b with
      | true => (re m2).bind fun y m3 => .ok (some y) (backL m m3 t)
      | false => .ok none (backL m m2 t))
section
variable {X : Cx} {W : WXm} {elt tg iter : Expr} {ifs : List Expr} {scope : Scope} {own : List (Str × Nat)} {pos : Pos} {t : List Nat} {tup : Bool} {o : Option Nat} {ri : Mu → Rs (List D)} {re : Mu → Rs D} {rc : Option (Mu → Rs Bool)}
/-- the reading of a comprehension -/
theorem tr_comp (ht1 : tup = false → t.length = 1) {σ : St} {H : Hp} {Q : VK}
    (h : Tf X.K W (fun μ => (ri μ).bind fun xs μ1 => (compL (turnR t tup re rc) xs [] (lockM o μ1)).bind fun ys μ2 => .ok (.list ys) (unlockM o μ1 μ2)) σ H Q) :
    tLc (TrI X.K W o ri) (gOf X.K t tup) (ttOf X.K rc) (Tr X.K W0 (rD X.K) re) t σ H Q := by
  obtain ⟨c, L, M, μ, S, p⟩ := h
  refine ⟨c, L, M, μ, S, ?_⟩
  cases hri : ri μ with
  | st => simp only [hri] at p; exact p
  | ex x μ1 => simp only [hri] at p; exact p
  | ok xs μ1 =>
    simp only [hri] at p
    intro J H1 S1 k1 it hz D nD
    obtain ⟨c', M', ioe, S1', mlk, mm, back⟩ := S1.lock o
    have nL : ¬ L D := S1.free nD
    have nM' : ¬ M' D := fun z => nL (S1.ml D (mm D z))
    have nlk : ¬ c'.lk D := fun z => nL (S1'.lkl D z).1
    have n0 : c'.H0 D = none ∨ c'.M0 D := by
      by_cases z : c'.M0 D
      · exact .inr z
      · cases q : c'.H0 D with
        | none => exact .inl rfl
        | some o => have := S1'.keep D o q z; rw [nD] at this; cases this
    have S2 : Sr X.K c' (plusA L D) M' (lockM o μ1) σ (upd H1 D (.lst [])) := S1'.plus nD
    have kD : ∀ (H : Hp) (oo : HO), Kp (plusA M' D) H (upd H D oo) := fun H oo a u e n => by rw [upd_ne (fun z => n (.inr z))]; exact e
    have kDL : ∀ (H : Hp) (oo : HO), Kp (plusA L D) H (upd H D oo) := fun H oo a u e n => by rw [upd_ne (fun z => n (.inr z))]; exact e
    have nl' : ∀ a, plusA M' D a → plusA L D a := fun a h => h.elim (fun h => .inl (S1'.ml a h)) .inr
    have it2 : IterSt X.K (plusA L D) (plusA M' D) J xs (upd H1 D (.lst [])) := ((it.anti (fun _ h => h) mlk).plus nD).keep (kD _ _) nl'
    refine ⟨fun i m H' => ∃ μi accD acc, i + m = xs.length ∧ Sr X.K c' (plusA L D) M' μi σ H' ∧ IterSt X.K (plusA L D) (plusA M' D) J xs H' ∧ H' D = some (.lst acc) ∧ Dvs X.K H' (plusA L D) accD acc ∧ acc.length ≤ i ∧ Kp (plusA M' D) H1 H' ∧
      Pf X.K c L M W σ H Q ((compL (turnR t tup re rc) (xs.drop i) accD μi).bind fun ys μ2 => .ok (.list ys) (unlockM o μ1 μ2)), ⟨xs.length, lockM o μ1, [], [], by omega, S2, it2, upd_same, .nil, Nat.zero_le _, kD _ _, p⟩, ?_⟩
    rintro i m H' ⟨μi, accD, acc, him, Si, iti, eD, dvs, hla, ki, pf⟩
    by_cases hi : i < xs.length
    · obtain ⟨d, ed⟩ : ∃ d, xs[i]? = some d := ⟨xs[i], List.getElem?_eq_getElem hi⟩
      obtain ⟨y, dy, go, yl⟩ := iti.turn ed
      have hdrop : xs.drop i = d :: xs.drop (i + 1) := by
        rw [List.drop_eq_getElem_cons hi]
        congr 1
        rw [List.getElem?_eq_getElem hi] at ed
        exact Option.some.inj ed
      rw [hdrop] at pf
      have pf' : Pf X.K c L M W σ H Q (((turnR t tup re rc d μi).bind fun o μ1 => match o with
          | some x => compL (turnR t tup re rc) (xs.drop (i + 1)) (accD ++ [x]) μ1
          | none => compL (turnR t tup re rc) (xs.drop (i + 1)) accD μ1).bind fun ys μ2 => .ok (.list ys) (unlockM o μ1 μ2)) := pf
      refine .inr ⟨go, fun H'' => ∃ μi accD acc, (i + 1) + (m - 1) = xs.length ∧ Sr X.K c' (plusA L D) M' μi σ H'' ∧ IterSt X.K (plusA L D) (plusA M' D) J xs H'' ∧ H'' D = some (.lst acc) ∧ Dvs X.K H'' (plusA L D) accD acc ∧ acc.length ≤ i + 1 ∧ Kp (plusA M' D) H1 H'' ∧
        Pf X.K c L M W σ H Q ((compL (turnR t tup re rc) (xs.drop (i + 1)) accD μi).bind fun ys μ2 => .ok (.list ys) (unlockM o μ1 μ2)), fun H'' h => ⟨m - 1, by omega, h⟩, fun x H'' hyld => ?_⟩
      have hy := yl x H'' hyld
      clear pf
      generalize hcl : compL (turnR t tup re rc) (List.drop (i + 1) xs) = cl at pf' ⊢
      unfold turnR wipeM at pf'
      by_cases hf : freeAll t μi = true
      · rw [if_pos hf] at pf'
        simp only [Option.bind_some] at pf'
        cases hset : setT t tup d (wipeL μi t) with
        | none => rw [hset] at pf'; exact pf'.elim
        | some m1 =>
          rw [hset] at pf'
          simp only at pf'
          have Sw := Si.wipe (t := t) hf
          have fr := freeAll_of hf
          refine g_set Sw dy hy hset (fun j hj => ?_) ht1 fun σ2 Sx ag hl kk => ⟨wipe_set (by rw [hl, wipe_length]) ag, ?_⟩
          · obtain ⟨s, e, h⟩ := fr j hj
            intro p hp z
            obtain ⟨_, s', e', h'⟩ := Si.io p hp
            rw [z, e] at e'; cases e'; rw [h] at h'; cases h'
          · have ag' : ∀ j, j ∉ t → σ2[j]? = σ[j]? := fun j hj => (ag j hj).trans (wipe_out hj)
            have hl' : σ2.length = σ.length := by rw [hl, wipe_length]
            have kx : Kp M' H' H'' := fun a oo e _ => kk a oo e
            -- behind the turn
            have next : ∀ (m2 : Mu) (H4 : Hp), Sr X.K c' (plusA L D) M' m2 σ2 H4 → Kp M' H'' H4 → Sr X.K c' (plusA L D) M' (backL μi m2 t) σ H4 ∧ IterSt X.K (plusA L D) (plusA M' D) J xs H4 ∧ H4 D = some (.lst acc) ∧ Dvs X.K H4 (plusA L D) accD acc ∧ Kp (plusA M' D) H1 H4 := fun m2 H4 S4 k4 => by
              have k' : Kp M' H' H4 := kx.trans k4
              have kp : Kp (plusA M' D) H' H4 := k'.mono fun a h => .inl h
              exact ⟨S4.back Si k' ag' hl' hf, iti.keep kp nl', k' D _ eD nM', dvs.keep (k'.mono Si.ml), ki.trans kp⟩
            have elem : ∀ (m2 : Mu) (H3 : Hp), Sr X.K c' (plusA L D) M' m2 σ2 H3 → Kp M' H'' H3 → Pf X.K c L M W σ H Q (((Rs.nox ((re m2).bind fun y m3 => .ok (some y) (backL μi m3 t))).bind fun o μ1 => match o with
                | some x => cl (accD ++ [x]) μ1
                | none => cl accD μ1).bind fun ys μ2 => .ok (.list ys) (unlockM o μ1 μ2)) →
                Tr X.K W0 (rD X.K) re σ2 H3 (fun y H4 => ∃ acc, H4 D = some (.lst acc) ∧ acc.length < sizeLine ∧ ∃ μi accD acc_1, (i + 1) + (m - 1) = xs.length ∧ Sr X.K c' (plusA L D) M' μi σ (upd H4 D (.lst (acc ++ [y]))) ∧ IterSt X.K (plusA L D) (plusA M' D) J xs (upd H4 D (.lst (acc ++ [y]))) ∧
                  (upd H4 D (.lst (acc ++ [y]))) D = some (.lst acc_1) ∧ Dvs X.K (upd H4 D (.lst (acc ++ [y]))) (plusA L D) accD acc_1 ∧ acc_1.length ≤ i + 1 ∧ Kp (plusA M' D) H1 (upd H4 D (.lst (acc ++ [y]))) ∧
                  Pf X.K c L M W σ H Q ((cl accD μi).bind fun ys μ2 => .ok (.list ys) (unlockM o μ1 μ2))) := fun m2 H3 S3 k3 pe => by
              refine ⟨c', plusA L D, M', m2, S3, ?_⟩
              cases hre : re m2 with
              | st => rw [hre] at pe; exact pe.elim
              | ex x μx => rw [hre] at pe; exact pe.elim
              | ok yv m3 =>
                rw [hre] at pe
                intro v H4 S4 k4 d4
                obtain ⟨n1, n2, n3, n4, n5⟩ := next m3 H4 S4 (k3.trans k4)
                refine ⟨acc, n3, by omega, backL μi m3 t, accD ++ [yv], acc ++ [v], by omega, n1.wr (.inr rfl) nM' nlk n0, n2.keep (kD _ _) nl', upd_same, (n4.append (.cons d4 .nil)).keep (kDL _ _), by rw [List.length_append]; simp; omega, n5.trans (kD _ _), pe⟩
            clear hcl
            cases rc with
            | none =>
              have g := elem m1 H'' Sx .refl pf'
              unfold ttOf tYes
              dsimp only
              rw [if_pos rfl]
              exact g
            | some r =>
              refine ⟨c', plusA L D, M', m1, Sx, ?_⟩
              simp only at pf'
              cases hr : r m1 with
              | st => rw [hr] at pf'; exact pf'.elim
              | ex x μx => rw [hr] at pf'; exact pf'.elim
              | ok bb m2 =>
                rw [hr] at pf'
                intro b' H3 S3 k3 eb
                have eb : bb = b' := eb
                subst eb
                cases bb with
                | true =>
                  rw [if_pos rfl]
                  exact elem m2 H3 S3 k3 pf'
                | false =>
                  rw [if_neg Bool.false_ne_true]
                  obtain ⟨n1, n2, n3, n4, n5⟩ := next m2 H3 S3 k3
                  exact ⟨backL μi m2 t, accD, acc, by omega, n1, n2, n3, n4, by omega, n5, pf'⟩
      · rw [if_neg hf] at pf'; exact pf'.elim
    · have e : i = xs.length := by omega
      subst e
      refine .inl ⟨iti.stop, ?_⟩
      rw [List.drop_length] at pf
      have pf' : ∀ a H'', Sr X.K c L M (unlockM o μ1 μi) σ H'' → Sr X.K c (plusA L a) M (unlockM o μ1 μi) σ H'' → Kp M H H'' → ¬ L a → (∀ b, H a = some b → False) → rF X.K (.list accD) L a H'' → Q (.ref a) H'' := pf
      obtain ⟨M3, S3, _, h3⟩ := back (plusA L D) M' μi σ H' Si
      have e3 : M3 = M := funext fun b => propext (h3 (fun _ => Iff.rfl) b)
      subst e3
      refine pf' D H' (S3.minus S1.ml S1.l0 fun a h => (S1.lkl a h).1) S3 (fun a oo e n => ki a oo (k1 a oo e n) fun z => z.elim (fun z => n (mm a z)) fun z => ?_) nL (fun b e => ?_) (.inl ⟨accD, acc, rfl, eD, dvs⟩)
      · have := k1 a oo e n; rw [z, nD] at this; cases this
      · have := k1 D b e fun z => nL (S1.ml D z); rw [nD] at this; cases this
theorem jf_comp (hc : X.calm = true) (hN : X.N.Nodup) (hi : JI X W o tg iter ri) (ok : BlkOk X.N X.env.scope scope own) (hown : own.map (·.2) = t) (ht1 : tup = false → t.length = 1)
    (hg : ∀ (s : Shared) (H : Hp) (C : Addr) (cl : List (Str × Addr)) (fp : List Addr), PG (X.blk s H scope (compEnvC scope cl C X.env) fp) tg (gOf X.K t tup))
    (hts : ∀ (s : Shared) (H : Hp) (C : Addr) (cl : List (Str × Addr)) (fp : List Addr), PTs (X.blk s H scope (compEnvC scope cl C X.env) fp) ifs (ttOf X.K rc))
    (he : ∀ (s : Shared) (H : Hp) (C : Addr) (cl : List (Str × Addr)) (fp : List Addr), PE (X.blk s H scope (compEnvC scope cl C X.env) fp) elt (Tr X.K W0 (rD X.K) re))
    (hfs : ∀ x, foldedSetIterable iter X.env x = pure x) :
    JF X W (.ListComp elt [⟨tg, iter, ifs, 0⟩] scope pos) fun μ => (ri μ).bind fun xs μ1 => (compL (turnR t tup re rc) xs [] (lockM o μ1)).bind fun ys μ2 => .ok (.list ys) (unlockM o μ1 μ2) := by
  subst hown
  exact pe_mono (pe_lc hc hN hi ok hg hts he hfs) fun σ H Q h => tr_comp ht1 h
end
end Mn
set_option Elab.async false
set_option linter.all false
set_option maxRecDepth 100000
set_option autoImplicit false
namespace Mn
open PySem PySem.Spec L2
/-! ## statements -/
/-- what a statement may change -/
structure Ext (L M : Ads) (H : Hp) (L' M' : Ads) (H' : Hp) : Prop where
  kp : Kp M H H'
  mm : ∀ a, M' a → M a ∨ H a = none
  ll : ∀ a, L' a → L a ∨ H a = none
theorem Ext.of {L M : Ads} {H H' : Hp} (k : Kp M H H') : Ext L M H L M H' := ⟨k, fun _ h => .inl h, fun _ h => .inl h⟩
theorem Ext.trans {L M L1 M1 L2 M2 : Ads} {H H1 H2 : Hp} (ml : ∀ a, M a → L a) (a : Ext L M H L1 M1 H1) (b : Ext L1 M1 H1 L2 M2 H2) : Ext L M H L2 M2 H2 := by
  have back : ∀ c, H1 c = none → M c ∨ H c = none := fun c h => by
    by_cases m : M c
    · exact .inl m
    · cases q : H c with
      | none => exact .inr rfl
      | some o => rw [a.kp c o q m] at h; cases h
  refine ⟨fun c o e n => b.kp c o (a.kp c o e n) fun z => ?_, fun c h => ?_, fun c h => ?_⟩
  · rcases a.mm c z with z | z
    · exact n z
    · rw [z] at e; cases e
  · rcases b.mm c h with h | h
    · exact a.mm c h
    · exact back c h
  · rcases b.ll c h with h | h
    · exact a.ll c h
    · exact (back c h).imp_left (ml c)
def PostS (K : PySem.W.Frag) (c : Ent) (L M : Ads) (W : WXm) (H : Hp) (E : Ends) : Rs Fl → Prop
  | .ok .nx μ' => ∀ L' M' σ' H', Sr K c L' M' μ' σ' H' → Ext L M H L' M' H' → E.nx σ' H'
  | .ok (.rt d) μ' => ∀ v L' M' σ' H', Sr K c L' M' μ' σ' H' → Ext L M H L' M' H' → Dv K H' L' d v → E.rt v H'
  | .ok (.rf d) μ' => ∀ a L' M' σ' H', Sr K c L' M' μ' σ' H' → Sr K c (plusA L' a) M' μ' σ' H' → Ext L M H L' M' H' → ¬ L' a → (c.H0 a = none ∨ c.M0 a) → rF K d L' a H' → E.rt (.ref a) H'
  | .ex x μ' => ∀ L' M' σ' H', Sr K c L' M' μ' σ' H' → Ext L M H L' M' H' → W x σ' H'
  | .st => False
theorem PostS.up {K : PySem.W.Frag} {c : Ent} {L M L1 M1 : Ads} {W : WXm} {H H1 : Hp} {E : Ends} {r : Rs Fl} (ml : ∀ a, M a → L a) (x : Ext L M H L1 M1 H1) (p : PostS K c L M W H E r) : PostS K c L1 M1 W H1 E r := by
  cases r with
  | st => exact p
  | ex y μ => exact fun L' M' σ' H' S e => p L' M' σ' H' S (x.trans ml e)
  | ok fl μ =>
    cases fl with
    | nx => exact fun L' M' σ' H' S e => p L' M' σ' H' S (x.trans ml e)
    | rt d => exact fun v L' M' σ' H' S e dv => p v L' M' σ' H' S (x.trans ml e) dv
    | rf d => exact fun a L' M' σ' H' S S2 e n h0 f => p a L' M' σ' H' S S2 (x.trans ml e) n h0 f
def TrS (K : PySem.W.Frag) (W : WXm) (ios : List Nat) (r : Mu → Rs Fl) : TS := fun E σ H => ∃ c L M μ, c.io.map (·.1) = ios ∧ Sr K c L M μ σ H ∧ PostS K c L M W H E (r μ)
abbrev JS (X : Cx) (W : WXm) (ios : List Nat) (st : Stmt) (r : Mu → Rs Fl) : Prop := PS X st (TrS X.K W ios r)
abbrev JSs (X : Cx) (W : WXm) (ios : List Nat) (st : List Stmt) (r : Mu → Rs Fl) : Prop := PSs X st (TrS X.K W ios r)
section
variable {K : PySem.W.Frag} {c : Ent} {L M : Ads} {μ : Mu} {σ : St} {H : Hp}
theorem io_ne {c : Ent} {ios : List Nat} {i : Nat} (e : c.io.map (·.1) = ios) (h : i ∉ ios) : ∀ p ∈ c.io, p.1 ≠ i := fun p hp z => h (by rw [← e, ← z]; exact List.mem_map_of_mem hp)
/-- a new list is a slot's own -/
theorem Sr.setOwn {a : Addr} {H0 : Hp} {c0 : Ads} (S : Sr K c (plusA L a) M μ σ H) (S0 : Sr K c L M μ σ H) {i : Nat} {d : D} (nL : ¬ L a) (n0 : c.H0 a = none ∨ c.M0 a) (f : rF K d L a H) (hio : ∀ p ∈ c.io, p.1 ≠ i) (hlk : ∀ e, μ[i]? ≠ some (.lck e)) (hi : i < σ.length) :
    Sr K c (plusA L a) (plusA M a) (μ.set i (.own d)) (σ.set i (some (.ref a))) H := by
  have il : i < μ.length := by rw [S.len]; exact hi
  have ow : OwnAt K H (plusA L a) d a := by
    rcases f with ⟨ds, vs, rfl, h1, h2⟩ | ⟨es, kvs, rfl, h1, h2⟩
    · exact .inl ⟨ds, vs, rfl, h1, h2⟩
    · exact .inr ⟨es, kvs, rfl, h1, h2⟩
  have ne : ∀ (j : Nat) (s : Sl), (μ.set i (.own d))[j]? = some s → j ≠ i → μ[j]? = some s ∧ (σ.set i (some (.ref a)))[j]? = σ[j]? := fun j s e n => by
    rw [List.getElem?_set_ne (Ne.symm n)] at e
    exact ⟨e, List.getElem?_set_ne (Ne.symm n)⟩
  have off : ∀ (j : Nat) (s : Sl), μ[j]? = some s → s.held = true → σ[j]? ≠ some (some (.ref a)) := fun j s e h z => by
    cases s with
    | no => cases h
    | val _ => cases h
    | own e' => obtain ⟨b, q1, _, q3⟩ := S0.own j e' e; rw [q1] at z; cases z; exact nL (S0.ml _ q3)
    | lck e' => obtain ⟨b, q1, _, q3⟩ := S0.lck j e' e; rw [q1] at z; cases z; exact nL (S0.lkl _ ⟨_, q3, rfl⟩).1
  refine ⟨by rw [List.length_set, List.length_set]; exact S.len, fun j e q => ?_, fun j e q => ?_, fun j e q => ?_, fun j j' s t b q1 h1 q2 h2 e1 e2 => ?_, fun b h => ?_, fun b h => ?_, S.l0, fun b h => ?_, S.l00, S.trk, S.keep, fun p hp => ?_, fun p hp => ?_⟩
  · by_cases n : j = i
    · subst n; rw [List.getElem?_set_self il] at q; cases q
    · obtain ⟨a1, a2⟩ := ne j _ q n; rw [a2]; exact S.val j e a1
  · by_cases n : j = i
    · subst n; rw [List.getElem?_set_self il] at q; cases q
      exact ⟨a, List.getElem?_set_self hi, ow, .inr rfl⟩
    · obtain ⟨a1, a2⟩ := ne j _ q n; rw [a2]
      obtain ⟨b, q1, q2, q3⟩ := S.own j e a1
      exact ⟨b, q1, q2, .inl q3⟩
  · by_cases n : j = i
    · subst n; rw [List.getElem?_set_self il] at q; cases q
    · obtain ⟨a1, a2⟩ := ne j _ q n; rw [a2]; exact S.lck j e a1
  · by_cases n : j = i
    · by_cases n' : j' = i
      · rw [n, n']
      · subst n
        rw [List.getElem?_set_self hi] at e1; cases e1
        obtain ⟨a1, a2⟩ := ne j' _ q2 n'
        rw [a2] at e2
        exact absurd e2 (off j' t a1 h2)
    · obtain ⟨a1, a2⟩ := ne j _ q1 n
      by_cases n' : j' = i
      · subst n'
        rw [List.getElem?_set_self hi] at e2; cases e2
        rw [a2] at e1
        exact absurd e1 (off j s a1 h1)
      · obtain ⟨b1, b2⟩ := ne j' _ q2 n'
        rw [a2] at e1; rw [b2] at e2
        exact S.inj j j' s t b a1 h1 b1 h2 e1 e2
  · rcases h with h | rfl
    · exact S.ml b h
    · exact .inr rfl
  · obtain ⟨z1, z2⟩ := S.lkl b h
    refine ⟨z1, fun z => ?_⟩
    rcases z with z | rfl
    · exact z2 z
    · exact nL (S0.lkl _ h).1
  · rcases h with h | rfl
    · exact S.m0 b h
    · exact n0.symm
  · obtain ⟨e1, s, e2, e3⟩ := S.io p hp
    have n := hio p hp
    rw [List.getElem?_set_ne (Ne.symm n), List.getElem?_set_ne (Ne.symm n)]
    exact ⟨e1, s, e2, e3⟩
  · obtain ⟨e1, dd, e2⟩ := S.lks p hp
    have n : p.1 ≠ i := fun z => hlk dd (by rw [← z]; exact e2)
    rw [List.getElem?_set_ne (Ne.symm n), List.getElem?_set_ne (Ne.symm n)]
    exact ⟨e1, dd, e2⟩
/-- a slot's own object is handed on as a value -/
theorem Sr.freeze (S : Sr K c L M μ σ H) {i : Nat} {d : D} (hd : μ[i]? = some (.own d)) (hio : ∀ p ∈ c.io, p.1 ≠ i) : ∃ L' M', Sr K c L' M' (μ.set i (.val d)) σ H ∧ (∀ a, L' a → L a) ∧ (∀ a, M' a → M a) := by
  obtain ⟨a, ea, ow, hM⟩ := S.own i d hd
  have il : i < μ.length := (List.getElem?_eq_some_iff.mp hd).1
  have nio : ¬ c.M0 a := fun ⟨p, hp, e⟩ => by
    obtain ⟨e1, s, e2, e3⟩ := S.io p hp
    exact hio p hp (S.inj p.1 i s _ a e2 e3 hd rfl (by rw [e1, e]) ea)
  have h0 : c.H0 a = none := (S.m0 a hM).resolve_left nio
  have nL0 : ¬ c.L0 a := fun z => S.l00 a z h0
  have sub : ∀ b, (L b ∧ b ≠ a) → L b := fun b h => h.1
  have dv : Dv K H (fun b => L b ∧ b ≠ a) d (.ref a) := by
    rcases ow with ⟨ds, vs, rfl, h1, h2⟩ | ⟨es, kvs, rfl, h1, h2⟩
    · exact .lst (fun z => z.2 rfl) (.inl h1) (h2.anti sub)
    · exact .dct (fun z => z.2 rfl) h1 (h2.anti sub)
  have ne : ∀ (j : Nat) (s : Sl), (μ.set i (.val d))[j]? = some s → j ≠ i → μ[j]? = some s := fun j s e n => by rw [List.getElem?_set_ne (Ne.symm n)] at e; exact e
  have held : ∀ (j : Nat) (s : Sl), (μ.set i (.val d))[j]? = some s → s.held = true → j ≠ i := fun j s e h n => by
    subst n; rw [List.getElem?_set_self il] at e; cases e; cases h
  refine ⟨fun b => L b ∧ b ≠ a, fun b => M b ∧ b ≠ a, ⟨by rw [List.length_set]; exact S.len, fun j e q => ?_, fun j e q => ?_, fun j e q => ?_, fun j j' s t b q1 h1 q2 h2 e1 e2 => ?_, fun b h => ⟨S.ml b h.1, h.2⟩, fun b h => ?_, fun b h => ⟨S.l0 b h, fun z => nL0 (z ▸ h)⟩, fun b h => S.m0 b h.1, S.l00, fun b h => S.trk b h.1, S.keep, fun p hp => ?_, fun p hp => ?_⟩, fun _ h => h.1, fun _ h => h.1⟩
  · by_cases n : j = i
    · subst n; rw [List.getElem?_set_self il] at q; cases q; exact ⟨_, ea, dv⟩
    · obtain ⟨v, e1, e2⟩ := S.val j e (ne j _ q n); exact ⟨v, e1, e2.anti sub⟩
  · have n := held j _ q rfl
    have q' := ne j _ q n
    obtain ⟨b, e1, e2, e3⟩ := S.own j e q'
    exact ⟨b, e1, e2.anti sub, e3, fun z => n (S.inj j i _ _ a q' rfl hd rfl (z ▸ e1) ea)⟩
  · have n := held j _ q rfl
    have q' := ne j _ q n
    obtain ⟨b, e1, e2, e3⟩ := S.lck j e q'
    exact ⟨b, e1, e2.anti sub, e3⟩
  · exact S.inj j j' s t b (ne j _ q1 (held j _ q1 h1)) h1 (ne j' _ q2 (held j' _ q2 h2)) h2 e1 e2
  · obtain ⟨z1, z2⟩ := S.lkl b h
    exact ⟨⟨z1, fun z => z2 (z ▸ hM)⟩, fun z => z2 z.1⟩
  · obtain ⟨e1, s, e2, e3⟩ := S.io p hp
    have n := hio p hp
    rw [List.getElem?_set_ne (Ne.symm n)]; exact ⟨e1, s, e2, e3⟩
  · obtain ⟨e1, dd, e2⟩ := S.lks p hp
    have n : p.1 ≠ i := fun z => by rw [z, hd] at e2; cases e2
    rw [List.getElem?_set_ne (Ne.symm n)]; exact ⟨e1, dd, e2⟩
end
/-- from an expression on -/
theorem PostS.bind {K : PySem.W.Frag} {c : Ent} {L M : Ads} {W : WXm} {E : Ends} {σ : St} {H : Hp} {α β : Type} {R : Rl α β} {Q : β → Hp → Prop} {r : Rs α} {k : α → Mu → Rs Fl} (ml : ∀ a, M a → L a) (p : PostS K c L M W H E (r.bind k))
    (g : ∀ a μ1 b H1, Sr K c L M μ1 σ H1 → R L a b H1 → PostS K c L M W H1 E (k a μ1) → Q b H1) : Pst K c L M W σ H R Q r := by
  cases r with
  | ok a μ => exact fun b H' S k' h => g a μ b H' S h (PostS.up ml (.of k') p)
  | ex x μ => exact fun H' S k' => p L M σ H' S (.of k')
  | st => exact p
theorem PostS.bindK {K : PySem.W.Frag} {c : Ent} {L M : Ads} {W : WXm} {E : Ends} {σ : St} {H : Hp} {α β : Type} {R : Rl α β} {Q : β → Hp → Prop} {r : Rs α} {k : α → Mu → Rs Fl} (ml : ∀ a, M a → L a) (p : PostS K c L M W H E (r.bind k))
    (g : ∀ a μ1 b H1, Sr K c L M μ1 σ H1 → Kp M H H1 → R L a b H1 → PostS K c L M W H1 E (k a μ1) → Q b H1) : Pst K c L M W σ H R Q r := by
  cases r with
  | ok a μ => exact fun b H' S k' h => g a μ b H' S k' h (PostS.up ml (.of k') p)
  | ex x μ => exact fun H' S k' => p L M σ H' S (.of k')
  | st => exact p
theorem PostS.bindF {K : PySem.W.Frag} {c : Ent} {L M : Ads} {W : WXm} {E : Ends} {σ : St} {H : Hp} {Q : VK} {r : Rs D} {k : D → Mu → Rs Fl} (p : PostS K c L M W H E (r.bind k))
    (g : ∀ d μ1 a H1, Sr K c L M μ1 σ H1 → Sr K c (plusA L a) M μ1 σ H1 → Kp M H H1 → ¬ L a → (∀ b, H a = some b → False) → rF K d L a H1 → PostS K c L M W H E (k d μ1) → Q (.ref a) H1) : Pf K c L M W σ H Q r := by
  cases r with
  | ok a μ => exact fun b H' S1 S2 k n nh f => g a μ b H' S1 S2 k n nh f p
  | ex x μ => exact fun H' S k => p L M σ H' S (.of k)
  | st => exact p
theorem tr_tf {K : PySem.W.Frag} {W : WXm} {r : Mu → Rs D} {σ : St} {H : Hp} {Q : VK} (h : Tr K W (rD K) r σ H Q) : Tf K W r σ H Q := by
  obtain ⟨c, L, M, μ, S, p⟩ := h
  refine ⟨c, L, M, μ, S, ?_⟩
  cases h : r μ with
  | ok d μ' => rw [h] at p; exact fun a H' S1 S2 k n _ f => p _ _ S1 k (f.dv n)
  | ex x μ' => rw [h] at p; exact p
  | st => rw [h] at p; exact p
section
variable {X : Cx} {W : WXm} {ios : List Nat} {st : Stmt} {sts : List Stmt} {e a b : Expr} {pos : Pos} {i j : Nat} {re ra rb : Mu → Rs D} {r r' : Mu → Rs Fl} {te : TE}
/-- x = e -/
theorem js_asg (h : PS X st (tAsg te (gName i))) (imp : ∀ σ H Q, Tr X.K W (rD X.K) re σ H Q → te σ H Q) (hio : i ∉ ios) : JS X W ios st fun μ => (re μ).bind fun d μ1 => match setAll [i] [d] μ1 with
    | some μ2 => .ok .nx μ2
    | none => .st := by
  refine ps_mono h fun E σ H ⟨c, L, M, μ, hc, S, p⟩ => imp _ _ _ ⟨c, L, M, μ, S, PostS.bind S.ml p fun d μ1 v H1 S1 d1 p1 => ?_⟩
  unfold setAll setAll at p1
  by_cases hl : isLck μ1 i = true
  · rw [if_pos hl] at p1; exact p1.elim
  · rw [if_neg hl] at p1
    exact p1 L M _ _ (S1.set' d1 (io_ne hc hio) (isLck_of hl)) (.of .refl)
/-- x = a new list, the slot's own -/
theorem js_own (h : PS X st (tAsg te (gName i))) (imp : ∀ σ H Q, Tf X.K W re σ H Q → te σ H Q) (hio : i ∉ ios) (hi : i < X.N.length) : JS X W ios st fun μ => (re μ).bind fun d μ1 => if isLck μ1 i then .st else .ok .nx (μ1.set i (.own d)) := by
  refine ⟨fun pins s σ H E I ⟨c, L, M, μ, hc, S, p⟩ => h.run pins s σ H E I (imp _ _ _ ⟨c, L, M, μ, S, PostS.bindF p fun d μ1 a H1 S1 S2 kp nL nh f p1 => ?_⟩)⟩
  by_cases hl : isLck μ1 i = true
  · rw [if_pos hl] at p1; exact p1.elim
  · rw [if_neg hl] at p1
    have n0 : c.H0 a = none ∨ c.M0 a := by
      by_cases z : c.M0 a
      · exact .inr z
      · cases q : c.H0 a with
        | none => exact .inl rfl
        | some o => exact (nh o (S.keep a o q z)).elim
    have na : H a = none := by
      cases q : H a with
      | none => rfl
      | some o => exact (nh o q).elim
    exact p1 _ _ _ _ (S2.setOwn (H0 := H) (c0 := L) S1 nL n0 f (io_ne hc hio) (isLck_of hl) (by rw [I.len]; exact hi)) ⟨kp, fun b h => h.elim .inl fun z => .inr (by rw [z]; exact na), fun b h => h.elim .inl fun z => .inr (by rw [z]; exact na)⟩
theorem js_ret (h : JE X W e re) : JS X W ios (.Return (some e) pos) fun μ => (re μ).bind fun d μ1 => .ok (.rt d) μ1 :=
  ps_mono (ps_ret h) fun E σ H ⟨c, L, M, μ, hc, S, p⟩ => ⟨c, L, M, μ, S, PostS.bind S.ml p fun d μ1 v H1 S1 d1 p1 => p1 v L M σ H1 S1 (.of .refl) d1⟩
theorem js_retF (h : JF X W e re) : JS X W ios (.Return (some e) pos) fun μ => (re μ).bind fun d μ1 => .ok (.rf d) μ1 :=
  ps_mono (ps_ret h) fun E σ H ⟨c, L, M, μ, hc, S, p⟩ => ⟨c, L, M, μ, S, PostS.bindF p fun d μ1 a H1 S1 S2 kp nL nh f p1 => p1 a L M σ H1 S1 S2 (.of kp) nL (by
    by_cases z : c.M0 a
    · exact .inr z
    · cases q : c.H0 a with
      | none => exact .inl rfl
      | some o => exact (nh o (S.keep a o q z)).elim) f⟩
theorem js_pass : JS X W ios (.Pass pos) fun μ => .ok .nx μ := ps_mono ps_pass fun E σ H ⟨c, L, M, μ, hc, S, p⟩ => p L M σ H S (.of .refl)
theorem js_never : JS X W ios st fun _ => .st := ps_mono ps_never fun E σ H ⟨c, L, M, μ, hc, S, p⟩ => p
theorem js_expr (h : JE X W e re) (hs : swapsWith e none pos.line X.env = pure false) : JS X W ios (.Expr e pos) fun μ => (re μ).bind fun _ μ1 => .ok .nx μ1 :=
  ps_mono (ps_expr h hs) fun E σ H ⟨c, L, M, μ, hc, S, p⟩ => ⟨c, L, M, μ, S, PostS.bind S.ml p fun d μ1 v H1 S1 d1 p1 => p1 L M σ H1 S1 (.of .refl)⟩
theorem js_if {cnd : Expr} {A B : List Stmt} {rc : Mu → Rs Bool} (hc : JT X W cnd rc) (ha : JSs X W ios A r) (hb : JSs X W ios B r') : JS X W ios (.If cnd A B pos) fun μ => (rc μ).bind fun t μ1 => match t with
    | true => r μ1
    | false => r' μ1 :=
  ps_mono (ps_if hc ha hb) fun E σ H ⟨c, L, M, μ, hio, S, p⟩ => ⟨c, L, M, μ, S, PostS.bind S.ml p fun t μ1 v H1 S1 d1 p1 => by
    cases d1
    cases t with
    | true => rw [if_pos rfl]; exact ⟨c, L, M, μ1, hio, S1, p1⟩
    | false => rw [if_neg Bool.false_ne_true]; exact ⟨c, L, M, μ1, hio, S1, p1⟩⟩
theorem jss_nil : JSs X W ios [] fun μ => .ok .nx μ := pss_mono pss_nil fun E σ H ⟨c, L, M, μ, hc, S, p⟩ => p L M σ H S (.of .refl)
def seqR (r r' : Mu → Rs Fl) : Mu → Rs Fl := fun μ => (r μ).bind fun fl μ1 => match fl with
  | .nx => r' μ1
  | fl => .ok fl μ1
theorem jss_cons (h : JS X W ios st r) (h' : JSs X W ios sts r') : JSs X W ios (st :: sts) (seqR r r') := by
  refine pss_mono (pss_cons h h') fun E σ H ⟨c, L, M, μ, hc, S, p⟩ => ⟨c, L, M, μ, hc, S, ?_⟩
  unfold seqR at p
  cases hr : r μ with
  | st => rw [hr] at p; exact p
  | ex x μ1 => rw [hr] at p; exact p
  | ok fl μ1 =>
    rw [hr] at p
    cases fl with
    | nx => exact fun L' M' σ' H' S' x => ⟨c, L', M', μ1, hc, S', PostS.up S.ml x p⟩
    | rt d => exact p
    | rf d => exact p
/-- ahead of some statements a slot's own object becomes a value -/
theorem jss_frz (h : JSs X W ios sts r) (hio : i ∉ ios) : JSs X W ios sts fun μ => match frzM i μ with
    | some μ1 => r μ1
    | none => .st := by
  refine pss_mono h fun E σ H ⟨c, L, M, μ, hc, S, p⟩ => ?_
  unfold frzM at p
  cases hq : μ[i]? with
  | none => simp only [hq] at p; exact p.elim
  | some s =>
    cases s with
    | no => simp only [hq] at p; exact p.elim
    | lck d => simp only [hq] at p; exact p.elim
    | val d => simp only [hq] at p; exact ⟨c, L, M, μ, hc, S, p⟩
    | own d =>
      simp only [hq] at p
      obtain ⟨L', M', S', h1, h2⟩ := S.freeze hq (io_ne hc hio)
      exact ⟨c, L', M', _, hc, S', PostS.up S.ml ⟨.refl, fun a h => .inl (h2 a h), fun a h => .inl (h1 a h)⟩ p⟩
end
end Mn
set_option Elab.async false
set_option linter.all false
set_option maxRecDepth 100000
set_option autoImplicit false
namespace Mn
open PySem PySem.Spec L2
theorem IterSt.ext {K : PySem.W.Frag} {L M L' M' : Ads} {J : It} {ds : List D} {H H' : Hp} (h : IterSt K L M J ds H) (ml : ∀ a, M a → L a) (x : Ext L M H L' M' H') : IterSt K L' M' J ds H' := by
  obtain ⟨deps, ys, h1, h2, h3⟩ := h
  have gr : ∀ {d : D} {v : V}, Dv K H L d v → Dv K H' L' d v := fun {d v} w => by
    have w1 : Dv K H (fun a => L a ∨ L' a) d v := w.grow fun a h => h.elim .inl (x.ll a)
    have w2 : Dv K H' (fun a => L a ∨ L' a) d v := w1.keep (x.kp.mono fun a m => .inl (ml a m))
    exact w2.anti fun a h => .inr h
  refine ⟨deps, ys, fun p hp => ⟨x.kp _ _ (h1 p hp).1 (h1 p hp).2, fun z => ?_⟩, h2.map (f := fun {d y} w => ?_), h3⟩
  · rcases x.mm _ z with z | z
    · exact (h1 p hp).2 z
    · rw [(h1 p hp).1] at z; cases z
  · cases w with
    | one w => exact .one (gr w)
    | two w z => exact .two (gr w) (gr z)
section
variable {X : Cx} {W : WXm} {ios : List Nat} {st : Stmt} {sts : List Stmt} {e a b : Expr} {es : List Expr} {pos apos p2 : Pos} {i j : Nat} {re ra rb : Mu → Rs D} {r r' : Mu → Rs Fl} {te : TE}
/-! ### loops -/
theorem js_whl {cnd : Expr} {rc : Mu → Rs Bool} {n : Nat} (hp : PassesOwn (model X.prog X.w) X.A X.env X.xe) (hc : JT X W cnd rc) (hb : JSs X W ios sts r) : JS X W ios (.While cnd sts [] pos) fun μ => whlL rc r n μ := by
  refine ps_mono (ps_while hp hc hb) fun E σ H ⟨c, L, M, μ, hio, S, p⟩ => ⟨fun m σ' H' => ∃ L M μ, Sr X.K c L M μ σ' H' ∧ PostS X.K c L M W H' E (whlL rc r m μ), ⟨n, L, M, μ, S, p⟩, ?_⟩
  rintro m σ' H' ⟨L, M, μ, S, p⟩
  cases m with
  | zero => exact p.elim
  | succ m =>
    unfold whlL at p
    refine ⟨c, L, M, μ, S, PostS.bind S.ml p fun t μ1 v H1 S1 d1 p1 => ?_⟩
    cases d1
    cases t with
    | false => rw [if_neg Bool.false_ne_true]; exact p1 L M _ _ S1 (.of .refl)
    | true =>
      rw [if_pos rfl]
      refine ⟨fun σ' H' => ∃ L M μ, Sr X.K c L M μ σ' H' ∧ PostS X.K c L M W H' E (whlL rc r m μ), fun σ' H' h => ⟨m, Nat.lt_succ_self m, h⟩, c, L, M, μ1, hio, S1, ?_⟩
      cases hr : r μ1 with
      | st => simp only [hr] at p1; exact p1
      | ex x μ2 => simp only [hr] at p1; exact p1
      | ok fl μ2 =>
        simp only [hr] at p1
        cases fl with
        | nx => exact fun L' M' σ' H' S' x => ⟨L', M', μ2, S', PostS.up S.ml x p1⟩
        | rt d => exact p1
        | rf d => exact p1.elim
theorem js_for {t : List Nat} {tup : Bool} {o : Option Nat} {tg iter : Expr} {ri : Mu → Rs (List D)} (hp : PassesOwn (model X.prog X.w) X.A X.env X.xe) (hc : X.calm = true) (hi : JI X W o tg iter ri) (hg : PG X tg (gOf X.K t tup)) (hb : JSs X W ios sts r)
    (hfs : ∀ x, foldedSetIterable iter X.env x = pure x) (ht1 : tup = false → t.length = 1) (hti : ∀ i ∈ t, i ∉ ios) :
    JS X W ios (.For tg iter sts [] pos) fun μ => (ri μ).bind fun xs μ1 => Rs.mu (unlockM o μ1) (forL (fun d m => match setT t tup d m with
      | some m1 => r m1
      | none => .st) xs (lockM o μ1)) := by
  refine ⟨fun pins s σ H E I ⟨c, L, M, μ, hio, S, p⟩ => (ps_for hp hc hi hg hb hfs).run pins s σ H E I ⟨c, L, M, μ, S, ?_⟩⟩
  cases hri : ri μ with
  | st => simp only [hri] at p; exact p
  | ex x μ1 => simp only [hri] at p; exact fun H' S' k => p L M σ H' S' (.of k)
  | ok xs μ1 =>
    simp only [hri] at p
    intro J H1 S1 k1 it hz
    obtain ⟨c', M', ioe, S1', mlk, mm, back⟩ := S1.lock o
    generalize hf : (fun d m => match setT t tup d m with
      | some m1 => r m1
      | none => .st) = f at p
    replace p : PostS X.K c L M W H1 E (Rs.mu (unlockM o μ1) (forL f xs (lockM o μ1))) := PostS.up S1.ml (.of k1) p
    -- the end of the walk
    have fin : ∀ L2 M2 μ2 σ2 H2, Sr X.K c' L2 M2 μ2 σ2 H2 → Ext L M' H1 L2 M2 H2 → ∃ M3, Sr X.K c L2 M3 (unlockM o μ1 μ2) σ2 H2 ∧ Ext L M H1 L2 M3 H2 := fun L2 M2 μ2 σ2 H2 S2 x => by
      obtain ⟨M3, S3, h3, _⟩ := back L2 M2 μ2 σ2 H2 S2
      exact ⟨M3, S3, ⟨x.kp.mono mm, fun b h => (h3 b h).elim (fun h => (x.mm b h).imp_left (mm b)) .inl, x.ll⟩⟩
    refine ⟨fun i m σ' H' => ∃ L2 M2 μi, i + m = xs.length ∧ Sr X.K c' L2 M2 μi σ' H' ∧ IterSt X.K L2 M2 J xs H' ∧ Ext L M' H1 L2 M2 H' ∧ PostS X.K c L M W H1 E (Rs.mu (unlockM o μ1) (forL f (xs.drop i) μi)),
      ⟨xs.length, L, M', lockM o μ1, by omega, S1', it.anti (fun _ h => h) mlk, .of .refl, p⟩, ?_⟩
    rintro i m σ' H' ⟨L2, M2, μi, him, Si, iti, xi, pf⟩
    by_cases hi : i < xs.length
    · obtain ⟨d, ed⟩ : ∃ d, xs[i]? = some d := ⟨xs[i], List.getElem?_eq_getElem hi⟩
      obtain ⟨y, dy, go, yl⟩ := iti.turn ed
      have hdrop : xs.drop i = d :: xs.drop (i + 1) := by
        rw [List.drop_eq_getElem_cons hi]
        congr 1
        rw [List.getElem?_eq_getElem hi] at ed
        exact Option.some.inj ed
      rw [hdrop] at pf
      have pf' : PostS X.K c L M W H1 E (Rs.mu (unlockM o μ1) ((f d μi).bind fun fl μ1 => match fl with
        | .nx => forL f (xs.drop (i + 1)) μ1
        | .rt v => .ok (.rt v) μ1
        | .rf _ => .st)) := pf
      clear pf
      refine .inr ⟨go, fun σ'' H'' => ∃ L2 M2 μi, (i + 1) + (m - 1) = xs.length ∧ Sr X.K c' L2 M2 μi σ'' H'' ∧ IterSt X.K L2 M2 J xs H'' ∧ Ext L M' H1 L2 M2 H'' ∧ PostS X.K c L M W H1 E (Rs.mu (unlockM o μ1) (forL f (xs.drop (i + 1)) μi)),
        fun σ'' H'' h => ⟨m - 1, by omega, h⟩, fun x H'' hyld => ?_⟩
      have hy := yl x H'' hyld
      generalize hrest : forL f (xs.drop (i + 1)) = rest at pf' ⊢
      rw [← hf] at pf'
      simp only at pf'
      cases hset : setT t tup d μi with
      | none => rw [hset] at pf'; exact pf'.elim
      | some m1 =>
        rw [hset] at pf'
        simp only at pf'
        have hti' : ∀ i ∈ t, ∀ p ∈ c'.io, p.1 ≠ i := fun i hi => io_ne (by rw [ioe]; exact hio) (hti i hi)
        refine g_set Si dy hy hset hti' ht1 fun σ2 Sx ag hl kk => ⟨c', L2, M2, m1, by rw [ioe]; exact hio, Sx, ?_⟩
        have x1 : Ext L M' H1 L2 M2 H'' := xi.trans (fun a h => S1.ml a (mm a h)) (.of fun a oo e _ => kk a oo e)
        have it1 : IterSt X.K L2 M2 J xs H'' := iti.laid kk
        cases hr : r m1 with
        | st => rw [hr] at pf'; exact pf'
        | ex z μ2 =>
          rw [hr] at pf'
          intro L3 M3 σ3 H3 S3 x3
          obtain ⟨M4, S4, x4⟩ := fin _ _ _ _ _ S3 (x1.trans (fun a h => S1.ml a (mm a h)) x3)
          exact pf' _ _ _ _ S4 x4
        | ok fl μ2 =>
          rw [hr] at pf'
          cases fl with
          | nx =>
            intro L3 M3 σ3 H3 S3 x3
            refine ⟨L3, M3, μ2, by omega, S3, it1.ext Si.ml x3, x1.trans (fun a h => S1.ml a (mm a h)) x3, pf'⟩
          | rt v =>
            intro w L3 M3 σ3 H3 S3 x3 dv
            obtain ⟨M4, S4, x4⟩ := fin _ _ _ _ _ S3 (x1.trans (fun a h => S1.ml a (mm a h)) x3)
            exact pf' w _ _ _ _ S4 x4 dv
          | rf v => exact pf'.elim
    · have e : i = xs.length := by omega
      subst e
      refine .inl ⟨iti.stop, ?_⟩
      rw [List.drop_length] at pf
      have pf' : ∀ L' M' σ' H', Sr X.K c L' M' (unlockM o μ1 μi) σ' H' → Ext L M H1 L' M' H' → E.nx σ' H' := pf
      obtain ⟨M3, S3, x3⟩ := fin _ _ _ _ _ Si xi
      exact pf' _ _ _ _ S3 x3
end
end Mn
set_option Elab.async false
set_option linter.all false
set_option maxRecDepth 100000
set_option autoImplicit false
namespace Mn
open PySem PySem.Spec L2
/-! ## own objects changed -/
section
variable {K : PySem.W.Frag} {c : Ent} {L M : Ads} {μ : Mu} {σ : St} {H : Hp}
theorem owned_at {i : Nat} {d : D} (h : owned μ i = some d) : μ[i]? = some (.own d) := by
  unfold owned at h
  split at h
  · cases h; assumption
  · cases h
theorem Sr.ownL (S : Sr K c L M μ σ H) {i : Nat} {xs : List D} (h : owned μ i = some (.list xs)) : ∃ a vs, μ[i]? = some (.own (.list xs)) ∧ σ[i]? = some (some (.ref a)) ∧ M a ∧ H a = some (.lst vs) ∧ Dvs K H L xs vs := by
  have h := owned_at h
  obtain ⟨a, e1, e2, e3⟩ := S.own i _ h
  rcases e2 with ⟨_, vs, e, q, w⟩ | ⟨_, _, e, _⟩
  · cases e; exact ⟨a, vs, h, e1, e3, q, w⟩
  · cases e
theorem Kp.wr {a : Addr} {o : HO} (hM : M a) : Kp M H (upd H a o) := fun b u e n => by
  rw [upd_ne (fun z => n (by rw [z]; exact hM))]; exact e
/-- a slot's own list is written -/
theorem Sr.putL (S : Sr K c L M μ σ H) {i : Nat} {xs ys : List D} {ws : List V} {a : Addr} (h : μ[i]? = some (.own (.list xs))) (ha : σ[i]? = some (some (.ref a))) (hM : M a) (w : Dvs K H L ys ws) :
    Sr K c L M (μ.set i (.own (.list ys))) σ (upd H a (.lst ws)) ∧ Kp M H (upd H a (.lst ws)) :=
  ⟨S.put h ha hM (.inl ⟨ys, ws, rfl, upd_same, w.keep ((Kp.wr hM).mono S.ml)⟩), Kp.wr hM⟩
end
section
variable {X : Cx} {W : WXm} {ios : List Nat} {e a b : Expr} {es : List Expr} {pos apos cpos p1 : Pos} {i j : Nat} {x : Str} {re ra rb rk : Mu → Rs D}
theorem back_few {e : Expr} {es : List Expr} {env : Env} (h : (e :: es).all (fun e => !isStar e) = true) (hl : es.length < 20) :
    ((backTo cpos (starEach (e :: es) env)).all (fun x => !x.1) && (backToKw cpos (keywordEach [] env)).all (fun x => x.1.isSome)
      && decide ((e :: es).length + ([] : List Keyword).length + (if ([] : List Keyword).isEmpty then 0 else 1) < 30)) = true := by
  have h1 := backTo_plain (pos := cpos) (es := e :: es) (env := env) h
  have h2 : (backTo cpos (starEach (e :: es) env)).all (fun x => !x.1) = true := by
    rw [List.all_eq_not_any_not, Bool.not_eq_true']
    rw [← h1]
    congr 1
    funext x
    simp
  rw [h2]
  simp [backToKw, keywordEach]
  omega
/-- o.m(e, ..) of a slot's own list -/
theorem pe_meth {name : Str} {id : String} {r : V → List V → Hp → VK → Prop} {t : TA} (slot : Slot "list" name id) (hty : typeOf (.builtin id) = pure (.type "method_descriptor")) (hm : MtR X id r)
    (hN : X.N[i]? = some x) (hv : Vis X.env.scope x) (hd : (x == ("__debug__" : Str)) = false) (hcd : (x == ("__classdict__" : Str)) = false) (ha : PA X (e :: es) t) (hst : (e :: es).all (fun e => !isStar e) = true) (hl : es.length < 20) (hline : (apos.endLine == cpos.line) = true) :
    PE X (.Call (.Attribute (.Name x p1) name apos) (e :: es) [] cpos) (tBM X.K "list" r (tVar i) t) := by
  have h1 : isStar e = false := by simp only [List.all_cons, Bool.and_eq_true, Bool.not_eq_true'] at hst; exact hst.1
  have h2 : es.all (fun e => !isStar e) = true := by simp only [List.all_cons, Bool.and_eq_true] at hst; exact hst.2
  exact pe_bm PySem.F.plainAttrs_list slot hty hm (pe_var (i := i) hN hv hd hcd) ha rfl (back_few hst hl) hline (starEach_cons h1 _ _) (backTo_plain h2)
theorem ownsL_of {μ : Mu} (h : ownsL i μ = true) : ∃ xs, owned μ i = some (.list xs) := by
  unfold ownsL at h
  split at h
  · exact ⟨_, by assumption⟩
  · cases h
theorem one_arg_tr {W : WXm} {K : PySem.W.Frag} {c : Ent} {L M : Ads} {σ : St} {H : Hp} {γ δ : Type} {R2 : Rl γ δ} {Q : List V → Hp → Prop} {Q2 : δ → Hp → Prop} {r : Rs D} {k : D → Mu → Rs γ} (p : Pst K c L M W σ H R2 Q2 (r.bind k))
    (g : ∀ d μ1 v H1, Sr K c L M μ1 σ H1 → Dv K H1 L d v → Pst K c L M W σ H1 R2 Q2 (k d μ1) → Q [v] H1) : Pst K c L M W σ H (rDs K) Q (r.bind fun x μ1 => (Rs.ok [] μ1).bind fun xs μ2 => .ok (x :: xs) μ2) := by
  cases r with
  | st => exact p
  | ex z μ1 => exact p
  | ok d μ1 =>
    intro ws H1 S1 k1 d1
    cases d1 with
    | cons w1 t1 => cases t1; exact g d μ1 _ H1 S1 w1 (Pst.up k1 p)
def appR (i : Nat) (re : Mu → Rs D) : Mu → Rs D := fun μ => if ownsL i μ then (re μ).bind fun v μ1 => match appE i v μ1 with
    | some μ2 => .ok .none μ2
    | none => .st
  else .st
theorem je_app (hN : X.N[i]? = some x) (hv : Vis X.env.scope x) (hd : (x == ("__debug__" : Str)) = false) (hcd : (x == ("__classdict__" : Str)) = false) (he : JE X W e re) (hs : isStar e = false) (hline : (apos.endLine == cpos.line) = true) :
    JE X W (.Call (.Attribute (.Name x p1) "append" apos) [e] [] cpos) (appR i re) := by
  refine pe_mono (pe_meth (i := i) PySem.F.slot_list_append PySem.F.type_list_append mt_append hN hv hd hcd (ja_cons he ja_nil hs) (by simp [hs]) (by simp) hline) fun σ H Q ⟨c, L, M, μ, S, p⟩ => ?_
  unfold appR at p
  split at p
  · rename_i h0
    obtain ⟨xs0, h0⟩ := ownsL_of h0
    obtain ⟨a, vs, _, ea, _, eh, _⟩ := S.ownL h0
    refine ⟨.ref a, ea, .inl ⟨rfl, vs, .inl (.inl eh)⟩, c, L, M, μ, S, one_arg_tr p fun d μ1 v H1 S1 w1 p' => ?_⟩
    unfold appE at p'
    split at p'
    · rename_i μ2 e2
      split at e2
      · rename_i xs h1
        split at e2
        · rename_i hz
          cases e2
          obtain ⟨a', vs', h2, ea', hM, eh', dv⟩ := S1.ownL h1
          have : a' = a := by rw [ea] at ea'; cases ea'; rfl
          subst this
          obtain ⟨S2, k2⟩ := S1.putL h2 ea hM (dv.append (.cons w1 .nil))
          refine ⟨a', vs', _, rfl, rfl, eh', ?_, p' _ _ S2 k2 .non⟩
          have := sizeOkN_of hz
          rw [← dv.length]; omega
        · cases e2
      · cases e2
    · exact p'.elim
  · exact p.elim
theorem Dvs.erase {K : PySem.W.Frag} {H : Hp} {L : Ads} : ∀ {ds : List D} {vs : List V} (k : Nat), Dvs K H L ds vs → Dvs K H L (ds.eraseIdx k) (vs.eraseIdx k)
  | _, _, _, .nil => .nil
  | _, _, 0, .cons _ t => t
  | _, _, k + 1, .cons x t => .cons x (Dvs.erase k t)
theorem je_pop (hN : X.N[i]? = some x) (hv : Vis X.env.scope x) (hd : (x == ("__debug__" : Str)) = false) (hcd : (x == ("__classdict__" : Str)) = false) (he : JE X W e re) (hs : isStar e = false) (hline : (apos.endLine == cpos.line) = true) :
    JE X W (.Call (.Attribute (.Name x p1) "pop" apos) [e] [] cpos) fun μ => if ownsL i μ then (re μ).bind fun y μ1 => popE i y μ1 else .st := by
  refine pe_mono (pe_meth (i := i) PySem.F.slot_list_pop PySem.F.type_list_pop mt_popAt hN hv hd hcd (pa_inv (ja_cons he ja_nil hs)) (by simp [hs]) (by simp) hline) fun σ H Q ⟨c, L, M, μ, S, p⟩ => ?_
  dsimp only at p
  split at p
  · rename_i h0
    obtain ⟨xs0, h0⟩ := ownsL_of h0
    obtain ⟨a, vs, _, ea, _, eh, _⟩ := S.ownL h0
    refine ⟨.ref a, ea, .inl ⟨rfl, vs, .inl (.inl eh)⟩, c, L, M, μ, S, one_arg_tr p fun d μ1 v H1 S1 w1 p' => ?_⟩
    rintro ⟨pins, s, I⟩
    unfold popE at p'
    split at p'
    · rename_i xs j h1
      split at p'
      · rename_i k hk
        obtain ⟨y, ey, q⟩ := p'.opt
        obtain ⟨a', vs', h2, ea', hM, eh', dv⟩ := S1.ownL h1
        have : a' = a := by rw [ea] at ea'; cases ea'; rfl
        subst this
        obtain ⟨yv, eyv, dy⟩ := dv.getD ey
        obtain ⟨S2, k2⟩ := S1.putL h2 ea hM (dv.erase k)
        obtain ⟨hz, _⟩ := I.lstM eh'
        have hz' : vs'.length ≤ 16777216 := hz
        cases w1
        obtain ⟨s1, s2, s3, s4⟩ := ixN_seq hk
        rw [dv.length] at s1 s3 s4
        exact ⟨a', vs', j, k, yv, rfl, rfl, eh', by omega, by omega, s1, eyv, q _ _ S2 k2 (dy.keep (k2.mono S1.ml))⟩
      · exact p'.elim
    · exact p'.elim
  · exact p.elim
/-- a method's call as a statement -/
theorem js_app {st : Stmt} {r : Mu → Rs Fl} (h : JS X W ios st fun μ => (appR i re μ).bind fun _ μ1 => .ok .nx μ1) : JS X W ios st fun μ => if ownsL i μ then (re μ).bind fun v μ1 => Rs.nx (appE i v μ1) else .st := by
  have : (fun μ => (appR i re μ).bind fun _ μ1 => Rs.ok Fl.nx μ1) = fun μ => if ownsL i μ then (re μ).bind fun v μ1 => Rs.nx (appE i v μ1) else .st := by
    funext μ
    unfold appR
    split
    · cases re μ with
      | ok v μ1 =>
        show (match appE i v μ1 with
          | some μ2 => Rs.ok PyData.none μ2
          | none => .st).bind (fun _ μ1 => Rs.ok Fl.nx μ1) = Rs.nx (appE i v μ1)
        cases appE i v μ1 <;> rfl
      | ex x μ1 => rfl
      | st => rfl
    · rfl
  rw [← this]; exact h
/-- xs[k] = e of a slot's own list -/
theorem ownsA_of {μ : Mu} (h : ownsA i μ = true) : ∃ d, owned μ i = some d := by
  unfold ownsA at h
  exact Option.isSome_iff_exists.mp h
theorem js_seti {st : Stmt} (h : PS X st (tAsg (Tr X.K W (rD X.K) re) (gSub (tVar i) (Tr X.K W (rD X.K) rk) rSetL))) : JS X W ios st fun μ => (re μ).bind fun v μ1 => if ownsA i μ1 then (rk μ1).bind fun y μ2 => Rs.nx (setE i y v μ2) else .st := by
  refine ps_mono h fun E σ H ⟨c, L, M, μ, hc, S, p⟩ => ⟨c, L, M, μ, S, PostS.bind S.ml p fun v μ1 vv H1 S1 d1 p1 => ?_⟩
  split at p1
  · rename_i h0
    obtain ⟨d0, h0⟩ := ownsA_of h0
    obtain ⟨a, ea, _⟩ := S1.own i d0 (owned_at h0)
    refine ⟨.ref a, ea, c, L, M, μ1, S1, PostS.bindK S1.ml p1 fun y μ2 yv H2 S2 k2 d2 p2 => ?_⟩
    unfold setE at p2
    split at p2
    · rename_i xs j h1
      split at p2
      · rename_i n hn
        obtain ⟨a', vs', h2, ea', hM, eh', dv⟩ := S2.ownL h1
        rw [ea] at ea'; cases ea'
        cases d2
        obtain ⟨S3, k3⟩ := S2.putL h2 ea hM (dv.set (S2.dk d1 k2) n)
        rw [dv.length] at hn
        exact ⟨a, vs', j, n, rfl, rfl, eh', hn, p2 L M σ _ S3 (.of k3)⟩
      · exact p2.elim
    · exact p2.elim
  · exact p1.elim
/-- x, y = a, b of plain local names -/
theorem js_par {st : Stmt} {rs : Mu → Rs (List D)} (h : PS X st (tPar i j (Tr X.K W (rDs X.K) rs))) (hi : i ∉ ios) (hj : j ∉ ios) : JS X W ios st fun μ => (rs μ).bind fun ds μ1 => Rs.nx (setAll [i, j] ds μ1) := by
  refine ps_mono h fun E σ H ⟨c, L, M, μ, hc, S, p⟩ => ⟨c, L, M, μ, S, PostS.bind S.ml p fun ds μ1 vs H1 S1 d1 p1 => ?_⟩
  have d1 : Dvs X.K H1 L ds vs := d1
  cases d1 with
  | nil => exact p1.elim
  | cons w1 t1 =>
    cases t1 with
    | nil =>
      unfold setAll at p1
      split at p1
      · exact p1.elim
      · exact p1.elim
    | cons w2 t2 =>
      cases t2 with
      | cons w3 t3 =>
        unfold setAll at p1
        split at p1
        · exact p1.elim
        · unfold setAll at p1
          split at p1
          · exact p1.elim
          · exact p1.elim
      | nil =>
        refine ⟨_, _, rfl, ?_⟩
        unfold setAll at p1
        split at p1
        · exact p1.elim
        · rename_i hl1
          unfold setAll at p1
          split at p1
          · exact p1.elim
          · rename_i hl2
            have S2 := S1.set' w1 (io_ne hc hi) (isLck_of hl1)
            exact p1 L M _ _ (S2.set' w2 (io_ne hc hj) (isLck_of hl2)) (.of .refl)
/-- x, y, z = a, b, c of plain local names -/
theorem js_par3 {st : Stmt} {l : Nat} {rs : Mu → Rs (List D)} (h : PS X st (tPar3 i j l (Tr X.K W (rDs X.K) rs))) (hi : i ∉ ios) (hj : j ∉ ios) (hl : l ∉ ios) : JS X W ios st fun μ => (rs μ).bind fun ds μ1 => Rs.nx (setAll [i, j, l] ds μ1) := by
  refine ps_mono h fun E σ H ⟨c, L, M, μ, hc, S, p⟩ => ⟨c, L, M, μ, S, PostS.bind S.ml p fun ds μ1 vs H1 S1 d1 p1 => ?_⟩
  have d1 : Dvs X.K H1 L ds vs := d1
  cases hset : setAll [i, j, l] ds μ1 with
  | none => rw [hset] at p1; exact p1.elim
  | some μ2 =>
    rw [hset] at p1
    have len := setAll_len hset
    match ds, vs, d1, len, hset with
    | [x, y, z], [u, v, w], .cons w1 (.cons w2 (.cons w3 .nil)), _, hset =>
      refine ⟨u, v, w, rfl, ?_⟩
      unfold setAll at hset
      split at hset
      · cases hset
      · rename_i hl1
        unfold setAll at hset
        split at hset
        · cases hset
        · rename_i hl2
          unfold setAll at hset
          split at hset
          · cases hset
          · rename_i hl3
            have e : setN l z (setN j y (setN i x μ1)) = μ2 := Option.some.inj hset
            subst e
            have S2 := S1.set' w1 (io_ne hc hi) (isLck_of hl1)
            have S3 := S2.set' w2 (io_ne hc hj) (isLck_of hl2)
            exact p1 L M _ _ (S3.set' w3 (io_ne hc hl) (isLck_of hl3)) (.of .refl)
/-- x, y, .. = a list -/
theorem js_unpL {st : Stmt} {t : List Nat} (h : PS X st (tAsg (Tr X.K W (rD X.K) re) (gLst X.K t.length (gsOf t)))) (hi : ∀ i ∈ t, i ∉ ios) : JS X W ios st fun μ => (re μ).bind fun d μ1 => Rs.nx (setL t d μ1) := by
  refine ps_mono h fun E σ H ⟨c, L, M, μ, hc, S, p⟩ => ⟨c, L, M, μ, S, PostS.bind S.ml p fun d μ1 v H1 S1 d1 p1 => ?_⟩
  cases hset : setL t d μ1 with
  | none => rw [hset] at p1; exact p1.elim
  | some μ2 =>
    rw [hset] at p1
    unfold setL at hset
    split at hset
    · rename_i xs
      have d1 : Dv X.K H1 L (.list xs) v := d1
      obtain ⟨a, vs, rfl, sq, w⟩ := d1.list
      exact ⟨a, vs, rfl, sq, by rw [← w.length, setAll_len hset], gs_set S1 w hset (fun i hi' => io_ne hc (hi i hi')) fun σ2 S2 _ _ => p1 L M σ2 H1 S2 (.of .refl)⟩
    · cases hset
/-- (x, y, ..) = e -/
theorem js_unp {st : Stmt} {t : List Nat} (h : PS X st (tAsg (Tr X.K W (rD X.K) re) (gTup X.K t.length (gsOf t)))) (hi : ∀ i ∈ t, i ∉ ios) : JS X W ios st fun μ => (re μ).bind fun d μ1 => match setT t true d μ1 with
    | some μ2 => .ok .nx μ2
    | none => .st := by
  refine ps_mono h fun E σ H ⟨c, L, M, μ, hc, S, p⟩ => ⟨c, L, M, μ, S, PostS.bind S.ml p fun d μ1 v H1 S1 d1 p1 => ?_⟩
  cases hset : setT t true d μ1 with
  | none => rw [hset] at p1; exact p1.elim
  | some μ2 =>
    rw [hset] at p1
    exact g_set (tup := true) S1 (.one d1) ⟨rfl, rfl⟩ hset (fun i hi' => io_ne hc (hi i hi')) (fun z => by cases z) fun σ2 S2 _ _ _ => p1 L M σ2 H1 S2 (.of .refl)
end
end Mn
set_option Elab.async false
set_option linter.all false
set_option maxRecDepth 100000
set_option autoImplicit false
namespace Mn
open PySem PySem.Spec L2
/-! ## new lists from lists -/
def HeldAt (K : PySem.W.Frag) (L : Ads) (σ : St) (p : P) (d : D) (a : Addr) (H : Hp) : Prop := match p with
  | .e _ => ¬ L a ∧ rF K d L a H
  | .pk i => σ[i]? = some (some (.ref a)) ∧ OwnAt K H L d a
def Ph (K : PySem.W.Frag) (c : Ent) (L M : Ads) (W : WXm) (σ : St) (H : Hp) (p : P) (Q : VK) : Rs D → Prop
  | .ok d μ' => ∀ a H', Sr K c L M μ' σ H' → Kp M H H' → HeldAt K L σ p d a H' → Q (.ref a) H'
  | .ex x μ' => ∀ H', Sr K c L M μ' σ H' → Kp M H H' → W x σ H'
  | .st => False
def Th (K : PySem.W.Frag) (W : WXm) (p : P) (r : Mu → Rs D) : TE := fun σ H Q => ∃ c L M μ, Sr K c L M μ σ H ∧ Ph K c L M W σ H p Q (r μ)
abbrev JH (X : Cx) (W : WXm) (p : P) (e : Expr) (r : Mu → Rs D) : Prop := PE X e (Th X.K W p r)
section
variable {X : Cx} {W : WXm} {e a b : Expr} {pos p1 : Pos} {i : Nat} {x : Str} {re ra rb : Mu → Rs D} {pa pb : P}
theorem JF.jh {f : E} (h : JF X W e re) : JH X W (.e f) e re := pe_mono h fun σ H Q ⟨c, L, M, μ, S, p⟩ => ⟨c, L, M, μ, S, by
  cases h : re μ with
  | ok d μ' => rw [h] at p; exact fun a H' S1 S2 k n nh f => p a H' S1 k ⟨n, f⟩
  | ex x μ' => rw [h] at p; exact p
  | st => rw [h] at p; exact p⟩
theorem Sr.heldD {K : PySem.W.Frag} {c : Ent} {L M : Ads} {μ : Mu} {σ : St} {H : Hp} (S : Sr K c L M μ σ H) {d : D} (h : Mn.heldD μ i = some d) : ∃ a, σ[i]? = some (some (.ref a)) ∧ OwnAt K H L d a := by
  unfold Mn.heldD at h
  split at h
  · rename_i q; cases h; obtain ⟨a, e1, e2, _⟩ := S.own i _ q; exact ⟨a, e1, e2⟩
  · rename_i q; cases h; obtain ⟨a, e1, e2, _⟩ := S.lck i _ q; exact ⟨a, e1, e2⟩
  · cases h
theorem jh_pk (hN : X.N[i]? = some x) (hv : Vis X.env.scope x) (hd : (x == ("__debug__" : Str)) = false) (hcd : (x == ("__classdict__" : Str)) = false) : JH X W (.pk i) (.Name x pos) fun μ => Rs.opt (heldD μ i) μ := by
  refine pe_mono (pe_var (i := i) hN hv hd hcd) fun σ H Q ⟨c, L, M, μ, S, p⟩ => ?_
  cases h : heldD μ i with
  | none => simp only [h] at p; exact p.elim
  | some d =>
    simp only [h] at p
    obtain ⟨a, e1, e2⟩ := S.heldD h
    exact ⟨.ref a, e1, p a H S .refl ⟨e1, e2⟩⟩
theorem heldL {K : PySem.W.Frag} {L : Ads} {σ : St} {p : P} {xs : List D} {a : Addr} {H : Hp} (h : HeldAt K L σ p (.list xs) a H) : ∃ vs, H a = some (.lst vs) ∧ Dvs K H L xs vs := by
  cases p with
  | e f =>
    rcases h.2 with ⟨_, vs, e, q, w⟩ | ⟨_, _, e, _⟩
    · cases e; exact ⟨vs, q, w.anti fun _ h => .inl h⟩
    · cases e
  | pk i =>
    rcases h.2 with ⟨_, vs, e, q, w⟩ | ⟨_, _, e, _⟩
    · cases e; exact ⟨vs, q, w⟩
    · cases e
/-- later on -/
theorem held_later {K : PySem.W.Frag} {c : Ent} {L M : Ads} {μ2 : Mu} {σ : St} {H1 H2 : Hp} {p : P} {x : D} {xs : List D} {a : Addr} (h : HeldAt K L σ p x a H1) (S2 : Sr K c L M μ2 σ H2) (k : Kp M H1 H2) (e : heldP p x μ2 = some (.list xs)) : ∃ vs, H2 a = some (.lst vs) ∧ Dvs K H2 L xs vs := by
  cases p with
  | e f =>
    cases e
    obtain ⟨vs, q, w⟩ := heldL h
    exact ⟨vs, k _ _ q fun m => h.1 (S2.ml _ m), S2.dks w k⟩
  | pk i =>
    obtain ⟨a', e1, e2⟩ := S2.heldD (show heldD μ2 i = some (.list xs) from e)
    have := h.1
    rw [e1] at this; cases this
    exact heldL (p := .pk i) ⟨e1, e2⟩
theorem Ph.bindF {K : PySem.W.Frag} {c : Ent} {L M : Ads} {σ : St} {H : Hp} {p : P} {Q Q2 : VK} {r : Rs D} {k : D → Mu → Rs D} (pp : Pf K c L M W σ H Q2 (r.bind k))
    (g : ∀ d μ1 a H1, Sr K c L M μ1 σ H1 → Kp M H H1 → HeldAt K L σ p d a H1 → Pf K c L M W σ H1 Q2 (k d μ1) → Q (.ref a) H1) : Ph K c L M W σ H p Q r := by
  cases r with
  | ok d μ =>
    intro a H' S k' h
    refine g d μ a H' S k' h ?_
    have p' : Pf K c L M W σ H Q2 (k d μ) := pp
    cases h2 : k d μ with
    | ok d2 μ2 =>
      rw [h2] at p'
      intro a' H2 S1 S2 k2 n nh f
      exact p' a' H2 S1 S2 (k'.trans k2) n (fun b e => nh b (k' a' b e fun m => n (S.ml _ m))) f
    | ex x μ2 => rw [h2] at p'; exact fun H2 S1 k2 => p' H2 S1 (k'.trans k2)
    | st => rw [h2] at p'; exact p'
  | ex x μ => exact pp
  | st => exact pp
theorem jf_cat (ha : JH X W pa a ra) (hb : JH X W pb b rb) : JF X W (.BinOp a .Add b pos) fun μ => (ra μ).bind fun x μ1 => (rb μ1).bind fun y μ2 => catE pa pb x y μ2 := by
  refine pe_mono (pe_op op_cat ha hb) fun σ H Q ⟨c, L, M, μ, S, p⟩ => ⟨c, L, M, μ, S, Ph.bindF p fun x μ1 a1 H1 S1 k1 h1 p1 => ⟨c, L, M, μ1, S1, Ph.bindF p1 fun y μ2 b1 H2 S2 k2 h2 p2 => ?_⟩⟩
  unfold catE at p2
  split at p2
  · rename_i xs ys e1 e2
    split at p2
    · rename_i hz
      obtain ⟨vs, q1, w1⟩ := held_later h1 S2 k2 e1
      obtain ⟨ws, q2, w2⟩ := held_later h2 S2 .refl e2
      refine ⟨a1, b1, vs, ws, rfl, rfl, q1, q2, by rw [← w1.length, ← w2.length]; exact sizeOkN_of hz, fun p hp => ?_⟩
      obtain ⟨n1, n2, n3, n4, n5, n6⟩ := S2.newF (w1.append w2) hp
      exact p2 _ _ n1 n2 n3 n4 n5 n6
    · exact p2.elim
  · exact p2.elim
theorem jf_rep (ha : JH X W pa a ra) (hb : JE X W b rb) : JF X W (.BinOp a .Mult b pos) fun μ => (ra μ).bind fun x μ1 => (rb μ1).bind fun y μ2 => repE pa x y μ2 := by
  refine pe_mono (pe_op op_rep ha hb) fun σ H Q ⟨c, L, M, μ, S, p⟩ => ⟨c, L, M, μ, S, Ph.bindF p fun x μ1 a1 H1 S1 k1 h1 p1 => ⟨c, L, M, μ1, S1, Pst.bindF p1 fun y μ2 b1 H2 e0 S2 k2 d2 p2 => ?_⟩⟩
  unfold repE at p2
  split at p2
  · rename_i xs j e1
    split at p2
    · rename_i hz
      simp only [Bool.and_eq_true, decide_eq_true_eq] at hz
      obtain ⟨vs, q1, w1⟩ := held_later h1 S2 k2 e1
      cases d2
      refine ⟨a1, j, vs, rfl, rfl, q1, by omega, by omega, by rw [← w1.length]; exact sizeOkN_of hz.2, fun p hp => ?_⟩
      obtain ⟨n1, n2, n3, n4, n5, n6⟩ := S2.newF (w1.flat j.toNat) hp
      exact p2 _ _ n1 n2 n3 n4 n5 n6
    · exact p2.elim
  · exact p2.elim
theorem seqD_dw {K : PySem.W.Frag} {H : Hp} {L : Ads} {d : D} {v : V} {xs : List D} (w : Dw K H L d v) (e : seqD d = some xs) : ∃ a vs, v = .ref a ∧ (SqL K H a vs ∨ SqT K H a vs) ∧ Dvs K H L xs vs := by
  unfold seqD at e
  split at e
  · cases e
    obtain ⟨a, vs, rfl, sa, wa⟩ := w.lst
    exact ⟨a, vs, rfl, .inl sa, wa⟩
  · cases e
    obtain ⟨a, vs, rfl, sa, wa⟩ := w.tup
    exact ⟨a, vs, rfl, .inr sa, wa⟩
  · cases e
/-- list(t) -/
theorem jf_listSeq (hg : Gl X "list") (hm : X.mg "list" = none) (ha : JP X W a ra) (hs : isStar a = false) :
    JF X W (.Call (.Name "list" p1) [a] [] pos) fun μ => ((ra μ).bind fun x μ1 => Rs.opt (seqD x) μ1).bind fun xs μ1 => .ok (.list xs) μ1 := by
  refine pe_mono (pe_callTy call_list_of hg hm (by decide +kernel) (pa_cons ha pa_nil (starEach_cons hs _ _)) (by decide) (by decide +kernel) (starEach_cons hs _ _) rfl) fun σ H Q ⟨c, L, M, μ, S, p⟩ => ⟨c, L, M, μ, S, ?_⟩
  have p' : Pf X.K c L M W σ H Q ((ra μ).bind fun x μ1 => (Rs.opt (seqD x) μ1).bind fun xs μ1 => .ok (.list xs) μ1) := by
    cases h : ra μ with
    | ok d μ1 => simp only [h] at p; exact p
    | ex z μ1 => simp only [h] at p; exact p
    | st => simp only [h] at p; exact p
  refine Pst.bindF p' fun x μ1 v H1 e0 S1 k1 d1 p1 => ?_
  cases hz : seqD x with
  | none => rw [hz] at p1; exact p1.elim
  | some xs =>
    rw [hz] at p1
    have d1 : Dw X.K H1 L x v := d1
    obtain ⟨a0, vs, rfl, sq, w⟩ := seqD_dw d1 hz
    refine ⟨a0, vs, rfl, sq, fun p hp => ?_⟩
    obtain ⟨n1, n2, n3, n4, n5, n6⟩ := S1.newF w hp
    exact p1 _ _ n1 n2 n3 n4 n5 n6
/-- list(range(n)) -/
theorem rgV_dvs {K : PySem.W.Frag} {H : Hp} {L : Ads} (j : Int) : Dvs K H L (rangeD 0 j.toNat) (rgV 0 j) := by
  unfold rangeD rgV
  rw [show (j - 0).toNat = j.toNat by omega]
  generalize List.range j.toNat = l
  induction l with
  | nil => exact .nil
  | cons n l ih => exact .cons (.int _) ih
theorem jf_listRng {p2 p3 : Pos} (hc : X.calm = true) (hg : Gl X "list") (hm : X.mg "list" = none) (hg' : Gl X "range") (hm' : X.mg "range" = none) (ha : JE X W a ra) (hs : isStar a = false) :
    JF X W (.Call (.Name "list" p1) [.Call (.Name "range" p2) [a] [] p3] [] pos) fun μ => ((ra μ).bind fun x μ1 => match x with
      | .int j => if smallI j && sizeOkN j.toNat then .ok (rangeD 0 j.toNat) μ1 else .st
      | _ => .st).bind fun xs μ1 => .ok (.list xs) μ1 := by
  refine pe_mono (pe_listRg hc hg hm (prg_1 hg' hm' ha (starEach_cons hs _ _)) (starEach_cons rfl _ _)) fun σ H Q ⟨c, L, M, μ, S, p⟩ => ⟨c, L, M, μ, S, ?_⟩
  have p' : Pf X.K c L M W σ H Q ((ra μ).bind fun x μ1 => (match x with
      | .int j => if smallI j && sizeOkN j.toNat then Rs.ok (rangeD 0 j.toNat) μ1 else .st
      | _ => .st).bind fun xs μ1 => .ok (.list xs) μ1) := by
    cases h : ra μ with
    | ok d μ1 => simp only [h] at p; exact p
    | ex z μ1 => simp only [h] at p; exact p
    | st => simp only [h] at p; exact p
  refine Pst.bindF p' fun x μ1 v H1 e0 S1 k1 d1 p1 => ?_
  split at p1
  · rename_i j
    split at p1
    · rename_i hz
      simp only [Bool.and_eq_true] at hz
      have d1 : Dv X.K H1 L (.int j) v := d1
      cases d1
      obtain ⟨s1, s2, _⟩ := smallI_of hz.1
      have := sizeOkN_of hz.2
      rw [sizeLine_eq] at this
      refine ⟨j, rfl, ⟨by omega, by omega, s1, s2, by omega⟩, fun p hp => ?_⟩
      obtain ⟨n1, n2, n3, n4, n5, n6⟩ := S1.newF (rgV_dvs j) hp
      exact p1 _ _ n1 n2 n3 n4 n5 n6
    · exact p1.elim
  · exact p1.elim
end
end Mn
set_option Elab.async false
set_option linter.all false
set_option maxRecDepth 100000
set_option autoImplicit false
namespace Mn
open PySem PySem.Spec L2
/-! ## dicts whose keys are tuples of ints -/
theorem eqvI : ∀ (xs ys : List Int), PyData.eqvAll (xs.map .int) (ys.map .int) = decide (xs = ys)
  | [], [] => rfl
  | x :: xs, y :: ys => by
    show (PyData.eqv (.int x) (.int y) && PyData.eqvAll (xs.map .int) (ys.map .int)) = _
    rw [eqvI xs ys, PyData.eqv]
    by_cases h : x = y
    · subst h; simp
    · simp [h]
  | [], _ :: _ => by simp [PyData.eqvAll]
  | _ :: _, [] => by simp [PyData.eqvAll]
def tI (k : List Int) : D := .tuple (k.map .int)
theorem eqv_key (k k' : List Int) : PyData.eqv (tI k) (tI k') = decide (k = k') := by
  unfold tI
  rw [PyData.eqv, eqvI]
theorem intsOf_eq : ∀ {xs : List D} {k : List Int}, intsOf xs = some k → xs = k.map .int
  | [], k, h => by cases h; rfl
  | .int i :: r, k, h => by
    have h' : (intsOf r).map (i :: ·) = some k := h
    cases q : intsOf r with
    | none => rw [q] at h'; cases h'
    | some k' => rw [q] at h'; cases h'; rw [intsOf_eq q]; rfl
  | .none :: _, _, h | .bool _ :: _, _, h | .str _ :: _, _, h | .list _ :: _, _, h | .tuple _ :: _, _, h | .dict _ :: _, _, h => by simp [intsOf] at h
theorem isKey_of {y : D} (h : isKey y = true) : ∃ k : List Int, y = tI k := by
  unfold isKey at h
  split at h
  · rename_i xs
    cases q : intsOf xs with
    | none => rw [q] at h; cases h
    | some k => exact ⟨k, by rw [intsOf_eq q]; rfl⟩
  · cases h
section
variable {K : PySem.W.Frag} {H : Hp} {L : Ads}
theorem Dvk.at {es : List (D × D)} {xs : List Ent3} (w : Dvk K H L es xs) (k : List Int) : (dget es (tI k) = none ∧ atKey xs k = none) ∨ ∃ d b u v, dget es (tI k) = some d ∧ atKey xs k = some (b, u) ∧ RelV v u ∧ Dv K H L d v := by
  induction es generalizing xs with
  | nil => cases w; exact .inl ⟨rfl, rfl⟩
  | cons e es ih =>
    cases w with
    | @cons k0 b u d v _ xs g r x t =>
      have e1 : dget ((.tuple (k0.map .int), d) :: es) (tI k) = if k0 = k then some d else dget es (tI k) := by
        show (if PyData.eqv (tI k0) (tI k) then some d else dget es (tI k)) = _
        rw [eqv_key]; simp
      have e2 : atKey ((k0, b, u) :: xs) k = if k0 = k then some (b, u) else atKey xs k := by
        unfold atKey
        rw [List.find?_cons]
        by_cases h : k0 = k
        · simp [h]
        · simp [h]
      rw [e1, e2]
      by_cases h : k0 = k
      · rw [if_pos h, if_pos h]; exact .inr ⟨d, b, u, v, rfl, rfl, r, x⟩
      · rw [if_neg h, if_neg h]; exact ih t
theorem dput_new {es : List (D × D)} {xs : List Ent3} (w : Dvk K H L es xs) {k : List Int} {d : D} (h : atKey xs k = none) : dput es (tI k) d = es ++ [(tI k, d)] := by
  induction es generalizing xs with
  | nil => rfl
  | cons e es ih =>
    cases w with
    | @cons k0 b u d0 v _ xs g r x t =>
      have hk : ¬ k0 = k ∧ atKey xs k = none := by
        unfold atKey at h ⊢
        rw [List.find?_cons] at h
        by_cases z : k0 = k
        · simp [z] at h
        · exact ⟨z, by simpa [z] using h⟩
      show (if PyData.eqv (tI k0) (tI k) then _ else (tI k0, d0) :: dput es (tI k) d) = _
      rw [eqv_key, if_neg (by simp [hk.1]), ih t hk.2]; rfl
theorem Dvk.snoc {es : List (D × D)} {xs : List Ent3} (w : Dvk K H L es xs) {k : List Int} {b : Addr} {u : Value} {d : D} {v : V} (g : Dv K H L (tI k) (.ref b)) (r : RelV v u) (x : Dv K H L d v) : Dvk K H L (es ++ [(tI k, d)]) (xs ++ [(k, b, u)]) := by
  induction es generalizing xs with
  | nil => cases w; exact .cons g r x .nil
  | cons e es ih =>
    cases w with
    | cons g0 r0 x0 t => exact .cons g0 r0 x0 (ih t)
theorem putAt_none {xs : List Ent3} {k : List Int} {u : Value} (h : k ∉ xs.map (·.1)) : xs.map (putAt k u) = xs := map_putAt_of_not_mem xs k u h
theorem Dvk.repl {es : List (D × D)} {xs : List Ent3} (w : Dvk K H L es xs) (nd : (xs.map (·.1)).Nodup) {k : List Int} {u : Value} {d : D} {v : V} (r : RelV v u) (x : Dv K H L d v) (h : (atKey xs k).isSome = true) : Dvk K H L (dput es (tI k) d) (xs.map (putAt k u)) := by
  induction es generalizing xs with
  | nil => cases w; cases h
  | cons e es ih =>
    cases w with
    | @cons k0 b u0 d0 v0 _ xs g0 r0 x0 t =>
      rw [List.map_cons, List.nodup_cons] at nd
      rw [List.map_cons]
      have e1 : dput ((tI k0, d0) :: es) (tI k) d = if k0 = k then (tI k0, d) :: es else (tI k0, d0) :: dput es (tI k) d := by
        show (if PyData.eqv (tI k0) (tI k) then _ else _) = _
        rw [eqv_key]; simp
      show Dvk K H L (dput ((tI k0, d0) :: es) (tI k) d) _
      rw [e1]
      by_cases z : k0 = k
      · subst z
        rw [if_pos rfl, putAt_none nd.1]
        unfold putAt
        rw [if_pos rfl]
        exact .cons g0 r x t
      · rw [if_neg z]
        unfold putAt
        rw [if_neg z]
        refine .cons g0 r0 x0 (ih t nd.2 ?_)
        unfold atKey at h ⊢
        rw [List.find?_cons] at h
        simpa [z] using h
theorem Dvk.put {es : List (D × D)} {xs : List Ent3} (w : Dvk K H L es xs) (nd : (xs.map (·.1)).Nodup) {k : List Int} {b : Addr} {u : Value} {d : D} {v : V} (g : Dv K H L (tI k) (.ref b)) (r : RelV v u) (x : Dv K H L d v) : Dvk K H L (dput es (tI k) d) (storedH xs k b u) := by
  cases h : atKey xs k with
  | none => rw [dput_new w h, storedH_new h]; exact w.snoc g r x
  | some p => rw [storedH_old h]; exact w.repl nd r x (by rw [h]; rfl)
theorem Dvk.length : ∀ {es : List (D × D)} {xs : List Ent3}, Dvk K H L es xs → es.length = xs.length
  | _, _, .nil => rfl
  | _, _, .cons _ _ _ t => congrArg (· + 1) (Dvk.length t)
end
section
variable {X : Cx} {pins : List (Addr × Obj)} {σ : St} {H : Hp} {s : Shared} {a b : Addr} {xs : List Ent3} {es : List (D × D)} {L : Ads} {k : List Int}
theorem items_ints {P : Program} {w : World} : ∀ {ks : List Int} {us : List Value}, Vals (ks.map V.int) us → ItemsAre (intKind P w) ks us
  | [], _, r => by rw [List.map_nil] at r; cases r; exact .nil
  | k :: ks, _, r => by
    rw [List.map_cons] at r
    cases r with
    | cons h t =>
      obtain ⟨t', rfl⟩ := h
      exact .cons (by simp [intKind, Value.isInt]) (items_ints t)
theorem inv_key (I : Inv X pins σ H s) (g : Dv X.K H L (tI k) (.ref b)) : (tupleKind (intKind X.prog X.w)).is s.heap k b := by
  obtain ⟨a, vs, e, sq, w⟩ := g.tuple
  cases e
  rw [w.ints] at sq
  obtain ⟨its, r, ⟨o, h1, h2, n, h3⟩, _⟩ := I.tuple sq
  exact ⟨o, its.toArray, n, h1, h2, h3, by simpa using items_ints r⟩
theorem Dvk.keys {K : PySem.W.Frag} : ∀ {es : List (D × D)} {xs : List Ent3}, Dvk K H L es xs → ∀ x ∈ xs, Dv K H L (tI x.1) (.ref x.2.1)
  | _, _, .nil, x, h => by cases h
  | _, _, .cons g _ _ t, x, h => by
    rcases List.mem_cons.mp h with h | h
    · subst h; exact g
    · exact Dvk.keys t x h
theorem inv_dct (I : Inv X pins σ H s) (h : IsDct H a xs) (w : Dvk X.K H L es xs) : s.heap.DictOfH (tupleKind (intKind X.prog X.w)) a xs := by
  obtain ⟨o, es', ep, h1, _, h3, h4, h5, h6, _⟩ := h
  have q : ObjOk X.prog X.w H s.heap a (DictO a o) := I.hok a _ h1
  exact ⟨o, es', ep, q.1, h3, h4, h5, fun x hx => inv_key I (w.keys x hx), h6⟩
theorem isDct_nm (h : IsDct H a xs) : (a == sysModules) = false := by obtain ⟨_, _, _, _, h2, _⟩ := h; exact h2
theorem isDct_len (h : IsDct H a xs) : xs.length ≤ sizeLine := by obtain ⟨_, _, _, _, _, _, _, _, _, h⟩ := h; exact h
theorem isDct_nd (h : IsDct H a xs) : (xs.map (·.1)).Nodup := by obtain ⟨_, _, _, _, _, _, _, _, h, _⟩ := h; exact h
theorem isDct_type (I : Inv X pins σ H s) (h : IsDct H a xs) : s.TypeIs (.ref a) "dict" ∧ (∀ b, Value.ref a = .ref b → ∃ ob, s.heap.get? b = some ob ∧ ob.dict = none) := by
  obtain ⟨o, es', ep, h1, _, h3, _⟩ := h
  have q : ObjOk X.prog X.w H s.heap a (DictO a o) := I.hok a _ h1
  refine ⟨⟨o, q.1, h3.1⟩, fun b e => ?_⟩
  cases e
  exact ⟨o, q.1, h3.2.1⟩
theorem objOk_dct {P : Program} {w : World} {H' : Hp} {h' : Heap} {o : Obj} (e : h'.get? a = some o) : ObjOk P w H' h' a (DictO a o) := ⟨e, ⟨o, e⟩, fun h1 h2 q k => k o q⟩
/-- d[y] -/
def rDG (K : PySem.W.Frag) (x y : V) (H : Hp) (Q : VK) : Prop := ∃ a b xs es L k u v, x = .ref a ∧ y = .ref b ∧ IsDct H a xs ∧ Dvk K H L es xs ∧ Dv K H L (tI k) (.ref b) ∧ atKey xs k = some u ∧ RelV v u.2 ∧ Q v H
def tDG (K : PySem.W.Frag) (td ty : TE) : TE := fun σ H Q => td σ H fun x H1 => ty σ H1 fun y H2 => rDG K x y H2 Q
theorem pe_dg {o i : Expr} {pos : Pos} {td ty : TE} (hu : X.A.units + 1 < cLine) (ho : PE X o td) (hi : PE X i ty) (hs : NoSl i) : PE X (.Subscript o i pos) (tDG X.K td ty) := by
  refine ⟨fun pins s σ H Q I h => ?_⟩
  refine subD_of PySem.F.slot_dict_getitem.lookup hs (thn (ho.run pins s σ H _ I h) fun u s1 ⟨x, H1, I1, rx, q1⟩ => thn (hi.run pins s1 σ H1 _ I1 q1) fun iv s2 ⟨y, H2, I2, ry, a, b, xs, es, L, k, p, v, ex, ey, g1, g2, g3, g4, g5, q2⟩ => ?_)
  subst ex ey
  obtain rfl : u = Value.ref a := rx
  obtain rfl : iv = Value.ref b := ry
  exact ⟨(isDct_type I2 g1).1, wpAny_getItem_heap (tupleKind_room_in1 hu) (inv_key I2 g3) (inv_dct I2 g1 g2) g4 ⟨v, H2, I2.tok _, g5, q2⟩⟩
/-- d.get(y, z) -/
def tDG2 (K : PySem.W.Frag) (td ty tx : TE) : TE := fun σ H Q => td σ H fun x H1 => ∃ a xs0, x = .ref a ∧ IsDct H1 a xs0 ∧ ty σ H1 fun y H2 => tx σ H2 fun z H3 => ∃ b xs es L k, y = .ref b ∧ IsDct H3 a xs ∧ Dvk K H3 L es xs ∧ Dv K H3 L (tI k) (.ref b) ∧
  ((atKey xs k = none ∧ Q z H3) ∨ ∃ u v, atKey xs k = some u ∧ RelV v u.2 ∧ Q v H3)
theorem pe_dg2 {o e f : Expr} {apos cpos : Pos} {td ty tx : TE} (hu : X.A.units + 1 < cLine) (ho : PE X o td) (he : PE X e ty) (hf : PE X f tx) (m : M2 X o "get" apos e f cpos) : PE X (.Call (.Attribute o "get" apos) [e, f] [] cpos) (tDG2 X.K td ty tx) := by
  refine ⟨fun pins s σ H Q I h => ?_⟩
  refine wpAny_Call_method m.base m.few m.line PySem.F.plainAttrs_dict PySem.F.slot_dict_get PySem.F.type_dict_get (thn (ho.run pins s σ H _ I h) fun u s1 ⟨x, H1, I1, rx, a, xs0, ex, d, q1⟩ => ?_)
  subst ex
  obtain rfl : u = Value.ref a := rx
  obtain ⟨t1, t2⟩ := isDct_type I1 d
  refine ⟨t1, t2, ?_⟩
  rw [m.trees]
  refine Calls.callWith_builtin rfl (Calls.evalArgs_plain (Calls.spliced_cons (thn (he.run pins s1 σ H1 _ I1 q1) fun iv s2 ⟨y, H2, I2, ry, q2⟩ =>
    Calls.spliced_cons (thn (hf.run pins s2 σ H2 _ I2 q2) fun fv s3 ⟨z, H3, I3, rz, b, xs, es, L, k, ey, g1, g2, g3, q3⟩ => Calls.spliced_nil ?_))))
  subst ey
  obtain rfl : iv = Value.ref b := ry
  refine call_meetsIn PySem.F.slot_dict_get (isDct_type I3 g1).1 PySem.F.entry_dict_get (PySem.F.args_dict_get_3 _ _ _) (meetsH_dict_get_default (tupleKind (intKind X.prog X.w)) a b (isDct_nm g1) fv) ⟨tupleKind_room_in1 hu, k, xs, inv_key I3 g3, inv_dct I3 g1 g2, ?_⟩
  rcases q3 with ⟨e, q3⟩ | ⟨u, v, e, r, q3⟩
  · rw [e]; exact ⟨z, H3, I3.tok _, rz, q3⟩
  · rw [e]; exact ⟨v, H3, I3.tok _, r, q3⟩
/-- d[y] = v -/
def rSetI (K : PySem.W.Frag) : V → V → V → Hp → (Hp → Prop) → Prop := fun o i v H Q => ∃ a b xs es L k, o = .ref a ∧ i = .ref b ∧ IsDct H a xs ∧ Dvk K H L es xs ∧ Dv K H L (tI k) (.ref b) ∧ xs.length < sizeLine ∧
  ∀ o' u, RelV v u → IsDct (upd H a (DictO a o')) a (storedH xs k b u) → Q (upd H a (DictO a o'))
theorem storedH_len (xs : List Ent3) (k : List Int) (b : Addr) (u : Value) : (storedH xs k b u).length ≤ xs.length + 1 := by
  unfold storedH
  split
  · rw [List.length_map]; omega
  · rw [List.length_append]; exact Nat.le_refl _
theorem set_dct (hu : X.A.units + 1 < cLine) : PSet X (rSetI X.K) := by
  intro pins s σ H o i v ov iv u Q I ro ri rv h
  obtain ⟨a, b, xs, es, L, k, rfl, rfl, g1, g2, g3, g4, q⟩ := h
  cases (show ov = Value.ref a from ro)
  cases (show iv = Value.ref b from ri)
  have hz : xs.length ≤ sizeLine := isDct_len g1
  refine wpAny_setItem_heap (hsz := hz) (tupleKind_room_in1 hu) (inv_key I g3) (inv_dct I g1 g2) fun h' dd' hs => ?_
  obtain ⟨o', es', ep, hq, h2, h3, h4, _, h5⟩ := dd'
  obtain ⟨o0, _, _, e0, nm, _⟩ := g1
  refine ⟨upd H a (DictO a o'), d_write I (by rw [e0]; exact True.intro) hs ⟨o', hq⟩ (objOk_dct hq), q o' u rv ⟨o', es', ep, upd_same, nm, h2, h3, h4, h5, ?_⟩⟩
  have := storedH_len xs k b u
  omega
/-- {} -/
def tDNew : TE := fun _ H Q => ∀ p o, H p = none → IsDct (upd H p (DictO p o)) p [] → Q (.ref p) (upd H p (DictO p o))
theorem pe_dnew {pos : Pos} : PE X (.Dict [] [] pos) tDNew := ⟨fun pins s σ H Q I h => by
  have e : (s.heap.push { cls := .type "dict", data := .dict #[] }).get? s.heap.objs.size = some { cls := .type "dict", data := .dict #[] } := Heap.get?_push_size _ rfl
  refine wpAny_Dict_empty ⟨.ref s.heap.objs.size, _, I.laid (a := s.heap.objs.size) (o := DictO s.heap.objs.size { cls := .type "dict", data := .dict #[] }) (t' := s.toks) (fun _ _ q => Heap.get?_push_of_some _ q) (Nat.le_refl _) (objOk_dct e), rfl, h _ _ (I.hok.fresh (Nat.le_refl _)) ?_⟩
  exact ⟨_, #[], 0, upd_same, beq_eq_false_iff_ne.mpr (Ne.symm (Nat.ne_of_lt I.big)), ⟨rfl, rfl, rfl⟩, rfl, rfl, List.nodup_nil, Nat.zero_le _⟩⟩
end
section
variable {X : Cx} {W : WXm} {ios : List Nat} {e a b c0 : Expr} {pos apos cpos p1 : Pos} {i : Nat} {x : Str} {re ra rb rc rk : Mu → Rs D}
theorem noSl_of {b : Expr} (h : isSlice b = false) : NoSl b := fun o i => by
  cases b <;> first | rfl | (exact absurd h (by simp [isSlice]))
theorem Dw.dct {K : PySem.W.Frag} {H : Hp} {L : Ads} {es : List (D × D)} {v : V} (w : Dw K H L (.dict es) v) : ∃ a xs, v = .ref a ∧ IsDct H a xs ∧ Dvk K H L es xs := by
  rcases w with w | ⟨a, rfl, w⟩
  · cases w with
    | dct n r s => exact ⟨_, _, rfl, r, s⟩
  · rcases w with ⟨_, _, e, _⟩ | ⟨_, xs, e, h, r⟩
    · cases e
    · cases e; exact ⟨a, xs, rfl, h, r⟩
theorem Dv.tI_ref {K : PySem.W.Frag} {H : Hp} {L : Ads} {k : List Int} {v : V} (w : Dv K H L (tI k) v) : ∃ b, v = .ref b := by
  obtain ⟨a, _, rfl, _⟩ := w.tuple
  exact ⟨a, rfl⟩
/-- d[k] -/
theorem dix_end {K : PySem.W.Frag} {c : Ent} {L M : Ads} {μ2 : Mu} {σ : St} {H2 : Hp} {es : List (D × D)} {y : D} {v w : V} {Q : VK} (S2 : Sr K c L M μ2 σ H2) (d1 : Dw K H2 L (.dict es) v) (d2 : Dv K H2 L y w) (p2 : Pst K c L M W σ H2 (rD K) Q (if isKey y then Rs.opt (dget es y) μ2 else .st)) : rDG K v w H2 Q := by
  split at p2
  · rename_i hk
    obtain ⟨k, rfl⟩ := isKey_of hk
    obtain ⟨z, e, q⟩ := p2.opt
    obtain ⟨a, xs, rfl, g1, g2⟩ := d1.dct
    obtain ⟨b, rfl⟩ := d2.tI_ref
    rcases g2.at k with ⟨h1, _⟩ | ⟨d, b', u, v', h1, h2, h3, h4⟩
    · rw [h1] at e; cases e
    · rw [h1] at e; cases e
      exact ⟨a, b, xs, es, L, k, (b', u), v', rfl, rfl, g1, g2, d2, h2, h3, q _ _ S2 .refl h4⟩
  · exact p2.elim
theorem je_dix (hu : X.A.units + 1 < cLine) (f : E) (ha : JE X W a ra) (hb : JE X W b rb) (hs : isSlice b = false) : JE X W (.Subscript a b pos) fun μ => (ra μ).bind fun x μ1 => (rb μ1).bind fun y μ2 => dixE (.e f) x y μ2 := by
  refine pe_mono (pe_dg hu ha hb (noSl_of hs)) fun σ H Q ⟨c, L, M, μ, S, p⟩ => ⟨c, L, M, μ, S, p.bind fun x μ1 v H1 S1 k1 d1 p1 => ⟨c, L, M, μ1, S1, p1.bind fun y μ2 w H2 S2 k2 d2 p2 => ?_⟩⟩
  unfold dixE at p2
  split at p2
  · rename_i es h
    have h : some x = some (.dict es) := h
    cases h
    exact dix_end S2 (.inl (S2.dk d1 k2)) d2 p2
  · exact p2.elim
theorem je_dixK (hu : X.A.units + 1 < cLine) (hN : X.N[i]? = some x) (hv : Vis X.env.scope x) (hd : (x == ("__debug__" : Str)) = false) (hcd : (x == ("__classdict__" : Str)) = false) (hb : JE X W b rb) (hs : isSlice b = false) :
    JE X W (.Subscript (.Name x p1) b pos) fun μ => (Rs.opt (peek μ i) μ).bind fun x0 μ1 => (rb μ1).bind fun y μ2 => dixE (.pk i) x0 y μ2 := by
  refine pe_mono (pe_dg hu (pe_var (i := i) hN hv hd hcd) hb (noSl_of hs)) fun σ H Q ⟨c, L, M, μ, S, p⟩ => ?_
  cases hp : peek μ i with
  | none => simp only [hp] at p; exact p.elim
  | some d0 =>
    simp only [hp] at p
    obtain ⟨v, hv, _⟩ := S.peek hp
    refine ⟨v, hv, c, L, M, μ, S, Pst.bind (k := fun y μ2 => dixE (.pk i) d0 y μ2) p fun y μ2 w H2 S2 k2 d2 p2 => ?_⟩
    unfold dixE at p2
    split at p2
    · rename_i es h
      obtain ⟨v', hv', w'⟩ := S2.peek (show peek μ2 i = some (.dict es) from h)
      have : v = v' := by rw [hv] at hv'; exact Option.some.inj (Option.some.inj hv')
      subst this
      exact dix_end S2 w' d2 p2
    · exact p2.elim
/-- d.get(k, z) -/
theorem get_end {K : PySem.W.Frag} {c : Ent} {L M : Ads} {μ3 : Mu} {σ : St} {H3 : Hp} {es : List (D × D)} {y z : D} {a0 : Addr} {w zv : V} {Q : VK} (S3 : Sr K c L M μ3 σ H3) (d1 : Dw K H3 L (.dict es) (.ref a0)) (d2 : Dv K H3 L y w) (d3 : Dv K H3 L z zv) (p2 : Pst K c L M W σ H3 (rD K) Q (if isKey y then .ok ((dget es y).getD z) μ3 else .st)) :
    ∃ b xs es L k, w = .ref b ∧ IsDct H3 a0 xs ∧ Dvk K H3 L es xs ∧ Dv K H3 L (tI k) (.ref b) ∧ ((atKey xs k = none ∧ Q zv H3) ∨ ∃ u v, atKey xs k = some u ∧ RelV v u.2 ∧ Q v H3) := by
  split at p2
  · rename_i hk
    obtain ⟨k, rfl⟩ := isKey_of hk
    obtain ⟨a, xs, e, g1, g2⟩ := d1.dct
    cases e
    obtain ⟨b, rfl⟩ := d2.tI_ref
    refine ⟨b, xs, es, L, k, rfl, g1, g2, d2, ?_⟩
    rcases g2.at k with ⟨h1, h2⟩ | ⟨d, b', u, v', h1, h2, h3, h4⟩
    · rw [h1] at p2; exact .inl ⟨h2, p2 _ _ S3 .refl d3⟩
    · rw [h1] at p2; exact .inr ⟨(b', u), v', h2, h3, p2 _ _ S3 .refl h4⟩
  · exact p2.elim
theorem m2_get {o : Expr} (hb : attributeBase o "get" X.env (eval o X.env) = eval o X.env) (h1 : isStar a = false) (h2 : isStar b = false) (hl : (apos.endLine == cpos.line) = true) : M2 X o "get" apos a b cpos :=
  ⟨hb, back_few (by simp [h1, h2]) (by simp), hl, by rw [starEach_cons h1, starEach_cons h2]; rfl⟩
theorem isDict_of {x : D} (h : isDict x = true) : ∃ es, x = .dict es := by
  cases x <;> first | exact ⟨_, rfl⟩ | cases h
theorem je_getK (hu : X.A.units + 1 < cLine) (hN : X.N[i]? = some x) (hv : Vis X.env.scope x) (hd : (x == ("__debug__" : Str)) = false) (hcd : (x == ("__classdict__" : Str)) = false) (ha : JE X W a ra) (hb : JE X W b rb) (h1 : isStar a = false) (h2 : isStar b = false) (hl : (apos.endLine == cpos.line) = true) :
    JE X W (.Call (.Attribute (.Name x p1) "get" apos) [a, b] [] cpos) fun μ => (Rs.opt (peek μ i) μ).bind fun x0 μ1 => if isDict x0 then (ra μ1).bind fun y μ2 => (rb μ2).bind fun z μ3 => getE (.pk i) x0 y z μ3 else .st := by
  refine pe_mono (pe_dg2 hu (pe_var (i := i) hN hv hd hcd) ha hb (m2_get rfl h1 h2 hl)) fun σ H Q ⟨c, L, M, μ, S, p⟩ => ?_
  cases hp : peek μ i with
  | none => simp only [hp] at p; exact p.elim
  | some d0 =>
    simp only [hp] at p
    obtain ⟨v, hv, w0⟩ := S.peek hp
    have p : Pst X.K c L M W σ H (rD X.K) Q (if isDict d0 then (ra μ).bind fun y μ2 => (rb μ2).bind fun z μ3 => getE (.pk i) d0 y z μ3 else .st) := p
    split at p
    · rename_i hdict
      obtain ⟨es0, rfl⟩ := isDict_of hdict
      obtain ⟨a0, xs0, rfl, g1, g2⟩ := Dw.dct w0
      refine ⟨.ref a0, hv, a0, xs0, rfl, g1, c, L, M, μ, S, p.bind fun y μ2 w H2 S2 k2 d2 p2 => ⟨c, L, M, μ2, S2, p2.bind fun z μ3 zv H3 S3 k3 d3 p3 => ?_⟩⟩
      unfold getE at p3
      split at p3
      · rename_i es h
        obtain ⟨v', hv', w'⟩ := S3.peek (show peek μ3 i = some (.dict es) from h)
        have : v' = .ref a0 := by rw [hv] at hv'; exact (Option.some.inj (Option.some.inj hv')).symm
        subst this
        exact get_end S3 w' (S3.dk d2 k3) d3 p3
      · exact p3.elim
    · exact p.elim
theorem je_get {o : Expr} {ro : Mu → Rs D} (f : E) (hu : X.A.units + 1 < cLine) (ho : JE X W o ro) (hbs : attributeBase o "get" X.env (eval o X.env) = eval o X.env) (ha : JE X W a ra) (hb : JE X W b rb) (h1 : isStar a = false) (h2 : isStar b = false) (hl : (apos.endLine == cpos.line) = true) :
    JE X W (.Call (.Attribute o "get" apos) [a, b] [] cpos) fun μ => (ro μ).bind fun x0 μ1 => if isDict x0 then (ra μ1).bind fun y μ2 => (rb μ2).bind fun z μ3 => getE (.e f) x0 y z μ3 else .st := by
  refine pe_mono (pe_dg2 hu ho ha hb (m2_get hbs h1 h2 hl)) fun σ H Q ⟨c, L, M, μ, S, p⟩ => ⟨c, L, M, μ, S, p.bind fun x0 μ1 v H1 S1 k1 d1 p1 => ?_⟩
  split at p1
  · rename_i hdict
    obtain ⟨es0, rfl⟩ := isDict_of hdict
    have d1 : Dv X.K H1 L (.dict es0) v := d1
    obtain ⟨a0, xs0, rfl, g1, g2⟩ := Dw.dct (.inl d1)
    refine ⟨a0, xs0, rfl, g1, c, L, M, μ1, S1, p1.bind fun y μ2 w H2 S2 k2 d2 p2 => ⟨c, L, M, μ2, S2, p2.bind fun z μ3 zv H3 S3 k3 d3 p3 => ?_⟩⟩
    unfold getE at p3
    split at p3
    · rename_i es h
      have h : some (PyData.dict es0) = some (.dict es) := h
      cases h
      exact get_end S3 (.inl (S3.dk (S2.dk d1 k2) k3)) (S3.dk d2 k3) d3 p3
    · exact p3.elim
  · exact p1.elim
/-- {} as a new object -/
theorem jf_dict0 : JF X W (.Dict [] [] pos) fun μ => .ok (.dict []) μ := pe_mono pe_dnew fun σ H Q ⟨c, L, M, μ, S, p⟩ q o hq hd =>
  p _ _ (S.laid hq) (S.plus hq) (Kp.laid hq) (S.free hq) (fun b e => by rw [hq] at e; cases e) (.inr ⟨[], [], rfl, hd, .nil⟩)
/-- {k: v, l: w} -/
def tDict2 (K : PySem.W.Frag) (k1 v1 k2 v2 : TE) : TE := fun σ H Q => ∀ p o, H p = none → IsDct (upd H p (DictO p o)) p [] → k1 σ (upd H p (DictO p o)) fun x H1 => v1 σ H1 fun y H2 => k2 σ H2 fun z H3 => v2 σ H3 fun w H4 =>
  H4 p = some (DictO p o) ∧ ∃ a b L ka kb, x = .ref a ∧ z = .ref b ∧ Dv K H4 L (tI ka) (.ref a) ∧ Dv K H4 L (tI kb) (.ref b) ∧ ∀ o' u1 u2, RelV y u1 → RelV w u2 → IsDct (upd H4 p (DictO p o')) p (storedH (storedH [] ka a u1) kb b u2) → Q (.ref p) (upd H4 p (DictO p o'))
theorem pe_dict2 {k l f g : Expr} {tk tf tl tg : TE} (hu : X.A.units + 1 < cLine) (hk : PE X k tk) (hf : PE X f tf) (hl : PE X l tl) (hg : PE X g tg) : PE X (.Dict [some k, some l] [f, g] pos) (tDict2 X.K tk tf tl tg) := by
  refine ⟨fun pins s σ H Q I q => ?_⟩
  have hn := I.hok.fresh (Nat.le_refl s.heap.objs.size)
  have e0 : (s.heap.push { cls := .type "dict", data := .dict #[] }).get? s.heap.objs.size = some { cls := .type "dict", data := .dict #[] } := Heap.get?_push_size _ rfl
  have I1 := I.laid (a := s.heap.objs.size) (o := DictO s.heap.objs.size { cls := .type "dict", data := .dict #[] }) (t' := s.toks) (fun _ _ q => Heap.get?_push_of_some _ q) (Nat.le_refl _) (objOk_dct e0)
  have nm : (s.heap.objs.size == sysModules) = false := beq_eq_false_iff_ne.mpr (Ne.symm (Nat.ne_of_lt I.big))
  have d0 : IsDct (upd H s.heap.objs.size (DictO s.heap.objs.size { cls := .type "dict", data := .dict #[] })) s.heap.objs.size [] := ⟨_, #[], 0, upd_same, nm, ⟨rfl, rfl, rfl⟩, rfl, rfl, List.nodup_nil, Nat.zero_le _⟩
  have q := q _ _ hn d0
  rw [arm_eval_Dict, zip_pairTrees [some k, some l] [f, g] X.env pos rfl rfl, dictDisplay_pairs (pairTrees [some k, some l] [f, g] X.env pos) (fun e => nomatch e) (show 2 < 17 by decide)]
  refine wpAny_bind (wpAny_standAt (wpAny_bind (wpAny_subDictH (knd := tupleKind (intKind X.prog X.w)) (by show X.A.units < cLine; omega) (show 2 ≤ 15 by decide) ?_)))
  refine pairTrees_cons_walk (thn (hk.run pins _ σ _ _ I1 q) fun v1 s1 ⟨x, H1, J1, rx, q1⟩ => thn (hf.run pins s1 σ H1 _ J1 q1) fun v2 s2 ⟨y, H2, J2, ry, q2⟩ => ?_)
  refine pairTrees_cons_walk (thn (hl.run pins s2 σ H2 _ J2 q2) fun v3 s3 ⟨z, H3, J3, rz, q3⟩ => thn (hg.run pins s3 σ H3 _ J3 q3) fun v4 s4 ⟨w, H4, J4, r4, e4, a, b, L, ka, kb, ex, ez, g1, g2, q4⟩ => pairTrees_nil_walk ?_)
  subst ex ez
  obtain rfl : v1 = Value.ref a := rx
  obtain rfl : v3 = Value.ref b := rz
  have d4 : IsDct H4 s.heap.objs.size [] := ⟨_, #[], 0, e4, nm, ⟨rfl, rfl, rfl⟩, rfl, rfl, List.nodup_nil, Nat.zero_le _⟩
  refine ⟨[(ka, a, v2), (kb, b, v4)], ⟨rfl, rfl, inv_key J4 g1, rfl, rfl, inv_key J4 g2, True.intro⟩, inv_dct (L := L) J4 d4 .nil, fun h' tk dd hs => ?_⟩
  obtain ⟨o', es', ep, hq, h2, h3, h4, _, h5⟩ := dd
  refine wpAny_pure ⟨.ref s.heap.objs.size, upd H4 s.heap.objs.size (DictO s.heap.objs.size o'), d_write J4 (by rw [e4]; exact True.intro) hs ⟨o', hq⟩ (objOk_dct hq), rfl, q4 o' v2 v4 ry r4 ⟨o', es', ep, upd_same, nm, h2, h3, h4, h5, ?_⟩⟩
  have l1 := storedH_len [] ka a v2
  have l2 := storedH_len (storedH [] ka a v2) kb b v4
  rw [sizeLine_eq]
  rw [List.length_nil] at l1
  omega
theorem Pst.besides {K : PySem.W.Frag} {c : Ent} {L M : Ads} {σ : St} {H Hi : Hp} {q : Addr} {Q1 Q : VK} {r : Rs D} {kk : D → Mu → Rs D} (p : Pf K c L M W σ H Q (r.bind kk)) (kH : Kp M H Hi)
    (hS : ∀ μ' H', Sr K c (plusA L q) M μ' σ H' → Sr K c L M μ' σ H') (g : ∀ d μ1 v H1, Sr K c (plusA L q) M μ1 σ H1 → Kp M Hi H1 → Dv K H1 (plusA L q) d v → Pf K c L M W σ H Q (kk d μ1) → Q1 v H1) : Pst K c (plusA L q) M W σ Hi (rD K) Q1 r := by
  cases r with
  | ok d μ1 => exact fun v H1 S1 k1 h1 => g d μ1 v H1 S1 k1 h1 p
  | ex x μ1 => exact fun H1 S1 k1 => p H1 (hS _ _ S1) (kH.trans k1)
  | st => exact p
theorem Sr.none0 {K : PySem.W.Frag} {c : Ent} {L M : Ads} {μ : Mu} {σ : St} {H : Hp} (S : Sr K c L M μ σ H) {a : Addr} (n : H a = none) : c.H0 a = none ∨ c.M0 a := by
  cases h : c.H0 a with
  | none => exact .inl rfl
  | some o =>
    by_cases m : c.M0 a
    · exact .inr m
    · have := S.keep a o h m
      rw [n] at this; cases this
theorem jf_dict2 {k l f g : Expr} {rk rf rl rg : Mu → Rs D} (hu : X.A.units + 64 < cLine) (hk : JE X W k rk) (hf : JE X W f rf) (hl : JE X W l rl) (hg : JE X W g rg) :
    JF X W (.Dict [some k, some l] [f, g] pos) fun μ => (rk μ).bind fun x μ1 => (rf μ1).bind fun y μ2 => (rl μ2).bind fun z μ3 => (rg μ3).bind fun w μ4 => dict2E x y z w μ4 := by
  refine pe_mono (pe_dict2 (by omega) hk hf hl hg) fun σ H Q ⟨c, L, M, μ, S, p⟩ => fun q o hq hd => ?_
  have nL : ¬ L q := S.free hq
  have nM : ¬ M q := fun z => nL (S.ml q z)
  have hS : ∀ μ' H', Sr X.K c (plusA L q) M μ' σ H' → Sr X.K c L M μ' σ H' := fun μ' H' T => T.minus S.ml S.l0 fun a h => (S.lkl a h).1
  refine ⟨c, plusA L q, M, μ, S.plus hq, Pst.besides p (Kp.laid hq) hS fun x μ1 xv H1 S1 k1 d1 p1 => ?_⟩
  refine ⟨c, plusA L q, M, μ1, S1, Pst.besides p1 ((Kp.laid hq).trans k1) hS fun y μ2 yv H2 S2 k2 d2 p2 => ?_⟩
  refine ⟨c, plusA L q, M, μ2, S2, Pst.besides p2 (((Kp.laid hq).trans k1).trans k2) hS fun z μ3 zv H3 S3 k3 d3 p3 => ?_⟩
  refine ⟨c, plusA L q, M, μ3, S3, Pst.besides p3 ((((Kp.laid hq).trans k1).trans k2).trans k3) hS fun w μ4 wv H4 S4 k4 d4 p4 => ?_⟩
  unfold dict2E at p4
  split at p4
  · rename_i hc
    simp only [Bool.and_eq_true] at hc
    obtain ⟨ka, rfl⟩ := isKey_of hc.1
    obtain ⟨kb, rfl⟩ := isKey_of hc.2
    have k24 := (k2.trans k3).trans k4
    have k34 := k3.trans k4
    have d1 : Dv X.K H4 (plusA L q) (tI ka) xv := S4.dk d1 k24
    have d2 : Dv X.K H4 (plusA L q) y yv := S4.dk d2 k34
    have d3 : Dv X.K H4 (plusA L q) (tI kb) zv := S4.dk d3 k4
    obtain ⟨a, rfl⟩ := d1.tI_ref
    obtain ⟨b, rfl⟩ := d3.tI_ref
    have e4 : H4 q = some (DictO q o) := k24 _ _ (k1 _ _ upd_same nM) nM
    refine ⟨e4, a, b, plusA L q, ka, kb, rfl, rfl, d1, d3, fun o' u1 u2 r1 r2 hd' => ?_⟩
    have S5 : Sr X.K c (plusA L q) M μ4 σ (upd H4 q (DictO q o')) := S4.wr (.inr rfl) nM (fun z => nL (S.lkl q z).1) (S.none0 hq)
    have kk : Kp (plusA L q) H4 (upd H4 q (DictO q o')) := fun b u e n => by
      have z : b ≠ q := fun z => n (.inr z)
      rw [upd_ne z]; exact e
    have w0 : Dvk X.K H4 (plusA L q) (dput [] (tI ka) y) (storedH [] ka a u1) := Dvk.put (es := []) (xs := []) .nil List.nodup_nil d1 r1 d2
    have w1 := (w0.put (List.nodup_cons.mpr ⟨by simp, List.nodup_nil⟩) d3 r2 d4).keep kk
    refine p4 q _ (hS _ _ S5) S5 (fun b u e m => ?_) nL (fun b e => by rw [hq] at e; cases e) (.inr ⟨_, _, rfl, hd', w1⟩)
    have z : b ≠ q := fun z => by rw [z, hq] at e; cases e
    rw [upd_ne z]
    exact ((((Kp.laid hq).trans k1).trans k2).trans k3).trans k4 b u e m
  · exact p4.elim
/-- a slot's own dict -/
theorem Sr.ownD {K : PySem.W.Frag} {c : Ent} {L M : Ads} {μ : Mu} {σ : St} {H : Hp} (S : Sr K c L M μ σ H) {es : List (D × D)} (h : owned μ i = some (.dict es)) : ∃ a xs, μ[i]? = some (.own (.dict es)) ∧ σ[i]? = some (some (.ref a)) ∧ M a ∧ IsDct H a xs ∧ Dvk K H L es xs := by
  have h := owned_at h
  obtain ⟨a, e1, e2, e3⟩ := S.own i _ h
  rcases e2 with ⟨_, vs, e, q, w⟩ | ⟨_, xs, e, q, w⟩
  · cases e
  · cases e; exact ⟨a, xs, h, e1, e3, q, w⟩
theorem js_dset {st : Stmt} (h : PS X st (tAsg (Tr X.K W (rD X.K) re) (gSub (tVar i) (Tr X.K W (rD X.K) rk) (rSetI X.K)))) : JS X W ios st fun μ => (re μ).bind fun v μ1 => if ownsA i μ1 then (rk μ1).bind fun y μ2 => Rs.nx (dsetE i y v μ2) else .st := by
  refine ps_mono h fun E σ H ⟨c, L, M, μ, hc, S, p⟩ => ⟨c, L, M, μ, S, PostS.bind S.ml p fun v μ1 vv H1 S1 d1 p1 => ?_⟩
  split at p1
  · rename_i h0
    obtain ⟨d0, h0⟩ := ownsA_of h0
    obtain ⟨a, ea, _⟩ := S1.own i d0 (owned_at h0)
    refine ⟨.ref a, ea, c, L, M, μ1, S1, PostS.bindK S1.ml p1 fun y μ2 yv H2 S2 k2 d2 p2 => ?_⟩
    unfold dsetE at p2
    split at p2
    · rename_i es h1
      split at p2
      · rename_i hc
        simp only [Bool.and_eq_true] at hc
        obtain ⟨k, rfl⟩ := isKey_of hc.1
        obtain ⟨a', xs, h2, ea', hM, eh', dv⟩ := S2.ownD h1
        rw [ea] at ea'; cases ea'
        have d2 : Dv X.K H2 L (tI k) yv := d2
        obtain ⟨b, rfl⟩ := d2.tI_ref
        have hl := sizeOkN_of hc.2
        rw [dv.length] at hl
        refine ⟨a, b, xs, es, L, k, rfl, rfl, eh', dv, d2, by omega, fun o' u ru hd' => ?_⟩
        have kk : Kp L H2 (upd H2 a (DictO a o')) := (Kp.wr hM).mono S2.ml
        have w' : Dvk X.K (upd H2 a (DictO a o')) L (dput es (tI k) v) (storedH xs k b u) := (dv.put (isDct_nd eh') d2 ru (S2.dk d1 k2)).keep kk
        exact p2 L M σ _ (S2.put h2 ea hM (.inr ⟨_, _, rfl, hd', w'⟩)) (.of (Kp.wr hM))
      · exact p2.elim
    · exact p2.elim
  · exact p1.elim
end
end Mn
set_option Elab.async false
set_option linter.all false
set_option maxRecDepth 100000
set_option autoImplicit false
namespace Mn
open PySem PySem.Spec L2 PyProof.Rows
/-! ## sorted(d, reverse=True) -/
def leK (x y : Ent3) : Bool := !decide (x.1 < y.1)
theorem leK_data : PySem.W.dataLe true (fun x : Ent3 => tI x.1) = leK := by
  rw [PySem.W.dataLe_eq]
  funext x y
  show (!PySem.W.dataLt (.tuple (x.1.map .int)) (.tuple (y.1.map .int))) = _
  rw [PySem.W.dataLt_tuple]
  exact congrArg (!·) (PySem.W.dataLt_ints x.1 y.1)
theorem sort_map (xs : List Ent3) : (xs.mergeSort leK).map (·.1) = sortK (xs.map (·.1)) := by
  unfold sortK
  exact List.map_mergeSort (fun a _ b _ => rfl)
section
variable {X : Cx} {pins : List (Addr × Obj)} {σ : L2.St} {H : Hp} {s : Shared}
theorem readsAll_ints {h : Heap} : ∀ {ks : List Int} {us : List Value}, Vals (ks.map V.int) us → ReadsAll h us (ks.map .int) []
  | [], _, r => by rw [List.map_nil] at r; cases r; exact .nil
  | k :: ks, _, r => by
    rw [List.map_cons] at r
    cases r with
    | cons e t =>
      obtain ⟨t', rfl⟩ := e
      exact ReadsAll.cons (as := []) (bs := []) (.int k t') (readsAll_ints t)
theorem reads_key {L : Ads} {k : List Int} {b : Addr} (I : Inv X pins σ H s) (g : Dv X.K H L (tI k) (.ref b)) : Reads s.heap (.ref b) (tI k) [] := by
  obtain ⟨a, vs, e, sq, w⟩ := g.tuple
  cases e
  rw [w.ints] at sq
  obtain ⟨its, r, ⟨o, e1, e2, n, e3⟩, _⟩ := I.tuple sq
  exact .tuple e1 e2 e3 (by simpa using readsAll_ints r)
theorem each_of {α β γ : Type} {R : β → γ → Prop} (f : α → β) (g : α → γ) : ∀ (l : List α), (∀ a ∈ l, R (f a) (g a)) → PySem.W.EachIs R (l.map f) (l.map g)
  | [], _ => .nil
  | a :: l, h => .cons (h a List.mem_cons_self) (each_of f g l fun b hb => h b (List.mem_cons_of_mem _ hb))
theorem each_refs : ∀ {out : List Value} {xs : List Ent3}, PySem.W.EachIs (fun v (x : Ent3) => v = .ref x.2.1) out xs → out = xs.map fun x => .ref x.2.1
  | _, _, .nil => rfl
  | _, _, .cons e t => by rw [e, each_refs t]; rfl
theorem vals_addr (xs : List Ent3) : Vals (xs.map fun x => V.ref x.2.1) (xs.map fun x => Value.ref x.2.1) := by
  induction xs with
  | nil => exact .nil
  | cons x xs ih => exact .cons rfl ih
def rSortR (K : PySem.W.Frag) : List V → List V → Hp → VK → Prop := fun vs zs H Q => ∃ a xs es L, vs = [.ref a] ∧ zs = [.bl true] ∧ IsDct H a xs ∧ Dvk K H L es xs ∧ (∀ x ∈ xs, x.1 ≠ []) ∧
  ∀ p, H p = none → Q (.ref p) (upd H p (.lst ((xs.mergeSort leK).map fun x => .ref x.2.1)))
theorem cr_sortR (hc : X.calm = true) (hu : X.A.units + 64 < cLine) : CallRK X (.builtin "sorted") [Str.ofString "reverse"] (rSortR X.K) := by
  rintro pins s σ H vs zs us ws Q I r rz ⟨a, xs, es, L, rfl, rfl, g1, g2, ne, q⟩
  obtain rfl := Vals.ref1 r
  obtain ⟨w1, rfl, e1⟩ := vals1 rz
  obtain rfl : w1 = Value.bool true := e1
  obtain ⟨o, es0, ep, ht, nm, hx, hdt, hes, nd, hz⟩ := id g1
  have ho : s.heap.get? a = some o := (show ObjOk X.prog X.w H s.heap a (DictO a o) from I.hok a _ ht).1
  have sz : es0.size = xs.length := by rw [← Array.length_toList, hes, List.length_map]
  refine PyProof.Rows.call_function_entry_kw PyProof.Rows.kind_sorted PyProof.Rows.plain_sorted PyProof.Rows.entry_sorted (PyProof.Rows.args_sorted_rev _ _) ?_
  unfold Builtin.«sorted»
  refine wpAny_bind (m := checkCount "sorted" 1 1 _) (wpAny_pure ?_)
  refine wpAny_bind (PySem.W.kdu_collect (A := X.A.in1) (kdl_raw nm hx hdt) (I.ok.hd hc) ho (by omega) fun h' tk acc hk hacc => ?_)
  have ea : acc.toList = xs.map fun x => Value.ref x.2.1 := by
    have hl : acc.toList.length = xs.length := by rw [Array.length_toList, hacc.1]; exact sz
    apply List.ext_getElem?
    intro j
    rw [List.getElem?_map]
    cases hj : acc.toList[j]? with
    | none =>
      have := List.getElem?_eq_none_iff.mp hj
      rw [List.getElem?_eq_none (by omega)]; rfl
    | some v =>
      obtain ⟨en, hen, rfl⟩ := hacc.2 j v (by rw [← Array.getElem?_toList]; exact hj)
      have e2 : es0.toList[j]? = some en := by rw [Array.getElem?_toList]; exact hen
      rw [hes, List.getElem?_map] at e2
      cases hb : xs[j]? with
      | none => rw [hb] at e2; cases e2
      | some b => rw [hb] at e2; cases e2; rfl
  have I1 : Inv X pins σ H { s with heap := h', toks := tk } := I.kept hk
  have len : acc.toList.length = xs.length := by rw [ea, List.length_map]
  refine wpAny_bind (wpAny_newList ?_ (by rw [len]; exact hz))
  have hoL : (h'.push (seqObj "list" acc.toList.toArray 0)).get? h'.objs.size = some (seqObj "list" acc.toList.toArray 0) := Heap.get?_push_size _ rfl
  have I2 : Inv X pins σ H { s with heap := h'.push (seqObj "list" acc.toList.toArray 0), toks := tk } := I1.kept fun b u e => Heap.get?_push_of_some _ e
  show wpAny _ _ _ _ _ { s with heap := h'.push (seqObj "list" acc.toList.toArray 0), toks := tk }
  have dall : ∀ x ∈ xs, ∀ y ∈ xs, PySem.W.alike (tI x.1) (tI y.1) = true := fun x _ y _ => by
    show PySem.W.alike (.tuple (x.1.map .int)) (.tuple (y.1.map .int)) = true
    simp [PySem.W.alike, PySem.W.alike_ints]
  refine wpAny_bind (wpAny_holding (PySem.W.list_sort_rev_data (s := { s with heap := h'.push (seqObj "list" acc.toList.toArray 0), toks := tk }) (b := true) (bs := xs) (enc := fun x => tI x.1) (R := fun v (x : Ent3) => v = .ref x.2.1) hoL ?_ ?_ ?_ ?_ hz ?_ fun out ol eo => ?_))
  · rw [ea]
    have := each_of (R := fun (v : Value) (x : Ent3) => v = .ref x.2.1) (fun x : Ent3 => Value.ref x.2.1) id xs fun _ _ => rfl
    rwa [List.map_id] at this
  · have := each_of (R := fun (v : Value) (x : Ent3) => ∃ as, Reads (h'.push (seqObj "list" acc.toList.toArray 0)) v (tI x.1) as ∧ h'.objs.size ∉ as) (fun x : Ent3 => Value.ref x.2.1) id xs fun x hx => ⟨[], reads_key I2 (g2.keys x hx), by simp⟩
    rw [List.map_id, ← ea] at this
    exact this
  · intro d hd d' hd'
    obtain ⟨x, hx, rfl⟩ := List.mem_map.mp hd
    obtain ⟨y, hy, rfl⟩ := List.mem_map.mp hd'
    exact dall x hx y hy
  · refine .inl fun d hd => ?_
    obtain ⟨x, hx, rfl⟩ := List.mem_map.mp hd
    cases hk : x.1 with
    | nil => exact absurd hk (ne x hx)
    | cons k r => exact ⟨.int k, r.map .int, rfl⟩
  · intro x hx
    have : (tI x.1).depth = 1 := by
      show PyData.depthAll (x.1.map .int) + 1 = 1
      rw [PySem.W.depth_ints]
    have u1 : X.A.in1.units ≤ X.A.units + 1 := Nat.le_refl _
    rw [this]
    omega
  · rw [leK_data] at eo
    have eo := each_refs eo
    obtain ⟨e', he'⟩ := PyProof.Rows.sortedHeap_at (vs := acc.toList) (out := out.toArray) hoL
    have hlen : ((xs.mergeSort leK).map fun x => V.ref x.2.1).length ≤ sizeLine := by
      rw [List.length_map, List.length_mergeSort]; exact hz
    refine wpAny_pure ⟨_, rfl, .ref h'.objs.size, upd H h'.objs.size (.lst ((xs.mergeSort leK).map fun x => .ref x.2.1)), I1.laid (t' := tk) (fun b u e => ?_) (Nat.le_refl _) (show ObjOk X.prog X.w _ _ _ (.lst ((xs.mergeSort leK).map fun x => .ref x.2.1)) from ⟨hlen, out, e', by rw [eo]; exact vals_addr _, he'⟩), rfl, q _ (I1.hok.fresh (Nat.le_refl _))⟩
    have hb : b < h'.objs.size := Heap.lt_size e
    rw [PyProof.Rows.sortedHeap_old (Nat.ne_of_lt hb) (by rw [size_push']; exact Nat.lt_succ_of_lt hb)]
    exact Heap.get?_push_of_some _ e
end
theorem keysI_of {K : PySem.W.Frag} {H : Hp} {L : Ads} : ∀ {es : List (D × D)} {xs : List Ent3}, Dvk K H L es xs → keysI es = some (xs.map (·.1))
  | _, _, .nil => rfl
  | _, _, @Dvk.cons _ _ _ k b u d v es xs g r x t => by
    have e : intsOf (k.map .int) = some k := by
      clear g
      induction k with
      | nil => rfl
      | cons i k ih => show (intsOf (k.map .int)).map (i :: ·) = _; rw [ih]; rfl
    show (match intsOf (k.map .int), keysI es with | some k, some ks => some (k :: ks) | _, _ => none) = _
    rw [e, keysI_of t]; rfl
theorem dvs_keys {K : PySem.W.Frag} {H : Hp} {L : Ads} : ∀ (ys : List Ent3), (∀ x ∈ ys, Dv K H L (tI x.1) (.ref x.2.1)) → Dvs K H L (ys.map fun x => tI x.1) (ys.map fun x => V.ref x.2.1)
  | [], _ => .nil
  | y :: ys, h => .cons (h y List.mem_cons_self) (dvs_keys ys fun x hx => h x (List.mem_cons_of_mem _ hx))
section
variable {X : Cx} {W : WXm} {a : Expr} {pos p1 cp kp : Pos} {k : Nat} {ra : Mu → Rs D}
theorem jf_sortR (hc : X.calm = true) (hu : X.A.units + 64 < cLine) (hg : Gl X "sorted") (hm : X.mg "sorted" = none) (ha : JP X W a ra) (hs : isStar a = false) :
    JF X W (.Call (.Name "sorted" p1) [a] [⟨some "reverse", .Constant (.bool true) k cp, kp⟩] pos) fun μ => (ra μ).bind fun x μ1 => Rs.opt (sortD x) μ1 := by
  refine pe_mono (pe_callBK (cr_sortR hc hu) hg hm (by decide +kernel) (pa_cons ha pa_nil (starEach_cons hs _ _)) (pk_cons pe_bl pk_nil) (by decide) (by decide +kernel) (by rw [starEach_cons hs]; rfl) (backTo_plain (by simp [hs])) rfl rfl rfl) fun σ H Q ⟨c, L, M, μ, S, p⟩ => ⟨c, L, M, μ, S, Pst.bindF p fun x μ1 v H1 e0 S1 k1 d1 p1 => ?_⟩
  cases hz : sortD x with
  | none => rw [hz] at p1; exact p1.elim
  | some z =>
    rw [hz] at p1
    unfold sortD at hz
    split at hz
    · rename_i es
      have d1 : Dw X.K H1 L (.dict es) v := d1
      obtain ⟨a0, xs, rfl, g1, g2⟩ := d1.dct
      rw [keysI_of g2] at hz
      simp only at hz
      split at hz
      · rename_i hne
        cases hz
        refine ⟨a0, xs, es, L, rfl, rfl, g1, g2, fun y hy he => ?_, fun q hq => ?_⟩
        · rw [List.all_eq_true] at hne
          have := hne y.1 (List.mem_map.mpr ⟨y, hy, rfl⟩)
          rw [he] at this; cases this
        · have w := dvs_keys (K := X.K) (H := H1) (L := L) (xs.mergeSort leK) fun y hy => g2.keys y (List.mem_mergeSort.mp hy)
          obtain ⟨n1, n2, n3, n4, n5, n6⟩ := S1.newF w hq
          have e : ((sortK (xs.map (·.1))).map fun k => PyData.tuple (k.map .int)) = (xs.mergeSort leK).map fun x => tI x.1 := by
            rw [← sort_map, List.map_map]; rfl
          rw [e] at p1
          exact p1 _ _ n1 n2 n3 n4 n5 n6
      · cases hz
    · cases hz
end
/-! ## dict(t), t a tuple of pairs -/
theorem nodup_stored {xs : List Ent3} (nd : (xs.map (·.1)).Nodup) (k : List Int) (b : Addr) (u : Value) : ((storedH xs k b u).map (·.1)).Nodup := by
  cases h : atKey xs k with
  | some p => rw [storedH_old h, keys_map_putAt]; exact nd
  | none =>
    rw [storedH_new h, List.map_append]
    refine List.nodup_append.mpr ⟨nd, by simp, ?_⟩
    intro a ha c hc e
    simp at hc
    subst e hc
    obtain ⟨x, hx, ex⟩ := List.mem_map.mp ha
    unfold atKey at h
    rw [Option.map_eq_none_iff, List.find?_eq_none] at h
    exact h x hx (by simp [ex])
section
variable {X : Cx} {pins : List (Addr × Obj)} {σ : L2.St} {H : Hp} {s : Shared}
/-- a pair of a poly -/
structure Pr (K : PySem.W.Frag) (H : Hp) (L : Ads) (h : Heap) (e : D × D) (T : Addr) (x : Ent3) : Prop where
  ky : e.1 = tI x.1
  kd : Dv K H L (tI x.1) (.ref x.2.1)
  vd : ∃ v, RelV v x.2.2 ∧ Dv K H L e.2 v
  at_ : h.IsTuple T #[.ref x.2.1, x.2.2]
inductive Prs (K : PySem.W.Frag) (H : Hp) (L : Ads) (h : Heap) : List (D × D) → List Addr → List Ent3 → Prop
  | nil : Prs K H L h [] [] []
  | cons {e : D × D} {T : Addr} {x : Ent3} {es : List (D × D)} {Ts : List Addr} {xs : List Ent3} : Pr K H L h e T x → Prs K H L h es Ts xs → Prs K H L h (e :: es) (T :: Ts) (x :: xs)
theorem pairsD_cons {d : D} {ds : List D} {es : List (D × D)} (h : pairsD (d :: ds) = some es) : ∃ k v es', d = .tuple [tI k, v] ∧ pairsD ds = some es' ∧ es = (tI k, v) :: es' := by
  unfold pairsD at h
  split at h
  · rename_i q; cases q
  · rename_i r k0 v0 q
    obtain ⟨e1, e2⟩ := List.cons.inj q
    subst e1 e2
    split at h
    · rename_i hk
      obtain ⟨k, hk'⟩ := isKey_of hk
      subst hk'
      cases hp : pairsD ds with
      | none => rw [hp] at h; cases h
      | some es' => rw [hp] at h; cases h; exact ⟨k, _, es', rfl, rfl, rfl⟩
    · cases h
  · cases h
theorem vals_refs_inv : ∀ {Ts : List Addr} {its : List Value}, Vals (Ts.map V.ref) its → its = Ts.map Value.ref
  | [], _, r => by rw [List.map_nil] at r; cases r; rfl
  | T :: Ts, _, r => by
    rw [List.map_cons] at r
    cases r with
    | cons e t => cases e; rw [vals_refs_inv t]; rfl
theorem prs_of {L : Ads} (I : L2.Inv X pins σ H s) : ∀ {ds : List D} {vs : List V} {es : List (D × D)}, Dvs X.K H L ds vs → pairsD ds = some es → ∃ Ts xs, vs = Ts.map V.ref ∧ Prs X.K H L s.heap es Ts xs
  | _, _, es, .nil, e => by cases e; exact ⟨[], [], rfl, .nil⟩
  | _, _, es, @Dvs.cons _ _ _ d v ds vs w t, e => by
    obtain ⟨k, v0, es', rfl, hp, rfl⟩ := pairsD_cons e
    obtain ⟨Ts, xs, rfl, ps⟩ := prs_of I t hp
    obtain ⟨T, us, rfl, sq, wu⟩ := w.tuple
    cases wu with
    | cons wk wr =>
      cases wr with
      | cons wv wn =>
        cases wn
        obtain ⟨b, rfl⟩ := Dv.tI_ref wk
        obtain ⟨its, rv, ⟨o, e1, e2, n, e3⟩, _⟩ := I.tuple sq
        cases rv with
        | cons rk rt =>
          cases rt with
          | cons ru rn =>
            cases rn
            cases rk
            exact ⟨T :: Ts, (k, b, _) :: xs, rfl, .cons ⟨rfl, wk, ⟨_, ru, wv⟩, o, e1, e2, n, e3⟩ ps⟩
theorem Prs.len {K : PySem.W.Frag} {L : Ads} {h : Heap} : ∀ {es : List (D × D)} {Ts : List Addr} {xs : List Ent3}, Prs K H L h es Ts xs → es.length = xs.length ∧ Ts.length = xs.length
  | _, _, _, .nil => ⟨rfl, rfl⟩
  | _, _, _, .cons _ t => by
    obtain ⟨a, b⟩ := Prs.len t
    exact ⟨congrArg (· + 1) a, congrArg (· + 1) b⟩
theorem Prs.at {K : PySem.W.Frag} {L : Ads} {h : Heap} : ∀ {es : List (D × D)} {Ts : List Addr} {xs : List Ent3} {j : Nat} {x : Ent3}, Prs K H L h es Ts xs → xs[j]? = some x → ∃ T, Ts[j]? = some T ∧ h.IsTuple T #[.ref x.2.1, x.2.2] ∧ Dv K H L (tI x.1) (.ref x.2.1)
  | _, _, _, _, _, .nil, e => by simp at e
  | _, _, _, 0, _, .cons p _, e => by simp at e; subst e; exact ⟨_, rfl, p.at_, p.kd⟩
  | _, _, _, j + 1, x, .cons _ t, e => by
    obtain ⟨T, a, b⟩ := Prs.at (j := j) (x := x) t (by simpa using e)
    exact ⟨T, by simpa using a, b⟩
theorem Prs.fold {K : PySem.W.Frag} {L : Ads} {h : Heap} : ∀ {es acc : List (D × D)} {Ts : List Addr} {xs ac : List Ent3}, Prs K H L h es Ts xs → Dvk K H L acc ac → (ac.map (·.1)).Nodup → Dvk K H L (es.foldl (fun c p => dput c p.1 p.2) acc) (PySem.storedAllH ac xs) ∧ ((PySem.storedAllH ac xs).map (·.1)).Nodup
  | _, _, _, _, _, .nil, w, nd => ⟨w, nd⟩
  | (e1, e2) :: es, acc, _, _, ac, @Prs.cons _ _ _ _ _ T x _ Ts xs p t, w, nd => by
    obtain ⟨k, b, u⟩ := x
    obtain ⟨v, r, d⟩ := p.vd
    have ky : e1 = tI k := p.ky
    subst ky
    have := Prs.fold (acc := dput acc (tI k) e2) (ac := storedH ac k b u) t (w.put nd p.kd r d) (nodup_stored nd _ _ _)
    exact this
theorem storedAll_len : ∀ (ps ac : List Ent3), (PySem.storedAllH ac ps).length ≤ ac.length + ps.length
  | [], ac => Nat.le_refl _
  | p :: ps, ac => by
    have h1 := storedAll_len ps (storedH ac p.1 p.2.1 p.2.2)
    have h2 := storedH_len ac p.1 p.2.1 p.2.2
    show (PySem.storedAllH (storedH ac p.1 p.2.1 p.2.2) ps).length ≤ _
    rw [List.length_cons]; omega
def rDictT (K : PySem.W.Frag) : List V → Hp → VK → Prop := fun vs H Q => ∃ a ds es L, vs = [.ref a] ∧ Dv K H L (.tuple ds) (.ref a) ∧ ds.length ≤ sizeLine ∧ pairsD ds = some es ∧ ∀ p o ys, H p = none → IsDct (upd H p (DictO p o)) p ys → Dvk K H L (dictD es) ys → Q (.ref p) (upd H p (DictO p o))
theorem call_dictT (hc : X.calm = true) (hu : X.A.units + 64 < cLine) : CallR X (.type "dict") (rDictT X.K) := by
  rintro pins s σ H vs us Q I r ⟨a, ds, es, L, rfl, w, hz, hp, q⟩
  obtain ⟨u, rfl, rx⟩ := vals1 r
  cases rx
  have seq : ∃ its ws, PySem.PlainSeq "tuple" s.heap a (List.toArray its) ∧ Vals ws its ∧ Dvs X.K H L ds ws := by
    cases w with
    | tup n t sd =>
      obtain ⟨i0, m0, h1⟩ := t
      obtain ⟨e1, _, its, rv, o', e2, c, m, dd⟩ := (show ObjOk X.prog X.w H s.heap a (.frz _ (.tup _)) from I.hok a _ h1)
      rw [e1] at e2
      cases e2
      exact ⟨its, _, ⟨_, m, e1, rfl, rfl, dd⟩, rv, sd⟩
    | tupK t sd =>
      obtain ⟨its, m, h1, h5, h6⟩ := t
      exact ⟨its.toList, _, ⟨_, m, I.kIn a _ h1, rfl, rfl, by rw [Array.toArray_toList]⟩, h6, sd⟩
  obtain ⟨its, ws, pl, rv, sd⟩ := seq
  obtain ⟨Ts, xs, rfl, ps⟩ := prs_of I sd hp
  have lt : Ts.length = xs.length := ps.len.2
  cases vals_refs_inv rv
  have items : PySem.PairItems s.heap (List.toArray (Ts.map Value.ref)) (fun j => Ts.getD j 0) (xs.map fun x => (Value.ref x.2.1, x.2.2)) := by
    refine ⟨by simp [lt], fun j kk vv hj => ?_⟩
    rw [List.getElem?_map] at hj
    cases hx : xs[j]? with
    | none => rw [hx] at hj; cases hj
    | some x =>
      rw [hx] at hj; cases hj
      obtain ⟨T, h1, h2, _⟩ := ps.at hx
      refine ⟨?_, .inl ?_⟩
      · rw [List.getElem?_toArray, List.getElem?_map, h1]; simp [List.getD, h1]
      · simpa [List.getD, h1] using h2
  have P := PySem.PairArg.tuple (prog := X.prog) (w := X.w) a (List.toArray (Ts.map Value.ref)) (fun j => Ts.getD j 0) (xs.map fun x => (Value.ref x.2.1, x.2.2))
  have n0 : (xs.map fun x : Ent3 => (Value.ref x.2.1, x.2.2)).length = xs.length := List.length_map _
  have hz' : xs.length ≤ sizeLine := by rw [← lt]; have := sd.length; rw [List.length_map] at this; omega
  refine PySem.call_dict_pairsH (knd := tupleKind (intKind X.prog X.w)) (ps := xs) P (I.ok.hd hc) (by show X.A.units + 1 + 1 < cLine; omega) ⟨pl, items⟩ ⟨n0.symm, fun i key v h => ?_⟩ (fun h' kk x hx => ?_) (by rw [n0]; exact hz') fun h' tk dd kk => ?_
  · rw [PySem.PairRel, List.getElem?_map] at h
    cases hx : xs[i]? with
    | none => rw [hx] at h; cases h
    | some x => rw [hx] at h; cases h; exact ⟨x.1, x.2.1, rfl, rfl⟩
  · obtain ⟨j, hj⟩ := List.mem_iff_getElem?.mp hx
    obtain ⟨T, _, _, kd⟩ := ps.at hj
    obtain ⟨o, items, n, e1, e2⟩ := inv_key I kd
    exact ⟨o, items, n, kk _ _ (Nat.ne_of_lt (Heap.lt_size e1)) (by simp) e1, e2⟩
  · obtain ⟨o, es', ep, hq, h2, h3, h4, _, h5⟩ := dd
    obtain ⟨wk, _⟩ := ps.fold (acc := []) (ac := []) .nil List.nodup_nil
    refine ⟨.ref s.heap.objs.size, upd H s.heap.objs.size (DictO s.heap.objs.size o), I.laid (t' := tk) (fun b ob e => kk b ob (by simp) e) (Nat.le_refl _) (objOk_dct hq), rfl, q _ o _ (I.hok.fresh (Nat.le_refl _)) ⟨o, es', ep, upd_same, beq_eq_false_iff_ne.mpr (Ne.symm (Nat.ne_of_lt I.big)), h2, h3, h4, h5, ?_⟩ wk⟩
    have := storedAll_len xs []
    simp at this
    omega
end
section
variable {X : Cx} {W : WXm} {a : Expr} {pos p1 : Pos} {ra : Mu → Rs D}
theorem jf_dictOf (hc : X.calm = true) (hu : X.A.units + 64 < cLine) (hg : Gl X "dict") (hm : X.mg "dict" = none) (ha : JE X W a ra) (hs : isStar a = false) :
    JF X W (.Call (.Name "dict" p1) [a] [] pos) fun μ => (ra μ).bind fun x μ1 => Rs.opt (dictOfD x) μ1 := by
  refine pe_mono (pe_callTy (call_dictT hc hu) hg hm (by decide +kernel) (pa_cons ha pa_nil (starEach_cons hs _ _)) (by decide) (by decide +kernel) (starEach_cons hs _ _) rfl) fun σ H Q ⟨c, L, M, μ, S, p⟩ => ⟨c, L, M, μ, S, Pst.bindF p fun x μ1 v H1 e0 S1 k1 d1 p1 => ?_⟩
  cases hz : dictOfD x with
  | none => rw [hz] at p1; exact p1.elim
  | some z =>
    rw [hz] at p1
    unfold dictOfD at hz
    split at hz
    · rename_i ds
      split at hz
      · rename_i hl
        cases hp : pairsD ds with
        | none => rw [hp] at hz; cases hz
        | some es =>
          rw [hp] at hz; cases hz
          have d1 : Dv X.K H1 L (.tuple ds) v := d1
          obtain ⟨a0, _, rfl, _⟩ := d1.tuple
          refine ⟨a0, ds, es, L, rfl, d1, sizeOkN_of hl, hp, fun q o ys hq hd wk => ?_⟩
          exact p1 _ _ (S1.laid hq) (S1.plus hq) (Kp.laid hq) (S1.free hq) (fun b e => by rw [hq] at e; cases e) (.inr ⟨_, ys, rfl, hd, (wk.plus hq).keep (Kp.laid hq)⟩)
      · cases hz
    · cases hz
end
end Mn
set_option Elab.async false
set_option linter.all false
set_option maxRecDepth 100000
set_option autoImplicit false
namespace Mn
open PySem PySem.Spec L2 PyProof.Rows
/-! ## xs.extend(e), t[::s] -/
section
variable {X : Cx} {pins : List (Addr × Obj)} {σ : L2.St} {H : Hp} {s : Shared}
theorem inv_tupE {L : Ads} {ds : List D} {a : Addr} (I : L2.Inv X pins σ H s) (w : Dv X.K H L (.tuple ds) (.ref a)) : ∃ (its : List Value) (ws : List V) (n : Nat), s.heap.get? a = some { cls := .type "tuple", data := .seq its.toArray n } ∧ Vals ws its ∧ Dvs X.K H L ds ws ∧ ws.length ≤ sizeLine := by
  cases w with
  | tup n t sd =>
    obtain ⟨i0, m0, h1⟩ := t
    obtain ⟨e1, z, its, rv, o', e2, c, m, dd⟩ := (show ObjOk X.prog X.w H s.heap a (.frz _ (.tup _)) from I.hok a _ h1)
    rw [e1] at e2
    cases e2
    cases dd
    exact ⟨its, _, _, e1, rv, sd, z⟩
  | tupK t sd =>
    obtain ⟨its, m, h1, h5, h6⟩ := t
    refine ⟨its.toList, _, m, by rw [Array.toArray_toList]; exact I.kIn a _ h1, h6, sd, ?_⟩
    rw [h6.length, Array.length_toList]; exact h5
def rExtE (K : PySem.W.Frag) : V → List V → Hp → VK → Prop := fun x vs H Q => ∃ l b L ds d xs, x = .ref l ∧ vs = [.ref b] ∧ H l = some (.lst xs) ∧ Dv K H L d (.ref b) ∧ seqD d = some ds ∧ xs.length + ds.length ≤ sizeLine ∧ ∀ zs, Dvs K H L ds zs → Q .non (upd H l (.lst (xs ++ zs)))
theorem mt_extE : MtR X "list.extend" (rExtE X.K) := by
  rintro pins s σ H x vs v us Q I rx rv ⟨l, b, L, ds, d, xs, rfl, rfl, hH, w, hs, hz, q⟩
  cases rx
  obtain ⟨u, rfl, ru⟩ := rv.one
  cases ru
  obtain ⟨z, its, n, r, hl, e⟩ := I.lstM hH
  unfold seqD at hs
  split at hs
  · cases hs
    obtain ⟨b', zs, e0, sq, sd⟩ := w.listE
    cases e0
    obtain ⟨_, i2, n2, r2, l2, e2⟩ := inv_sqE I sq
    have sl := sd.length
    have room : its.toArray.size + i2.toArray.size ≤ sizeLine := by rw [List.size_toArray, List.size_toArray]; omega
    refine call_meets F.slot_list_extend ⟨_, e, rfl⟩ F.entry_list_extend (F.args_list_extend_2 _ _) (AutoSeq1.list_extend_list_list_0 l its.toArray n b i2.toArray n2 (by rw [notLongL room, Bool.and_false]; exact Bool.false_ne_true) (by rw [List.size_toArray]; omega) (by omega)) ⟨e, e2, ?_⟩
    exact ⟨.non, _, I.lset (its' := its ++ i2) hH e (by simp) (r.append r2) (by rw [List.length_append]; omega), rfl, q zs sd⟩
  · cases hs
    obtain ⟨i2, zs, n2, e2, r2, sd, _⟩ := inv_tupE I w
    have sl := sd.length
    have rl := r2.length
    have room : its.toArray.size + i2.toArray.size ≤ sizeLine := by rw [List.size_toArray, List.size_toArray]; omega
    refine call_meets F.slot_list_extend ⟨_, e, rfl⟩ F.entry_list_extend (F.args_list_extend_2 _ _) (AutoSeq1.list_extend_list_tuple_0 l its.toArray n b i2.toArray n2 (by rw [notLongL room, Bool.and_false]; exact Bool.false_ne_true) (by rw [List.size_toArray]; omega) (by omega)) ⟨e, e2, ?_⟩
    exact ⟨.non, _, I.lset (its' := its ++ i2) hH e (by simp) (r.append r2) (by rw [List.length_append]; omega), rfl, q zs sd⟩
  · cases hs
end
theorem seqD_ref {K : PySem.W.Frag} {H : Hp} {L : Ads} {d : D} {ds : List D} {v : V} (w : Dv K H L d v) (h : seqD d = some ds) : ∃ b, v = .ref b := by
  unfold seqD at h
  split at h
  · obtain ⟨b, _, rfl, _⟩ := w.list; exact ⟨b, rfl⟩
  · obtain ⟨b, _, rfl, _⟩ := w.tuple; exact ⟨b, rfl⟩
  · cases h
def extR (i : Nat) (re : Mu → Rs D) : Mu → Rs D := fun μ => if ownsL i μ then (re μ).bind fun v μ1 => match extE i v μ1 with
    | some μ2 => .ok .none μ2
    | none => .st
  else .st
section
variable {X : Cx} {W : WXm} {ios : List Nat} {e a : Expr} {pos apos cpos p1 : Pos} {i : Nat} {x : Str} {re ra : Mu → Rs D}
theorem je_ext (hN : X.N[i]? = some x) (hv : Vis X.env.scope x) (hd : (x == ("__debug__" : Str)) = false) (hcd : (x == ("__classdict__" : Str)) = false) (he : JE X W e re) (hs : isStar e = false) (hline : (apos.endLine == cpos.line) = true) :
    JE X W (.Call (.Attribute (.Name x p1) "extend" apos) [e] [] cpos) (extR i re) := by
  refine pe_mono (pe_meth (i := i) PySem.F.slot_list_extend PySem.F.type_list_extend mt_extE hN hv hd hcd (ja_cons he ja_nil hs) (by simp [hs]) (by simp) hline) fun σ H Q ⟨c, L, M, μ, S, p⟩ => ?_
  unfold extR at p
  split at p
  · rename_i h0
    obtain ⟨xs0, h0⟩ := ownsL_of h0
    obtain ⟨a, vs, _, ea, _, eh, _⟩ := S.ownL h0
    refine ⟨.ref a, ea, .inl ⟨rfl, vs, .inl (.inl eh)⟩, c, L, M, μ, S, one_arg_tr p fun d μ1 v H1 S1 w1 p' => ?_⟩
    unfold extE at p'
    split at p'
    · rename_i μ2 e2
      split at e2
      · rename_i xs ys h1 hy
        split at e2
        · rename_i hz
          cases e2
          obtain ⟨a', vs', h2, ea', hM, eh', dv⟩ := S1.ownL h1
          have : a' = a := by rw [ea] at ea'; cases ea'; rfl
          subst this
          obtain ⟨b, rfl⟩ := seqD_ref w1 hy
          refine ⟨a', b, L, ys, d, vs', rfl, rfl, eh', w1, hy, by have := sizeOkN_of hz; rw [← dv.length]; omega, fun zs sd => ?_⟩
          obtain ⟨S2, k2⟩ := S1.putL h2 ea hM (dv.append sd)
          exact p' _ _ S2 k2 .non
        · cases e2
      · cases e2
    · exact p'.elim
  · exact p.elim
theorem js_ext {st : Stmt} {r : Mu → Rs Fl} (h : JS X W ios st fun μ => (extR i re μ).bind fun _ μ1 => .ok .nx μ1) : JS X W ios st fun μ => if ownsL i μ then (re μ).bind fun v μ1 => Rs.nx (extE i v μ1) else .st := by
  rw [show (fun μ => if ownsL i μ then (re μ).bind fun v μ1 => Rs.nx (extE i v μ1) else .st) = fun μ => (extR i re μ).bind fun _ μ1 => .ok .nx μ1 from funext fun μ => by
    unfold extR
    split
    · cases re μ with
      | st => rfl
      | ex _ _ => rfl
      | ok v μ1 =>
        show Rs.nx (extE i v μ1) = (match extE i v μ1 with | some μ2 => Rs.ok PyData.none μ2 | none => .st).bind fun _ μ1 => .ok .nx μ1
        cases extE i v μ1 <;> rfl
    · rfl]
  exact h
end
/-! steps -/
theorem evens_len {α : Type} : ∀ l : List α, (evens l).length = (l.length + 1) / 2
  | [] => by simp [evens]
  | [_] => by simp [evens]
  | _ :: _ :: r => by
    show (evens r).length + 1 = _
    rw [evens_len r]; simp only [List.length_cons]; omega
theorem evens_pick : ∀ (l : List Value), ((List.range ((l.length + 1) / 2)).filterMap fun m => l[m * 2]?) = evens l
  | [] => by simp [evens]
  | [x] => by simp [evens, List.range_succ]
  | x :: y :: r => by
    have e : ((x :: y :: r).length + 1) / 2 = (r.length + 1) / 2 + 1 := by simp only [List.length_cons]; omega
    rw [e, List.range_succ_eq_map, List.filterMap_cons, List.filterMap_map]
    show x :: _ = x :: evens r
    congr 1
    rw [← evens_pick r]
    congr 1
    funext m
    show (x :: y :: r)[(m + 1) * 2]? = _
    rw [show (m + 1) * 2 = m * 2 + 1 + 1 by omega]
    simp
theorem filterMap_some {α β : Type} {f : α → Option β} {g : α → β} : ∀ (l : List α), (∀ a ∈ l, f a = some (g a)) → l.filterMap f = l.map g
  | [], _ => rfl
  | a :: l, h => by rw [List.filterMap_cons, h a List.mem_cons_self, filterMap_some l fun b hb => h b (List.mem_cons_of_mem _ hb)]; rfl
theorem rev_pick (l : List Value) : ((List.range l.length).filterMap fun (m : Nat) => l[((l.length : Int) - 1 + (m : Int) * -1).toNat]?) = l.reverse := by
  have all : ((List.range l.length).filterMap fun (m : Nat) => l[((l.length : Int) - 1 + (m : Int) * -1).toNat]?) = (List.range l.length).map fun m => l.getD (l.length - 1 - m) .none := by
    refine filterMap_some _ fun m hm => ?_
    have hm := List.mem_range.mp hm
    have : ((l.length : Int) - 1 + (m : Int) * -1).toNat = l.length - 1 - m := by omega
    rw [this]
    have h : l.length - 1 - m < l.length := by omega
    simp [List.getD, h]
  rw [all]
  apply List.ext_getElem?
  intro j
  rw [List.getElem?_map]
  by_cases hj : j < l.length
  · rw [List.getElem?_range hj, List.getElem?_reverse hj]
    have h : l.length - 1 - j < l.length := by omega
    simp [List.getD, h]
  · rw [List.getElem?_eq_none (by simpa using hj), List.getElem?_eq_none (by simpa using hj)]
    rfl
theorem Dvs.evens {K : PySem.W.Frag} {H : Hp} {L : Ads} : ∀ {ds : List D} {vs : List V}, Dvs K H L ds vs → Dvs K H L (Mn.evens ds) (Mn.evens vs)
  | _, _, .nil => .nil
  | _, _, .cons x .nil => .cons x .nil
  | _, _, .cons x (.cons _ t) => .cons x (Dvs.evens t)
theorem vals_evens : ∀ {xs : List V} {us : List Value}, Vals xs us → Vals (evens xs) (evens us)
  | _, _, .nil => .nil
  | _, _, .cons x .nil => .cons x .nil
  | _, _, .cons x (.cons _ t) => .cons x (vals_evens t)
/-- what t[::c] picks -/
def pickS (c : Int) (l : List Value) : List Value := if c = 2 then evens l else l.reverse
section
variable {prog : Program} {w : World} {A : Around} {E : Value → Shared → Prop} {s : Shared}
theorem applied_step {sl : Addr} {c : Int} {t : Tok} {n : Nat} {Q : Int × Int × Nat → Shared → Prop} (hs : s.heap.IsSliceOf sl .none .none (.int c t)) (hc : c = 2 ∨ c = -1)
    (h : Q (if c = 2 then 0 else (n : Int) - 1, c, if c = 2 then (n + 1) / 2 else n) s) : wpAny (model prog w) A (Builtin.Slice.sliceApplied (.ref sl) (pure (n : Int))) Q E s := by
  obtain ⟨os, hos, hcs, hds⟩ := id hs
  unfold Builtin.Slice.sliceApplied Builtin.Slice.sliceFields
  refine wpAny_bind (wpAny_bind (wpAny_field hos hds (x := .none) rfl (wpAny_bind (wpAny_field hos hds (x := .none) rfl (wpAny_bind (wpAny_field hos hds (x := .int c t) rfl (wpAny_pure ?_)))))))
  refine wpAny_bind (slicePart_int ?_)
  have c0 : ¬ (((some c).getD 1 == 0) = true) := by rcases hc with rfl | rfl <;> decide
  show wpAny _ _ (if ((some c).getD 1 == 0) = true then _ else _) _ _ s
  rw [if_neg c0]
  refine wpAny_bind (slicePart_none (wpAny_bind (slicePart_none (wpAny_bind (wpAny_pure ?_)))))
  show wpAny _ _ (match Builtin.Slice.sliceAdjust none none c (n : Int) with | (lo, hi) => pure (lo, c, Builtin.Slice.slicePlaces lo hi c)) _ _ s
  rcases hc with rfl | rfl
  · have e : Builtin.Slice.slicePlaces 0 (n : Int) 2 = (n + 1) / 2 := by
      unfold Builtin.Slice.slicePlaces
      rw [if_pos (by decide)]
      split <;> omega
    show wpAny _ _ (pure ((0 : Int), (2 : Int), Builtin.Slice.slicePlaces 0 (n : Int) 2)) _ _ s
    rw [e]
    exact wpAny_pure h
  · have e : Builtin.Slice.slicePlaces ((n : Int) - 1) (-1) (-1) = n := by
      unfold Builtin.Slice.slicePlaces
      rw [if_neg (by decide), show -(-1 : Int) = 1 from rfl, Int.ediv_one]
      split <;> omega
    show wpAny _ _ (pure ((n : Int) - 1, (-1 : Int), Builtin.Slice.slicePlaces ((n : Int) - 1) (-1) (-1))) _ _ s
    rw [e]
    exact wpAny_pure h
theorem pickS_at (c : Int) (hc : c = 2 ∨ c = -1) (l : List Value) : ((List.range (if c = 2 then (l.length + 1) / 2 else l.length)).filterMap fun (m : Nat) => l.toArray[((if c = 2 then 0 else (l.length : Int) - 1) + (m : Int) * c).toNat]?) = pickS c l := by
  rcases hc with rfl | rfl
  · rw [if_pos rfl, if_pos rfl, pickS, if_pos rfl, ← evens_pick l]
    congr 1
    funext m
    rw [List.getElem?_toArray, show ((0 : Int) + (m : Int) * 2).toNat = m * 2 by omega]
  · rw [if_neg (by decide), if_neg (by decide), pickS, if_neg (by decide), ← rev_pick l]
    congr 1
    funext m
    rw [List.getElem?_toArray]
theorem getItem_step {t sl : Addr} {its : List Value} {c : Int} {tk : Tok} {Q : Value → Shared → Prop} (ht : IsTup s.heap t its.toArray) (hs : s.heap.IsSliceOf sl .none .none (.int c tk)) (hc : c = 2 ∨ c = -1)
    (h : Q (.ref s.heap.objs.size) { s with heap := s.heap.push { cls := .type "tuple", data := .seq (pickS c its).toArray } }) (hsz : its.length ≤ sizeLine) : wpAny (model prog w) A (getItem (.ref t) (.ref sl)) Q E s := by
  have fit : sizeOk (.seq (pickS c its).toArray) := by
    show (pickS c its).toArray.size ≤ sizeLine
    rw [List.size_toArray]
    unfold pickS
    split
    · rw [evens_len]; omega
    · rw [List.length_reverse]; exact hsz
  obtain ⟨os, hos, hcs, hds⟩ := id hs
  have hTs : s.TypeIs (.ref sl) "slice" := ⟨os, hos, hcs⟩
  unfold getItem
  try with_reducible refine wpAny_holding ?_
  refine wpAny_bind (wpAny_sequenceKey ht.typeIs (by decide) ?_)
  refine wpAny_bind (wpAny_callSpecial?_slot (name := Str.ofString "__getitem__") ht.typeIs PyProof.Rows.slot_tuple_getitem (wpAny_call_entry PyProof.Rows.slot_tuple_getitem ht.typeIs entry_tuple_getitem ?_ (args_tuple_getitem _ _)))
  show wpAny _ _ (Builtin.Tuple.tupleItemsOf (.ref t) >>= _) _ _ s
  refine wpAny_bind (tupleItemsOf_ ht (wpAny_bind (wpAny_typeOf hTs ?_)))
  rw [if_pos (by decide)]
  have len : its.toArray.size = its.length := by rw [List.size_toArray]
  rw [len]
  refine wpAny_bind (applied_step hs hc ?_)
  have no : ¬ (((if c = 2 then (0 : Int) else (its.length : Int) - 1) == 0 && c == 1 && (if c = 2 then (its.length + 1) / 2 else its.length) == its.length) = true) := by
    rcases hc with rfl | rfl <;> simp
  show wpAny _ _ (if ((if c = 2 then (0 : Int) else (its.length : Int) - 1) == 0 && c == 1 && (if c = 2 then (its.length + 1) / 2 else its.length) == its.length) = true then _ else _) _ _ s
  rw [if_neg no, pickS_at c hc its]
  first
    | exact wpAny_bind (m := Builtin.Tuple.tupleExact _) (wpAny_newObj_type (wpAny_pure ⟨_, rfl, wpAny_pure h⟩) fit)
    | exact wpAny_bind (m := Builtin.Tuple.tupleExact _) (wpAny_newObj_type (wpAny_bind (wpAny_pure (wpAny_pure ⟨_, rfl, wpAny_pure h⟩))) fit)
    | exact wpAny_bind (wpAny_bind (m := Builtin.Tuple.tupleExact _) (wpAny_newObj_type (wpAny_pure (wpAny_pure ⟨_, rfl, wpAny_pure h⟩)) fit))
    | exact wpAny_bind (wpAny_bind (m := Builtin.Tuple.tupleExact _) (wpAny_newObj_type (wpAny_pure ⟨_, rfl, wpAny_pure h⟩) fit))
end
def pickV (c : Int) (l : List V) : List V := if c = 2 then evens l else l.reverse
section
variable {X : Cx} {W : WXm} {a st : Expr} {pos p3 : Pos} {c : Int} {te : TE} {ra : Mu → Rs D}
def tStep (K : PySem.W.Frag) (c : Int) (te : TE) : TE := fun σ H Q => te σ H fun x H1 => ∃ b xs, x = .ref b ∧ SqT K H1 b xs ∧ NewT H1 (pickV c xs) Q
theorem pe_step (he : PE X a te) (hs : PE X st (tC (.int c))) (hc : c = 2 ∨ c = -1) : PE X (.Subscript a (.Slice none none (some st) p3) pos) (tStep X.K c te) := by
  refine ⟨fun pins s σ H Q I h => Subscript_ (thn (he.run pins s σ H _ I h) fun v s1 ⟨x, H1, I1, r1, b, xs, ex, sq, q⟩ => ?_)⟩
  subst ex
  cases r1
  refine wpAny_Slice ?_
  rw [evalPart_none]
  refine wpAny_pure (wpAny_pure ?_)
  rw [evalPart_some]
  refine thn (hs.run pins s1 σ H1 (fun y H2 => y = .int c ∧ H2 = H1) I1 ⟨rfl, rfl⟩) fun vs s2 ⟨y, H2, I2, ry, ey, eh⟩ => ?_
  subst ey eh
  obtain ⟨tk, rfl⟩ := ry
  have I3 : L2.Inv X pins σ H2 { s2 with heap := s2.heap.push { cls := .type "slice", data := .fields #[.none, .none, .int c tk] } } := I2.kept (t' := s2.toks) fun _ _ k => Heap.get?_push_of_some _ k
  obtain ⟨its, r, ht, hz⟩ := I3.tuple sq
  refine tail_any (ops := [.ref b, .ref s2.heap.objs.size]) ht.typeIs PyProof.Rows.slot_tuple_getitem.lookup ?_ (by with_unfolding_all rfl)
  refine getItem_step ht (Heap.IsSliceOf.new _ _ _ _) hc (ep_tup I3 (its := pickS c its) (ys := pickV c xs) ?_ ?_ q) (by rw [← r.length]; exact hz)
  · unfold pickV pickS
    split
    · exact vals_evens r
    · exact r.reverse
  · unfold pickV
    split
    · rw [evens_len]; omega
    · rw [List.length_reverse]; exact hz
theorem je_step (ha : JE X W a ra) (hs : PE X st (tC (.int c))) (hc : c = 2 ∨ c = -1) : JE X W (.Subscript a (.Slice none none (some st) p3) pos) fun μ => (ra μ).bind fun x μ1 => Rs.opt (slStD c x) μ1 := by
  refine pe_mono (pe_step ha hs hc) fun σ H Q ⟨cc, L, M, μ, S, p⟩ => ⟨cc, L, M, μ, S, p.bind fun x μ1 v H1 S1 k1 d1 p1 => ?_⟩
  obtain ⟨z, e, q⟩ := p1.opt
  unfold slStD at e
  split at e
  · rename_i xs
    have d1 : Dv X.K H1 L (.tuple xs) v := d1
    obtain ⟨b, vs, rfl, sq, wa⟩ := d1.tuple
    refine ⟨b, vs, rfl, sq, fun p ti tn hp => ?_⟩
    rcases hc with rfl | rfl
    · rw [if_pos rfl] at e
      cases e
      obtain ⟨h1, h2, h3⟩ := S1.newTup ti tn wa.evens hp
      exact q _ _ h1 h2 h3
    · rw [if_neg (by decide), if_pos rfl] at e
      cases e
      obtain ⟨h1, h2, h3⟩ := S1.newTup ti tn wa.rev hp
      exact q _ _ h1 h2 h3
  · cases e
theorem pe_neg1 {k : Nat} {p1 p2 : Pos} : PE X (.UnaryOp .USub (.Constant (.int 1) k p1) p2) (tC (.int (-1))) := pe_mono (pe_un un_neg pe_int) fun σ H Q h => ⟨1, rfl, h⟩
end
end Mn
set_option Elab.async false
set_option linter.all false
set_option maxRecDepth 100000
set_option autoImplicit false
set_option maxHeartbeats 1000000
namespace Mn
open PySem PySem.Spec L2
/-! ## exceptions of the program's own classes, without fields -/
/-- a class by its name -/
structure NmV (mg : Str → Option Value) (y : Str) (cv : Value) : Prop where
  at_ : mg y = some cv ∨ (mg y = none ∧ bootBuiltins y = some cv ∧ y ≠ "__name__")
  sh : (∃ a, cv = .ref a) ∨ ∃ n, cv = .type n
def vOf : Value → V
  | .ref a => .ref a
  | .type n => .ty n
  | _ => .non
theorem NmV.rel {mg : Str → Option Value} {y : Str} {cv : Value} (h : NmV mg y cv) : RelV (vOf cv) cv ∧ ∀ u, RelV (vOf cv) u → u = cv := by
  rcases h.sh with ⟨a, rfl⟩ | ⟨n, rfl⟩
  · exact ⟨rfl, fun u h => h⟩
  · exact ⟨rfl, fun u h => h⟩
theorem pe_nmv {X : Cx} {y : Str} {cv : Value} {pos : Pos} (h : NmV X.mg y cv) (hg : Gl X y) (hd : (y == ("__debug__" : Str)) = false) : PE X (.Name y pos) (tC (vOf cv)) := by
  rcases h.at_ with e | ⟨e1, e2, e3⟩
  · exact pe_glob hg e h.rel.1 hd
  · exact pe_bltn hg e1 e2 h.rel.1 e3 hd
/-- isinstance(e, (c, ..)), the tuple made here -/
def rIsEt (K : PySem.W.Frag) (D a : Addr) : List V → Hp → VK → Prop := fun xs H Q => ∃ (tp : Addr) (vs : List V) (cs : List Value) (b : Bool), xs = [.ref a, .ref tp] ∧ SqT K H tp vs ∧ (∀ us, Vals vs us → us = cs) ∧ PySem.W.kitAny K (.ref D) cs = some b ∧ Q (.bl b) H
theorem call_isEt {X : Cx} {a D : Addr} {oe : Obj} {pn : List (Addr × Obj)} (C : ExcC X.K D) (hz : Zc (.ref D) none oe) (hf : ∃ vs, oe.data = .fields vs) : CallR (X.suite a ((a, oe) :: pn)) (.builtin "isinstance") (rIsEt X.K D a) := by
  rintro pins s σ H xs us Q I r ⟨tp, vs, cs, b, rfl, sq, hcs, e, q⟩
  cases r with
  | cons rx rr =>
    cases rr with
    | cons rt rr =>
      cases rr
      cases rx
      cases rt
      obtain ⟨hget, _⟩ := I.pin (a, oe) (List.mem_append.mpr (.inl List.mem_cons_self))
      obtain ⟨fv, hv⟩ := hf
      have J : PySem.W.InstAt s.heap a oe D none := by
        obtain ⟨oc, od, oda, osl⟩ := oe
        obtain ⟨h1, h2⟩ := hz
        dsimp only at h1 h2 hv
        subst h1 h2 hv
        exact ⟨hget, rfl, rfl, trivial⟩
      obtain ⟨its, rv, ⟨⟨cls, dd, data, sl⟩, ho, hc, n, hd⟩, _⟩ := I.tuple sq
      cases (show cls = .type "tuple" from hc)
      cases (show data = .seq its.toArray n from hd)
      have ei := hcs its rv
      subst ei
      exact PySem.W.kia_tup (PySem.W.handS_kitx_exc C.hg C.hk C.hs C.hd C.ha C.hn C.ht C.hm) I.kIn J ho e (fun z => nomatch z) fun tk => ⟨.bl b, H, I.kept (t' := tk) fun _ _ z => z, rfl, q⟩
/-- a test of the caught exception; new objects may come -/
def tIsB (i : Nat) (a : Addr) (b : Bool) : TT := fun σ H Q => σ[i]? = some (some (.ref a)) ∧ ∀ H', (∀ c o, H c = some o → H' c = some o) → Q b H'
/-- what is known of a class, as seen from another one: whether it is under it -/
def SupOk (K : PySem.W.Frag) (mg : Str → Option Value) (D : Addr) (sups : List Str) (y : Str) : Prop := ∃ cv, NmV mg y cv ∧ PySem.W.kitOne K (.ref D) cv = some (decide (y ∈ sups))
def htB (sups : List Str) : Ht → Bool
  | .is1 y => decide (y ∈ sups)
  | .isn ys => !(ys.any fun y => decide (y ∈ sups))
def htNames : Ht → List Str
  | .is1 y => [y]
  | .isn ys => ys
/-! the texts of the tests -/
def isNm : List Str → List Expr → Bool
  | [], [] => true
  | y :: ys, .Name z _ :: es => decide (z = y) && isNm ys es
  | _, _ => false
def chkHt (n : Str) : Ht → Expr → Bool
  | .is1 y, .Call (.Name f _) [.Name e _, .Name z _] [] _ => decide (f = "isinstance") && decide (e = n) && decide (z = y)
  | .isn ys, .UnaryOp .Not (.Call (.Name f _) [.Name e _, .Tuple es _ _] [] _) _ => decide (f = "isinstance") && decide (e = n) && isNm ys es && decide (1 ≤ ys.length) && decide (ys.length ≤ 100)
  | _, _ => false
def chkHts (n : Str) : List Ht → List Expr → Bool
  | [], [] => true
  | t :: ts, e :: es => chkHt n t e && chkHts n ts es
  | _, _ => false
section
variable {X : Cx} {a D : Addr} {oe : Obj} {pn : List (Addr × Obj)} {n : Str} {i : Nat} {sups : List Str}
/-- what is needed for the tests -/
structure HtOk (X : Cx) (D : Addr) (sups : List Str) (n : Str) (i : Nat) (ys : List Str) : Prop where
  exc : ExcC X.K D
  nN : X.N[i]? = some n
  vis : Vis X.env.scope n
  d1 : (n == ("__debug__" : Str)) = false
  d2 : (n == ("__classdict__" : Str)) = false
  gi : Gl X "isinstance"
  mi : X.mg "isinstance" = none
  sup : ∀ y ∈ ys, SupOk X.K X.mg D sups y
  gl : ∀ y ∈ ys, Gl X y ∧ (y == ("__debug__" : Str)) = false
theorem pt_is1 {y : Str} {f e z : Str} {p1 p2 p3 pos : Pos} (h : HtOk X D sups n i [y]) (hz : Zc (.ref D) none oe) (hf : ∃ vs, oe.data = .fields vs) (hf1 : f = "isinstance") (he : e = n) (hzy : z = y) :
    PT (X.suite a ((a, oe) :: pn)) (.Call (.Name f p1) [.Name e p2, .Name z p3] [] pos) (tIsB i a (decide (y ∈ sups))) := by
  subst hf1 he hzy
  obtain ⟨cv, nm, k⟩ := h.sup z (by simp)
  obtain ⟨g1, g2⟩ := h.gl z (by simp)
  have nm' : NmV (X.suite a ((a, oe) :: pn)).mg z cv := nm
  have pv : PE (X.suite a ((a, oe) :: pn)) (.Name e p2) (tVar i) := pe_var (X := X.suite a ((a, oe) :: pn)) h.nN h.vis h.d1 h.d2
  have pc : PE (X.suite a ((a, oe) :: pn)) (.Name z p3) (tC (vOf cv)) := pe_nmv (X := X.suite a ((a, oe) :: pn)) nm' g1 g2
  have pe := pe_callB (X := X.suite a ((a, oe) :: pn)) (p := p1) (pos := pos) (call_isE (pn := pn) h.exc hz hf) (show Gl (X.suite a ((a, oe) :: pn)) "isinstance" from h.gi) h.mi (by decide +kernel) (pa_cons pv (pa_cons pc pa_nil (starEach_cons rfl _ _)) (starEach_cons rfl _ _)) (by decide) (by decide) (starEach_cons rfl _ _) (backTo_plain rfl)
  refine pt_mono (pt_val pe fun _ => rfl) fun σ H Q ⟨e1, q⟩ => ?_
  exact ⟨.ref a, e1, vOf cv, cv, decide (z ∈ sups), rfl, nm.rel.2, k, decide (z ∈ sups), rfl, q H fun _ _ h => h⟩
theorem pa_names (hz : Zc (.ref D) none oe) : ∀ (ys : List Str) (es : List Expr), isNm ys es = true → (∀ y ∈ ys, SupOk X.K X.mg D sups y) → (∀ y ∈ ys, Gl X y ∧ (y == ("__debug__" : Str)) = false) →
    ∃ cs : List Value, PA (X.suite a ((a, oe) :: pn)) es (fun σ H Q => Q (cs.map vOf) H) ∧ PySem.W.kitAny X.K (.ref D) cs = some (ys.any fun y => decide (y ∈ sups)) ∧ (∀ us, Vals (cs.map vOf) us → us = cs) ∧ cs.length = ys.length
  | [], [], _, _, _ => ⟨[], pa_nil, rfl, fun us r => by cases r; rfl, rfl⟩
  | y :: ys, e :: es, h, hs, hg => by
    cases e with
    | Name z p =>
      have hh : (decide (z = y) && isNm ys es) = true := h
      rw [Bool.and_eq_true, decide_eq_true_eq] at hh
      obtain ⟨hzy, h5⟩ := hh
      subst hzy
      obtain ⟨cs, p1, p2, p3, p4⟩ := pa_names hz ys es h5 (fun y hy => hs y (List.mem_cons_of_mem _ hy)) fun y hy => hg y (List.mem_cons_of_mem _ hy)
      obtain ⟨cv, nm, k⟩ := hs z List.mem_cons_self
      obtain ⟨g1, g2⟩ := hg z List.mem_cons_self
      have pc : PE (X.suite a ((a, oe) :: pn)) (.Name z p) (tC (vOf cv)) := pe_nmv (X := X.suite a ((a, oe) :: pn)) (show NmV (X.suite a ((a, oe) :: pn)).mg z cv from nm) g1 g2
      refine ⟨cv :: cs, ⟨(pa_cons pc p1 (starEach_cons rfl _ _)).run⟩, ?_, fun us r => ?_, by simp [p4]⟩
      · show (match PySem.W.kitOne X.K (.ref D) cv with | some true => some true | some false => PySem.W.kitAny X.K (.ref D) cs | none => none) = _
        rw [k, List.any_cons]
        cases decide (z ∈ sups) with
        | true => rfl
        | false => exact p2
      · cases r with
        | cons r1 r2 => rw [nm.rel.2 _ r1, p3 _ r2]
    | _ => simp [isNm] at h
  | [], _ :: _, h, _, _ => by simp [isNm] at h
  | _ :: _, [], h, _, _ => by simp [isNm] at h
theorem pt_isn {ys : List Str} {es : List Expr} {f e : Str} {p1 p2 p3 pos pos2 : Pos} {kk : Nat} (h : HtOk X D sups n i ys) (hz : Zc (.ref D) none oe) (hf : ∃ vs, oe.data = .fields vs) (hf1 : f = "isinstance") (he : e = n) (hes : isNm ys es = true) (hl : ys.length ≤ 100) :
    PT (X.suite a ((a, oe) :: pn)) (.UnaryOp .Not (.Call (.Name f p1) [.Name e p2, .Tuple es kk p3] [] pos) pos2) (tIsB i a (!(ys.any fun y => decide (y ∈ sups)))) := by
  subst hf1 he
  obtain ⟨cs, q1, q2, q3, q4⟩ := pa_names (a := a) (pn := pn) hz ys es hes h.sup h.gl
  have pv : PE (X.suite a ((a, oe) :: pn)) (.Name e p2) (tVar i) := pe_var (X := X.suite a ((a, oe) :: pn)) h.nN h.vis h.d1 h.d2
  have ptu := pe_tupE (X := X.suite a ((a, oe) :: pn)) (pos := p3) (k := kk) q1
  have pe := pe_callB (X := X.suite a ((a, oe) :: pn)) (p := p1) (pos := pos) (call_isEt (pn := pn) h.exc hz hf) (show Gl (X.suite a ((a, oe) :: pn)) "isinstance" from h.gi) h.mi (by decide +kernel) (pa_cons pv (pa_cons ptu pa_nil (starEach_cons rfl _ _)) (starEach_cons rfl _ _)) (by decide) (by decide) (starEach_cons rfl _ _) (backTo_plain rfl)
  refine pt_mono (pt_not (pt_val pe fun _ => rfl)) fun σ H Q ⟨e1, q⟩ => ?_
  refine ⟨.ref a, e1, by rw [List.length_map, q4]; exact small_line (by omega), fun p ti tn hp => ?_⟩
  exact ⟨p, cs.map vOf, cs, _, rfl, .inl (Tp.rd ⟨ti, tn, upd_same⟩), q3, q2, _, rfl, q _ fun c o hc => by rw [upd_ne (ne_of_none hc hp)]; exact hc⟩
/-- all the tests -/
theorem pw_hts (hz : Zc (.ref D) none oe) (hf : ∃ vs, oe.data = .fields vs) {pos : Pos} : ∀ (ts : List Ht) (es : List Expr), ts ≠ [] → chkHts n ts es = true → (∀ t ∈ ts, HtOk X D sups n i (htNames t)) → PW (X.suite a ((a, oe) :: pn)) (.BoolOp .And es pos) (tIsB i a (ts.all (htB sups)))
  | [], _, h, _, _ => absurd rfl h
  | t :: ts, [], _, h, _ => by simp [chkHts] at h
  | t :: ts, e :: es, _, h, ok => by
    have h : (chkHt n t e && chkHts n ts es) = true := h
    rw [Bool.and_eq_true] at h
    have okt := ok t List.mem_cons_self
    have one : PT (X.suite a ((a, oe) :: pn)) e (tIsB i a (htB sups t)) := by
      have h1 := h.1
      unfold chkHt at h1
      split at h1
      · simp only [Bool.and_eq_true, decide_eq_true_eq] at h1
        exact pt_is1 okt hz hf h1.1.1 h1.1.2 h1.2
      · simp only [Bool.and_eq_true, decide_eq_true_eq] at h1
        exact pt_isn okt hz hf h1.1.1.1.1 h1.1.1.1.2 h1.1.1.2 h1.2
      · cases h1
    cases ts with
    | nil =>
      cases es with
      | cons _ _ => have := h.2; simp [chkHts] at this
      | nil =>
        rw [List.all_cons, List.all_nil, Bool.and_true]
        exact pw_and1 one
    | cons t2 ts =>
      cases es with
      | nil => have := h.2; simp [chkHts] at this
      | cons e2 es =>
        have rest := pw_hts hz hf (pos := pos) (t2 :: ts) (e2 :: es) (by simp) h.2 fun t ht => ok t (List.mem_cons_of_mem _ ht)
        refine pw_mono (pw_and one rest) fun σ H Q ⟨e1, q⟩ => ⟨e1, fun H' k => ?_⟩
        rw [List.all_cons] at q
        cases hb : htB sups t with
        | true =>
          rw [if_pos rfl]
          rw [hb, Bool.true_and] at q
          exact ⟨e1, fun H2 k2 => q H2 fun c o hc => k2 c o (k c o hc)⟩
        | false =>
          rw [if_neg Bool.false_ne_true]
          rw [hb, Bool.false_and] at q
          exact q H' k
/-! the clause's statements -/
def vK : Mn.D → V
  | .str x => .str x
  | .bool b => .bl b
  | _ => .non
def chkK : Mn.D → Expr → Bool
  | .str x, .Constant (.str y) _ _ => decide (x = y)
  | .bool x, .Constant (.bool y) _ _ => decide (x = y)
  | .none, .Constant .none _ _ => true
  | _, _ => false
theorem pe_const {Y : Cx} {d : Mn.D} {e : Expr} (h : chkK d e = true) : PE Y e (tC (vK d)) ∧ (∀ {K H L}, Dv K H L d (vK d)) ∧ (∀ x p l env, swapsWith e (some (.Name x p)) l env = pure false) := by
  unfold chkK at h
  split at h
  · rw [decide_eq_true_eq] at h; subst h
    exact ⟨pe_str, .str _, fun _ _ _ _ => rfl⟩
  · rw [decide_eq_true_eq] at h; subst h
    exact ⟨pe_bl, .bl _, fun _ _ _ _ => rfl⟩
  · exact ⟨pe_non, .non, fun _ _ _ _ => rfl⟩
  · cases h
def chkIfS (n jn : Str) (h : Hd) : Stmt → Bool
  | .If (.BoolOp .And es _) [.Assign [.Name y _] e _] [] _ => decide (y = jn) && chkK h.v e && chkHts n h.ts es && decide (1 ≤ h.ts.length)
  | _ => false
def chkSu (n jn : Str) (h : Hd) : List Stmt → Bool
  | [.Assign [.Name y _] e _, s] => (match h.pre with
    | some d => decide (y = jn) && chkK d e && chkIfS n jn h s
    | none => false)
  | [s] => (match h.pre with
    | some _ => false
    | none => chkIfS n jn h s)
  | _ => false
/-- what the clause does to the slots -/
def suS (h : Hd) (b : Bool) (σ : L2.St) : L2.St :=
  let σ1 := match h.pre with
    | some d => σ.set h.j (some (vK d))
    | none => σ
  if b then σ1.set h.j (some (vK h.v)) else σ1
def tSu (h : Hd) (a : Addr) (b : Bool) : TS := fun D σ H => σ[h.i]? = some (some (.ref a)) ∧ ∀ H', (∀ c o, H c = some o → H' c = some o) → D.nx (suS h b σ) H'
theorem ps_ifS {hd : Hd} {jn : Str} {st : Stmt} (hz : Zc (.ref D) none oe) (hf : ∃ vs, oe.data = .fields vs) (h : chkIfS n jn hd st = true) (ok : ∀ t ∈ hd.ts, HtOk X D sups n hd.i (htNames t)) (nd : X.N.Nodup) (hj : X.N[hd.j]? = some jn) (lj : Loc X.env.scope jn) (fj : X.fn jn = true ∨ X.env.scope.names.lookup jn = some .local) :
    PS (X.suite a ((a, oe) :: pn)) st (fun D σ H => σ[hd.i]? = some (some (.ref a)) ∧ ∀ H', (∀ c o, H c = some o → H' c = some o) → D.nx (if hd.ts.all (htB sups) then σ.set hd.j (some (vK hd.v)) else σ) H') := by
  unfold chkIfS at h
  split at h
  · rename_i es p0 y p1 e p2 p3
    simp only [Bool.and_eq_true, decide_eq_true_eq] at h
    obtain ⟨⟨⟨rfl, h2⟩, h3⟩, h4⟩ := h
    obtain ⟨pc, _, sw⟩ := pe_const (Y := X.suite a ((a, oe) :: pn)) h2
    have tst := pw_hts (a := a) (pn := pn) hz hf (pos := p0) hd.ts es (fun z => by rw [z] at h4; simp at h4) h3 ok
    have asg := ps_set (X := X.suite a ((a, oe) :: pn)) (pos := p2) (pos' := p1) nd hj lj pc (sw _ _ _ _) fj
    refine ps_mono (ps_if tst.pt (pss_cons asg pss_nil) pss_nil) fun E σ H ⟨e1, q⟩ => ⟨e1, fun H' k => ?_⟩
    have q := q H' k
    cases hb : hd.ts.all (htB sups) with
    | true => rw [hb, if_pos rfl] at q; show (if true = true then _ else _); rw [if_pos rfl]; exact q
    | false => rw [hb, if_neg Bool.false_ne_true] at q; show (if false = true then _ else _); rw [if_neg Bool.false_ne_true]; exact q
  · cases h
theorem pss_su {hd : Hd} {jn : Str} {su : List Stmt} (hz : Zc (.ref D) none oe) (hf : ∃ vs, oe.data = .fields vs) (h : chkSu n jn hd su = true) (ok : ∀ t ∈ hd.ts, HtOk X D sups n hd.i (htNames t)) (nd : X.N.Nodup) (hj : X.N[hd.j]? = some jn) (lj : Loc X.env.scope jn) (fj : X.fn jn = true ∨ X.env.scope.names.lookup jn = some .local) (ij : hd.i ≠ hd.j) :
    PSs (X.suite a ((a, oe) :: pn)) su (tSu hd a (hd.ts.all (htB sups))) := by
  unfold chkSu at h
  split at h
  · rename_i y p1 e p2 s
    split at h
    · rename_i d hp
      simp only [Bool.and_eq_true, decide_eq_true_eq] at h
      obtain ⟨⟨rfl, h2⟩, h3⟩ := h
      obtain ⟨pc, _, sw⟩ := pe_const (Y := X.suite a ((a, oe) :: pn)) h2
      have asg := ps_set (X := X.suite a ((a, oe) :: pn)) (pos := p2) (pos' := p1) nd hj lj pc (sw _ _ _ _) fj
      refine pss_mono (pss_cons asg (pss_cons (ps_ifS (a := a) (pn := pn) hz hf h3 ok nd hj lj fj) pss_nil)) fun E σ H ⟨e1, q⟩ => ?_
      refine ⟨by rw [List.getElem?_set_ne (Ne.symm ij)]; exact e1, fun H' k => ?_⟩
      have q := q H' k
      unfold suS at q
      rw [hp] at q
      exact q
    · cases h
  · split at h
    · cases h
    · rename_i hp
      refine pss_mono (pss_cons (ps_ifS (a := a) (pn := pn) hz hf h ok nd hj lj fj) pss_nil) fun E σ H ⟨e1, q⟩ => ⟨e1, fun H' k => ?_⟩
      have q := q H' k
      unfold suS at q
      rw [hp] at q
      exact q
  · cases h
end
/-! ## the table of classes, among the module's names -/
def strsOf : List D → Option (List Str)
  | [] => some []
  | .str x :: r => (strsOf r).map (x :: ·)
  | _ => none
/-- a class: its number, the names of the classes that it is under -/
def clsOf : D → Option (Nat × List Str)
  | .dict [(.none, .tuple (.int k :: ss))] => (strsOf ss).map fun s => (k.toNat, s)
  | _ => none
def xrG (mg : Str → Option Value) (gls : List (Str × D)) : XRl := fun x cls d _ => d = none ∧ ∃ nm dd sups C, gls.lookup nm = some dd ∧ clsOf dd = some (x.cls, sups) ∧ mg nm = some (.ref C) ∧ cls = .ref C
structure ClsOk (K : PySem.W.Frag) (C : Addr) : Prop where
  ex : PySem.W.excIn K C [.type "ValueError", .type "Exception", .type "BaseException", .type "object"] "ValueError.__new__" = true
  kp : PySem.W.keepIn K (.ref C) = true
  su : PySem.W.subIn K (.ref C) (.type "BaseException") = some true
  ty : PySem.W.typeIn K (.ref C) = some (.type "type")
  xc : ExcC K C
def SupOk2 (K : PySem.W.Frag) (mg : Str → Option Value) (D : Addr) (sups : List Str) (y : Str) : Prop := ∃ cv, NmV mg y cv ∧ PySem.W.kitOne K (.ref D) cv = some (decide (y ∈ sups)) ∧ PySem.W.exmOne K (.ref D) cv = some (decide (y ∈ sups))
def qNames (gls : List (Str × D)) : List Str := "ValueError" :: gls.filterMap fun p => (clsOf p.2).map fun _ => p.1
def tabOk (gls : List (Str × D)) (h : Hd) : Bool := gls.all fun p => match clsOf p.2 with
  | some (k, sups) => decide (h.tab[k]? = some (if h.cn ∈ sups then some (h.ts.all (htB sups)) else none))
  | none => true
theorem lookup_mem {gls : List (Str × D)} {x : Str} {d : D} (h : gls.lookup x = some d) : (x, d) ∈ gls := by
  induction gls with
  | nil => cases h
  | cons p r ih =>
    obtain ⟨y, e⟩ := p
    rw [List.lookup_cons] at h
    split at h
    · rename_i q
      rw [beq_iff_eq] at q
      cases h; subst q; exact List.mem_cons_self
    · exact List.mem_cons_of_mem _ (ih h)
theorem tab_at {gls : List (Str × D)} {hd : Hd} {x : Str} {d : D} {k : Nat} {sups : List Str} (h : tabOk gls hd = true) (hl : gls.lookup x = some d) (hc : clsOf d = some (k, sups)) : hd.tab[k]? = some (if hd.cn ∈ sups then some (hd.ts.all (htB sups)) else none) := by
  have := List.all_eq_true.mp h (x, d) (lookup_mem hl)
  simp only [hc] at this
  exact of_decide_eq_true this
theorem suS_set {h : Hd} {b : Bool} {σ : L2.St} {v : Option V} (ij : h.i ≠ h.j) : suS h b (σ.set h.i v) = (suS h b σ).set h.i v := by
  unfold suS
  cases h.pre with
  | none =>
    cases b with
    | true => exact List.set_comm _ _ ij
    | false => rfl
  | some d =>
    cases b with
    | true =>
      show ((σ.set h.i v).set h.j _).set h.j _ = ((σ.set h.j _).set h.j _).set h.i v
      rw [List.set_comm _ _ ij, List.set_comm _ _ ij]
    | false => exact List.set_comm _ _ ij
end Mn
set_option Elab.async false
set_option linter.all false
set_option maxRecDepth 100000
set_option autoImplicit false
namespace Mn
open PySem PySem.Spec L2
/-! ## the text against the small language -/
structure Cn where
  N : List Str
  sc : Scope
  ios : List Nat
  fn : Str → Bool
def isLoc : Option NameKind → Bool
  | some .local => true
  | _ => false
def isCel : Option NameKind → Bool
  | some .cell => true
  | _ => false
def isFre : Option NameKind → Bool
  | some .free => true
  | _ => false
def isGlo : Option NameKind → Bool
  | some .globalImplicit => true
  | _ => false
def kindB (sc : Scope) (x : Str) : Option NameKind := sc.names.lookup x
def visB (sc : Scope) (x : Str) : Bool := isLoc (kindB sc x) || isCel (kindB sc x) || isFre (kindB sc x)
def glB (sc : Scope) (x : Str) : Bool := isGlo (kindB sc x)
def nmOk (C : Cn) (i : Nat) (x : Str) : Bool := decide (C.N[i]? = some x) && visB C.sc x && !(x == ("__debug__" : Str)) && !(x == ("__classdict__" : Str))
def gnOk (C : Cn) (x : Str) : Bool := glB C.sc x && !(x == ("__debug__" : Str))
/-- a name that is given a value -/
def tnOk (C : Cn) (i : Nat) (x : Str) : Bool := decide (C.N[i]? = some x) && (isLoc (kindB C.sc x) || (isCel (kindB C.sc x) && C.fn x))
def bopB : BOp → Operator → Bool
  | .add, .Add => true | .sub, .Sub => true | .mul, .Mult => true | .fdiv, .FloorDiv => true | .mod, .Mod => true | .pow, .Pow => true
  | _, _ => false
def copB : COp → CmpOp → Bool
  | .eq, .Eq => true | .ne, .NotEq => true | .lt, .Lt => true | .le, .LtE => true | .gt, .Gt => true | .ge, .GtE => true | .isin, .In => true | .notin, .NotIn => true | .isn, .Is => true | .isnot, .IsNot => true
  | _, _ => false
def isIfe : Expr → Bool
  | .IfExp _ _ _ _ => true
  | _ => false
def b1Name : B1 → Str
  | .len => "len" | .abs => "abs" | .all => "all" | .any => "any" | .sum => "sum" | .max => "max" | .min => "min" | .tuple => "tuple" | .repr => "repr" | .str => "str" | .int => "int"
def b2Name : B2 → Str
  | .max => "max" | .min => "min"
mutual
def beqD : D → D → Bool
  | .int i, .int j => decide (i = j)
  | .str x, .str y => decide (x = y)
  | .bool x, .bool y => decide (x = y)
  | .none, .none => true
  | .tuple xs, .tuple ys => beqDs xs ys
  | _, _ => false
def beqDs : List D → List D → Bool
  | [], [] => true
  | x :: xs, y :: ys => beqD x y && beqDs xs ys
  | _, _ => false
end
theorem beqD_noc {x y : D} (h : beqD x y = true) : clsOf x = none := by
  cases x <;> first | rfl | (cases y <;> simp [beqD] at h)
mutual
theorem beqD_eq : ∀ {x y : D}, beqD x y = true → x = y
  | .int i, .int j, h => by unfold beqD at h; rw [of_decide_eq_true h]
  | .str i, .str j, h => by unfold beqD at h; rw [of_decide_eq_true h]
  | .bool i, .bool j, h => by unfold beqD at h; rw [of_decide_eq_true h]
  | .none, .none, h => rfl
  | .tuple xs, .tuple ys, h => by unfold beqD at h; rw [beqDs_eq h]
  | .int _, .str _, h | .int _, .bool _, h | .int _, .none, h | .int _, .tuple _, h | .int _, .list _, h | .int _, .dict _, h => by simp [beqD] at h
  | .str _, .int _, h | .str _, .bool _, h | .str _, .none, h | .str _, .tuple _, h | .str _, .list _, h | .str _, .dict _, h => by simp [beqD] at h
  | .bool _, .int _, h | .bool _, .str _, h | .bool _, .none, h | .bool _, .tuple _, h | .bool _, .list _, h | .bool _, .dict _, h => by simp [beqD] at h
  | .none, .int _, h | .none, .str _, h | .none, .bool _, h | .none, .tuple _, h | .none, .list _, h | .none, .dict _, h => by simp [beqD] at h
  | .tuple _, .int _, h | .tuple _, .str _, h | .tuple _, .bool _, h | .tuple _, .none, h | .tuple _, .list _, h | .tuple _, .dict _, h => by simp [beqD] at h
  | .list _, _, h => by simp [beqD] at h
  | .dict _, _, h => by simp [beqD] at h
theorem beqDs_eq : ∀ {x y : List D}, beqDs x y = true → x = y
  | [], [], _ => rfl
  | x :: xs, y :: ys, h => by
    unfold beqDs at h
    rw [Bool.and_eq_true] at h
    rw [beqD_eq h.1, beqDs_eq h.2]
  | [], _ :: _, h => by simp [beqDs] at h
  | _ :: _, [], h => by simp [beqDs] at h
end
def Es.len : Es → Nat
  | .nil => 0
  | .cons _ r => r.len + 1
def As.len : As → Nat
  | .nil => 0
  | .cons _ r => r.len + 1
/-- targets -/
def chkTs (C : Cn) : List Nat → List Expr → Bool
  | [], es => es.isEmpty
  | i :: is, es => match es with
    | e :: r => (match e with
      | .Name x _ => tnOk C i x && chkTs C is r
      | _ => false)
    | [] => false
def chkT (C : Cn) (t : List Nat) (tup : Bool) (tg : Expr) : Bool := match tup with
  | false => match t, tg with
    | [i], .Name x _ => tnOk C i x
    | _, _ => false
  | true => match tg with
    | .Tuple es _ _ => chkTs C t es
    | _ => false
def isTupE : Expr → Bool
  | .Tuple _ _ _ => true
  | _ => false
def isSetE : Expr → Bool
  | .Set _ _ _ => true
  | _ => false
def ownOf (C : Cn) (t : List Nat) : List (Str × Nat) := t.map fun i => (C.N.getD i "", i)
/-- the frame of a comprehension's block -/
def Cn.blk (C : Cn) (scope : Scope) : Cn := ⟨C.N, relS scope C.sc, C.ios, fun x => scope.names.lookup x == some .cell⟩
section
variable (fns : List Fn) (gls : List (Str × D))
mutual
def chkE : Cn → E → Expr → Bool
  | C, .var i, x => match x with
    | .Name y _ => nmOk C i y
    | _ => false
  | C, .int i, x => match x with
    | .Constant (.int j) _ _ => decide (i = j)
    | _ => false
  | C, .bl i, x => match x with
    | .Constant (.bool j) _ _ => decide (i = j)
    | _ => false
  | C, .str i, x => match x with
    | .Constant (.str j) _ _ => decide (i = j)
    | _ => false
  | C, .non, x => match x with
    | .Constant .none _ _ => true
    | _ => false
  | C, .glob y d, x => match x with
    | .Name z _ => decide (z = y) && gnOk C z && (match gls.lookup y with
      | some d' => beqD d d'
      | none => false)
    | _ => false
  | C, .bin op a b, x => match x with
    | .BinOp ea o eb _ => bopB op o && chkE C a ea && chkE C b eb
    | _ => false
  | C, .neg a, x => match x with
    | .UnaryOp .USub ea _ => chkE C a ea
    | _ => false
  | C, .cmp op a b, x => match x with
    | .Compare ea [o] [eb] _ => copB op o && !behindInMarks o eb && chkP C a ea && chkP C b eb
    | _ => false
  | C, .and es, x => match x with
    | .BoolOp .And xs _ => chkBs C es xs && decide (2 ≤ es.len)
    | _ => false
  | C, .or es, x => match x with
    | .BoolOp .Or xs _ => chkBs C es xs && decide (2 ≤ es.len)
    | _ => false
  | C, .not a, x => match x with
    | .UnaryOp .Not ea _ => chkE C a ea && !isIfe ea
    | _ => false
  | C, .ife c a b, x => match x with
    | .IfExp ec ea eb _ => chkE C c ec && !isIfe ec && chkE C a ea && chkE C b eb
    | _ => false
  | C, .tup es, x => match x with
    | .Tuple xs _ _ => chkEs C es xs && decide (es.len ≤ 1000)
    | _ => false
  | C, .ix a b, x => match x with
    | .Subscript ea eb _ => !isSlice eb && chkP C a ea && chkE C b eb
    | _ => false
  | C, .sl a lo hi, x => match a with
    | .e a' => match x with
      | .Subscript ea (.Slice l h none _) _ => chkE C a' ea && chkO C lo l && chkO C hi h
      | _ => false
    | .pk _ => false
  | C, .slSt a c, x => match x with
    | .Subscript ea (.Slice none none (some st) _) _ => chkE C a ea && (match st with
      | .Constant (.int j) _ _ => decide (c = j) && decide (j = 2)
      | .UnaryOp .USub (.Constant (.int j) _ _) _ => decide (c = -1) && decide (j = 1)
      | _ => false)
    | _ => false
  | C, .fre f, x => chkF C f x
  | C, .call f as, x => match x with
    | .Call (.Name y _) xs [] _ => gnOk C y && (match fns[f]? with
      | some fn => decide (fn.nm = y) && decide (as.len = fn.ps.length) && decide (1 ≤ as.len) && chkAs C as xs
      | none => false)
    | _ => false
  | C, .b1 b p, x => match x with
    | .Call (.Name y _) [ea] [] _ => decide (y = b1Name b) && glB C.sc y && !isStar ea && chkP C p ea
    | _ => false
  | C, .b2 b p q, x => match x with
    | .Call (.Name y _) [ea, eb] [] _ => decide (y = b2Name b) && glB C.sc y && !isStar ea && !isStar eb && chkE C p ea && chkE C q eb
    | _ => false
  | C, .isi a t, x => match x with
    | .Call (.Name y _) [ea, .Name z _] [] _ => decide (y = "isinstance") && glB C.sc y && decide (z = Str.ofString (tyName t)) && glB C.sc z && !isStar ea && chkE C a ea
    | _ => false
  | C, .dix a b, x => match x with
    | .Subscript ea eb _ => !isSlice eb && chkP C a ea && chkE C b eb
    | _ => false
  | C, .get p k d, x => match x with
    | .Call (.Attribute (.Name y py) m apos) [ea, eb] [] cpos => decide (m = "get") && !isStar ea && !isStar eb && (apos.endLine == cpos.line) && chkP C p (.Name y py) && chkE C k ea && chkE C d eb
    | _ => false
  | C, .pop i b, x => match x with
    | .Call (.Attribute (.Name y _) m apos) [eb] [] cpos => decide (m = "pop") && nmOk C i y && !isStar eb && (apos.endLine == cpos.line) && chkE C b eb
    | _ => false
def chkEs : Cn → Es → List Expr → Bool
  | _, .nil, [] => true
  | C, .cons e es, x :: xs => !isStar x && chkE C e x && chkEs C es xs
  | _, _, _ => false
def chkBs : Cn → Es → List Expr → Bool
  | _, .nil, [] => true
  | C, .cons e es, x :: xs => !isIfe x && chkE C e x && chkBs C es xs
  | _, _, _ => false
def chkP : Cn → P → Expr → Bool
  | C, .e e, x => chkE C e x
  | C, .pk i, x => match x with
    | .Name y _ => nmOk C i y
    | _ => false
def chkH : Cn → P → Expr → Bool
  | C, .e (.fre f), x => chkF C f x
  | C, .pk i, x => match x with
    | .Name y _ => nmOk C i y
    | _ => false
  | _, _, _ => false
def chkO : Cn → O → Option Expr → Bool
  | _, .none, none => true
  | C, .some e, some x => chkE C e x
  | _, _, _ => false
def chkA : Cn → A → Expr → Bool
  | C, .v e, x => chkE C e x
  | C, .io i, x => match x with
    | .Name y _ => nmOk C i y
    | _ => false
def chkAs : Cn → As → List Expr → Bool
  | _, .nil, [] => true
  | C, .cons e es, x :: xs => !isStar x && chkA C e x && chkAs C es xs
  | _, _, _ => false
def chkF : Cn → FE → Expr → Bool
  | C, .disp es, x => match x with
    | .List xs _ => chkEs C es xs && decide (es.len ≤ 1000)
    | _ => false
  | C, .comp elt t tup it c, x => match x with
    | .ListComp ex [⟨tg, iter, ifs, n⟩] scope _ => decide (n = 0) && chkI C it tg iter && !isSetE iter && blkC C.N C.sc scope (ownOf C t) && chkT (C.blk scope) t tup tg && chkE (C.blk scope) elt ex && chkO1 (C.blk scope) c ifs
    | _ => false
  | C, .listOf it, x => match it with
    | .rng1 a => match x with
      | .Call (.Name y _) [.Call (.Name z _) [ea] [] _] [] _ => decide (y = "list") && glB C.sc y && decide (z = "range") && glB C.sc z && !isStar ea && chkE C a ea
      | _ => false
    | .seq p => match x with
      | .Call (.Name y _) [ea] [] _ => decide (y = "list") && glB C.sc y && !isStar ea && chkP C p ea
      | _ => false
    | _ => false
  | C, .cat a b, x => match x with
    | .BinOp ea .Add eb _ => chkH C a ea && chkH C b eb
    | _ => false
  | C, .rep a b, x => match x with
    | .BinOp ea .Mult eb _ => chkH C a ea && chkE C b eb
    | _ => false
  | C, .sortedRev p, x => match x with
    | .Call (.Name y _) [ea] [⟨some r, .Constant (.bool true) _ _, _⟩] _ => decide (y = "sorted") && glB C.sc y && decide (r = "reverse") && !isStar ea && chkP C p ea
    | _ => false
  | _, .dict0, x => match x with
    | .Dict [] [] _ => true
    | _ => false
  | C, .dict2 a b c d, x => match x with
    | .Dict [some ea, some ec] [eb, ed] _ => chkE C a ea && chkE C b eb && chkE C c ec && chkE C d ed
    | _ => false
  | C, .dictOf a, x => match x with
    | .Call (.Name y _) [ea] [] _ => decide (y = "dict") && glB C.sc y && !isStar ea && chkE C a ea
    | _ => false
  | C, .call f as, x => match x with
    | .Call (.Name y _) xs [] _ => gnOk C y && (match fns[f]? with
      | some fn => decide (fn.nm = y) && decide (as.len = fn.ps.length) && decide (1 ≤ as.len) && chkAs C as xs
      | none => false)
    | _ => false
/-- the one test of a comprehension -/
def chkO1 : Cn → O → List Expr → Bool
  | _, .none, [] => true
  | C, .some e, [x] => !isIfe x && chkE C e x
  | _, _, _ => false
def chkI : Cn → I → Expr → Expr → Bool
  | C, .seq p, _, x => chkP C p x
  | C, .rng1 a, _, x => match x with
    | .Call (.Name y _) [ea] [] _ => decide (y = "range") && glB C.sc y && !isStar ea && chkE C a ea
    | _ => false
  | C, .rng2 a b, _, x => match x with
    | .Call (.Name y _) [ea, eb] [] _ => decide (y = "range") && glB C.sc y && !isStar ea && !isStar eb && chkE C a ea && chkE C b eb
    | _ => false
  | _, .rng3 _ _ _, _, _ => false
  | C, .zip a b, tg, x => match x with
    | .Call (.Name y _) [ea, eb] [] _ => decide (y = "zip") && glB C.sc y && !isStar ea && !isStar eb && isTupE tg && chkE C a ea && chkE C b eb
    | _ => false
  | _, .enum _, _, _ => false
  | _, .rev _, _, _ => false
  | _, .revr _, _, _ => false
end
/-! statements -/
def isCmp : Expr → Bool
  | .ListComp _ _ _ _ => true
  | .SetComp _ _ _ _ => true
  | .DictComp _ _ _ _ _ => true
  | _ => false
/-- name = e: does the store come within the comprehension? -/
def swB (C : Cn) (x : Str) (ps : Pos) : Expr → Option Bool
  | .ListComp _ [⟨_, _, _, _⟩] scope pos => if isLoc (kindB C.sc x) && (ps.line == pos.line) && !(scope.names.any fun (n, k) => n == x && (k == .local || k == .cell)) then some true else
      if !(isLoc (kindB C.sc x)) then some false else none
  | e => if isCmp e then none else some false
def foldB (a b : Expr) : Bool := !([a, b].all (foldedForSure 8)) && !([a, b].all (constantsAlone 8))
/-- the values that a clause sets are plain ones -/
def chkDs (h : Hd) : Bool := (match h.pre with
  | some (.str _) => true
  | some (.bool _) => true
  | some .none => true
  | none => true
  | _ => false) && (match h.v with
  | .str _ => true
  | .bool _ => true
  | .none => true
  | _ => false)
def foldC (a b c : Expr) : Bool := !([a, b, c].all (foldedForSure 8)) && !([a, b, c].all (constantsAlone 8))
/-- x, y, z = a, b, c -/
def par3B (C : Cn) (is : List Nat) (e : E) (xs : List Expr) (v : Expr) : Bool := match is, e, xs, v with
  | [i, j, l], .tup (.cons a (.cons b (.cons c .nil))), [.Name x px, .Name y py, .Name z pz], .Tuple [ea, eb, ec] _ _ =>
    (decide (C.N[i]? = some x) && decide (C.N[j]? = some y) && decide (C.N[l]? = some z)) && (!(i == j) && !(i == l) && !(j == l)) && (!(x == y) && !(x == z) && !(y == z)) && (isLoc (kindB C.sc x) && isLoc (kindB C.sc y) && isLoc (kindB C.sc z)) && ((px.line == py.line) && (px.line == pz.line)) && (!isStar ea && !isStar eb && !isStar ec) && foldC ea eb ec && (!C.ios.contains i && !C.ios.contains j && !C.ios.contains l) && (chkE fns gls C a ea && chkE fns gls C b eb && chkE fns gls C c ec)
  | _, _, _, _ => false
mutual
def chkS : Cn → S → Stmt → Bool
  | C, .asg i e, s => match s with
    | .Assign [.Name x px] v _ => tnOk C i x && !C.ios.contains i && chkE fns gls C e v && (swB C x px v).isSome
    | _ => false
  | C, .own i f, s => match s with
    | .Assign [.Name x px] v _ => tnOk C i x && !C.ios.contains i && chkF fns gls C f v && (swB C x px v).isSome
    | _ => false
  | C, .par i j a b, s => match s with
    | .Assign [.Tuple [.Name x px, .Name y py] _ _] (.Tuple [ea, eb] _ _) _ => decide (C.N[i]? = some x) && decide (C.N[j]? = some y) && !(i == j) && !(x == y) && isLoc (kindB C.sc x) && isLoc (kindB C.sc y) && (px.line == py.line) && !isStar ea && !isStar eb && foldB ea eb && !C.ios.contains i && !C.ios.contains j && chkE fns gls C a ea && chkE fns gls C b eb
    | _ => false
  | C, .unp is e, s => match s with
    | .Assign [.Tuple xs _ _] v _ => (!isTupE v && !isCmp v && chkTs C is xs && is.all (fun i => !C.ios.contains i) && chkE fns gls C e v) || par3B fns gls C is e xs v
    | _ => false
  | C, .unpL is e, s => match s with
    | .Assign [.Tuple xs _ _] v _ => !isTupE v && chkTs C is xs && is.all (fun i => !C.ios.contains i) && chkE fns gls C e v
    | _ => false
  | C, .seti i k e, s => match s with
    | .Assign [.Subscript (.Name x _) ek _] v _ => nmOk C i x && chkE fns gls C k ek && chkE fns gls C e v && !isCmp v && !isSlice ek
    | _ => false
  | C, .dset i k e, s => match s with
    | .Assign [.Subscript (.Name x _) ek _] v _ => nmOk C i x && chkE fns gls C k ek && chkE fns gls C e v && !isCmp v && !isSlice ek
    | _ => false
  | C, .app i e, s => match s with
    | .Expr (.Call (.Attribute (.Name y _) m apos) [ee] [] cpos) _ => decide (m = "append") && nmOk C i y && !isStar ee && (apos.endLine == cpos.line) && chkE fns gls C e ee
    | _ => false
  | C, .ext i e, s => match s with
    | .Expr (.Call (.Attribute (.Name y _) m apos) [ee] [] cpos) _ => decide (m = "extend") && nmOk C i y && !isStar ee && (apos.endLine == cpos.line) && chkE fns gls C e ee
    | _ => false
  | _, .ins _ _ _, _ => false
  | _, .app2 _ _ _, _ => false
  | C, .ex e, s => match s with
    | .Expr v _ => chkE fns gls C e v && !isCmp v
    | _ => false
  | C, .ife c a b, s => match s with
    | .If ec A B _ => chkE fns gls C c ec && !isIfe ec && chkSs C a A && chkSs C b B
    | _ => false
  | C, .whl c b, s => match s with
    | .While ec B [] _ => chkE fns gls C c ec && !isIfe ec && chkSs C b B
    | _ => false
  | C, .for_ t tup it b, s => match s with
    | .For tg iter B [] _ => chkI fns gls C it tg iter && !isSetE iter && chkT C t tup tg && t.all (fun i => !C.ios.contains i) && chkSs C b B
    | _ => false
  | C, .ret e, s => match s with
    | .Return (some v) _ => chkE fns gls C e v
    | _ => false
  | C, .retF f, s => match s with
    | .Return (some v) _ => chkF fns gls C f v
    | _ => false
  | _, .pass, s => match s with
    | .Pass _ => true
    | _ => false
  | _, .never, _ => true
  | C, .rse c x, s => match s with
    | .Raise (some (.Call (.Name y _) [.Constant (.str _) _ _] [] _)) none _ => decide (y = x) && gnOk C y && (match gls.lookup y with
      | some d => (match clsOf d with
        | some (k, _) => decide (k = c)
        | none => false)
      | none => false)
    | _ => false
  | C, .tryX b h, s => match s with
    | .Try body [.ExceptHandler (some (.Name cn _)) (some n) su _] [] [] _ => decide (cn = h.cn) && gnOk C cn && isLoc (kindB C.sc n) && nmOk C h.i n && !C.ios.contains h.i && !C.ios.contains h.j && !(h.i == h.j) && (match C.N[h.j]? with
      | some jn => tnOk C h.j jn && chkSu n jn h su
      | none => false) && h.ts.all (fun t => (htNames t).all fun y => (qNames gls).contains y && gnOk C y) && (match gls.lookup cn with
      | some d => (clsOf d).isSome
      | none => false) && glB C.sc "isinstance" && tabOk gls h && chkDs h && chkSs C b body
    | _ => false
def chkSs : Cn → Ss → List Stmt → Bool
  | _, .nil, [] => true
  | C, .cons s r, x :: xs => chkS C s x && chkSs C r xs
  | C, .frz i r, xs => !C.ios.contains i && chkSs C r xs
  | _, _, _ => false
end
end
end Mn
set_option linter.all false
set_option maxRecDepth 100000
namespace Lb
open PySem Mn

def f_joined_powers : Fn := ⟨"joined_powers", ["one", "other"], ["one", "other", "here", "there"], [],
(.cons (.ret (.b1 .tuple (.e (.fre (.comp (.bin .add (.var 2) (.var 3)) [2, 3] true (.zip (.var 0) (.var 1)) .none)))))
.nil)⟩
def f_over_powers : Fn := ⟨"over_powers", ["one", "other"], ["one", "other", "here", "there"], [],
(.cons (.ret (.b1 .tuple (.e (.fre (.comp (.bin .sub (.var 2) (.var 3)) [2, 3] true (.zip (.var 0) (.var 1)) .none)))))
.nil)⟩
def f_joint : Fn := ⟨"joint", ["one", "other"], ["one", "other", "here", "there"], [],
(.cons (.ret (.b1 .tuple (.e (.fre (.comp (.b2 .max (.var 2) (.var 3)) [2, 3] true (.zip (.var 0) (.var 1)) .none)))))
.nil)⟩
def f_divides : Fn := ⟨"divides", ["one", "other"], ["one", "other", "here", "there"], [],
(.cons (.ret (.b1 .all (.e (.fre (.comp (.cmp .le (.e (.var 2)) (.e (.var 3))) [2, 3] true (.zip (.var 0) (.var 1)) .none)))))
.nil)⟩
def f_is_ahead : Fn := ⟨"is_ahead", ["order", "one", "other"], ["order", "one", "other", "first", "second", "letter"], [],
(.cons (.asg 3 (.fre (.comp (.ix (.e (.var 1)) (.var 5)) [5] false (.seq (.e (.ix (.e (.var 0)) (.int 1)))) .none)))
(.cons (.asg 4 (.fre (.comp (.ix (.e (.var 2)) (.var 5)) [5] false (.seq (.e (.ix (.e (.var 0)) (.int 1)))) .none)))
(.cons (.ife (.and (.cons (.cmp .eq (.e (.ix (.e (.var 0)) (.int 0))) (.e (.str "total"))) (.cons (.cmp .ne (.e (.b1 .sum (.e (.var 3)))) (.e (.b1 .sum (.e (.var 4))))) .nil)))
(.cons (.ret (.cmp .gt (.e (.b1 .sum (.e (.var 3)))) (.e (.b1 .sum (.e (.var 4))))))
.nil)
.nil)
(.cons (.ret (.cmp .gt (.e (.var 3)) (.e (.var 4))))
.nil))))⟩
def f_l_tape : Fn := ⟨"_law_tape", ["_law_script"], ["_law_script"], [],
(.cons (.retF (.disp (.cons (.sl (.e (.var 0)) .none (.some (.int 63))) (.cons (.int 0) (.cons (.int 0) (.cons (.int 0) .nil))))))
.nil)⟩
def f_l_draw : Fn := ⟨"_law_draw", ["_law_tape_here", "_law_many"], ["_law_tape_here", "_law_many", "_law_script", "_law_spot", "_law_cell", "_law_mixed", "_law_left"], [0],
(.cons (.asg 2 (.ix (.pk 0) (.int 0)))
(.cons (.asg 3 (.ix (.pk 0) (.int 1)))
(.cons (.seti 0 (.int 1) (.bin .add (.var 3) (.int 1)))
(.cons (.whl (.and (.cons (.cmp .eq (.e (.ix (.pk 0) (.int 2))) (.e (.int 0))) (.cons (.cmp .lt (.e (.ix (.pk 0) (.int 3))) (.e (.b1 .len (.e (.var 2))))) .nil)))
(.cons (.ife (.cmp .ge (.e (.b1 .abs (.e (.ix (.e (.var 2)) (.ix (.pk 0) (.int 3)))))) (.e (.bin .pow (.int 10) (.int 18))))
(.cons (.seti 0 (.int 2) (.b1 .abs (.e (.ix (.e (.var 2)) (.ix (.pk 0) (.int 3))))))
.nil)
.nil)
(.cons (.seti 0 (.int 3) (.bin .add (.ix (.pk 0) (.int 3)) (.int 1)))
.nil)))
(.cons (.ife (.cmp .gt (.e (.ix (.pk 0) (.int 2))) (.e (.int 0)))
(.cons (.asg 6 (.ix (.pk 0) (.int 2)))
(.cons (.seti 0 (.int 2) (.bin .fdiv (.var 6) (.var 1)))
(.cons (.ret (.bin .mod (.var 6) (.var 1)))
.nil)))
.nil)
(.cons (.asg 4 (.int 0))
(.cons (.ife (.cmp .gt (.e (.b1 .len (.e (.var 2)))) (.e (.int 0)))
(.cons (.asg 4 (.ix (.e (.var 2)) (.bin .mod (.var 3) (.b1 .len (.e (.var 2))))))
.nil)
.nil)
(.cons (.asg 5 (.bin .mod (.bin .mul (.bin .add (.bin .mod (.var 4) (.int 1000003)) (.int 1)) (.bin .add (.bin .add (.bin .mul (.bin .mod (.var 3) (.int 997)) (.int 7919)) (.int 104729)) (.var 3))) (.int 1000033)))
(.cons (.asg 5 (.bin .mod (.bin .add (.bin .add (.bin .mul (.var 5) (.var 5)) (.bin .mul (.int 3) (.var 5))) (.var 3)) (.int 999983)))
(.cons (.ret (.bin .mod (.bin .mod (.bin .mul (.var 5) (.int 48271)) (.int 65537)) (.var 1)))
.nil))))))))))⟩
def f_l_order (c_l_draw : Nat) : Fn := ⟨"_law_order", ["_law_tape_here", "_law_n"], ["_law_tape_here", "_law_n", "_law_left", "_law_found", "_law_k"], [0],
(.cons (.own 2 (.listOf (.rng1 (.var 1))))
(.cons (.own 3 (.disp .nil))
(.cons (.for_ [4] false (.rng1 (.var 1))
(.cons (.app 3 (.pop 2 (.call c_l_draw (.cons (.io 0) (.cons (.v (.b1 .len (.pk 2))) .nil)))))
.nil))
(.cons (.ret (.tup (.cons (.ix (.e (.fre (.disp (.cons (.str "plain") (.cons (.str "total") .nil))))) (.call c_l_draw (.cons (.io 0) (.cons (.v (.int 2)) .nil)))) (.cons (.b1 .tuple (.pk 3)) .nil))))
.nil))))⟩
def f_l_key : Fn := ⟨"_law_key", ["_law_order_here", "_law_powers_here"], ["_law_order_here", "_law_powers_here", "_law_own", "_law_letter"], [],
(.cons (.asg 2 (.fre (.comp (.ix (.e (.var 1)) (.var 3)) [3] false (.seq (.e (.ix (.e (.var 0)) (.int 1)))) .none)))
(.cons (.ret (.ife (.cmp .eq (.e (.ix (.e (.var 0)) (.int 0))) (.e (.str "total"))) (.bin .add (.fre (.disp (.cons (.b1 .sum (.e (.var 2))) .nil))) (.var 2)) (.var 2)))
.nil))⟩
def f_l_powers (c_l_draw : Nat) : Fn := ⟨"_law_powers", ["_law_tape_here", "_law_n"], ["_law_tape_here", "_law_n", "_law_k"], [0],
(.cons (.ret (.b1 .tuple (.e (.fre (.comp (.ix (.e (.fre (.disp (.cons (.int 0) (.cons (.int 0) (.cons (.int 1) (.cons (.int 2) (.cons (.int 3) (.cons (.int 499) (.cons (.call c_l_draw (.cons (.io 0) (.cons (.v (.int 500)) .nil))) .nil)))))))))) (.call c_l_draw (.cons (.io 0) (.cons (.v (.int 7)) .nil)))) [2] false (.rng1 (.var 1)) .none)))))
.nil)⟩
def f_l_less_by : Fn := ⟨"_law_less_by", ["_law_one", "_law_other"], ["_law_one", "_law_other", "_law_j"], [],
(.cons (.ret (.b1 .tuple (.e (.fre (.comp (.bin .sub (.ix (.e (.var 0)) (.var 2)) (.ix (.e (.var 1)) (.var 2))) [2] false (.rng1 (.b1 .len (.e (.var 0)))) .none)))))
.nil)⟩
def f_l_powers_2 (c_l_draw : Nat) : Fn := ⟨"_law_powers", ["_law_tape_here", "_law_n"], ["_law_tape_here", "_law_n", "_law_k"], [0],
(.cons (.ret (.b1 .tuple (.e (.fre (.comp (.ix (.e (.fre (.disp (.cons (.int 0) (.cons (.int 1) (.cons (.int 2) (.cons (.call c_l_draw (.cons (.io 0) (.cons (.v (.int 4)) .nil))) .nil))))))) (.call c_l_draw (.cons (.io 0) (.cons (.v (.int 4)) .nil)))) [2] false (.rng1 (.var 1)) .none)))))
.nil)⟩
end Lb
set_option linter.all false
set_option maxRecDepth 100000
namespace Lb
open PySem Mn

def f_shared : Fn := ⟨"shared", ["one", "other"], ["one", "other"], [],
(.cons (.whl (.cmp .gt (.e (.var 1)) (.e (.int 0)))
(.cons (.par 0 1 (.var 1) (.bin .mod (.var 0) (.var 1)))
.nil))
(.cons (.ret (.var 0))
.nil))⟩
def f_ratio (c_shared : Nat) : Fn := ⟨"ratio", ["top", "bottom"], ["top", "bottom", "by"], [],
(.cons (.ife (.cmp .eq (.e (.var 1)) (.e (.int 0)))
(.cons (.never)
.nil)
.nil)
(.cons (.asg 2 (.call c_shared (.cons (.v (.b1 .abs (.e (.var 0)))) (.cons (.v (.b1 .abs (.e (.var 1)))) .nil))))
(.cons (.ife (.cmp .lt (.e (.var 1)) (.e (.int 0)))
(.cons (.asg 2 (.bin .sub (.int 0) (.var 2)))
.nil)
.nil)
(.cons (.ret (.tup (.cons (.bin .fdiv (.var 0) (.var 2)) (.cons (.bin .fdiv (.var 1) (.var 2)) .nil))))
.nil))))⟩
def f_plus (c_ratio : Nat) : Fn := ⟨"plus", ["one", "other"], ["one", "other"], [],
(.cons (.ret (.call c_ratio (.cons (.v (.bin .add (.bin .mul (.ix (.e (.var 0)) (.int 0)) (.ix (.e (.var 1)) (.int 1))) (.bin .mul (.ix (.e (.var 1)) (.int 0)) (.ix (.e (.var 0)) (.int 1))))) (.cons (.v (.bin .mul (.ix (.e (.var 0)) (.int 1)) (.ix (.e (.var 1)) (.int 1)))) .nil))))
.nil)⟩
def f_minus (c_plus : Nat) : Fn := ⟨"minus", ["one", "other"], ["one", "other"], [],
(.cons (.ret (.call c_plus (.cons (.v (.var 0)) (.cons (.v (.tup (.cons (.bin .sub (.int 0) (.ix (.e (.var 1)) (.int 0))) (.cons (.ix (.e (.var 1)) (.int 1)) .nil)))) .nil))))
.nil)⟩
def f_times (c_ratio : Nat) : Fn := ⟨"times", ["one", "other"], ["one", "other"], [],
(.cons (.ret (.call c_ratio (.cons (.v (.bin .mul (.ix (.e (.var 0)) (.int 0)) (.ix (.e (.var 1)) (.int 0)))) (.cons (.v (.bin .mul (.ix (.e (.var 0)) (.int 1)) (.ix (.e (.var 1)) (.int 1)))) .nil))))
.nil)⟩
def f_gathered (c_plus : Nat) : Fn := ⟨"gathered", ["terms"], ["terms", "table", "powers", "number"], [],
(.cons (.own 1 .dict0)
(.cons (.for_ [2, 3] true (.seq (.e (.var 0)))
(.cons (.dset 1 (.var 2) (.call c_plus (.cons (.v (.get (.pk 1) (.var 2) (.glob "NOUGHT" (.tuple [.int 0, .int 1])))) (.cons (.v (.var 3)) .nil))))
.nil))
(.cons (.ret (.b1 .tuple (.e (.fre (.comp (.tup (.cons (.var 2) (.cons (.dix (.pk 1) (.var 2)) .nil))) [2] false (.seq (.e (.fre (.sortedRev (.pk 1))))) (.some (.cmp .ne (.e (.dix (.pk 1) (.var 2))) (.e (.glob "NOUGHT" (.tuple [.int 0, .int 1]))))))))))
.nil)))⟩
def f_added (c_gathered : Nat) : Fn := ⟨"added", ["one", "other"], ["one", "other"], [],
(.cons (.ret (.call c_gathered (.cons (.v (.bin .add (.var 0) (.var 1))) .nil)))
.nil)⟩
def f_by_term (c_times c_joined_powers : Nat) : Fn := ⟨"by_term", ["poly", "term"], ["poly", "term", "powers", "number"], [],
(.cons (.ret (.b1 .tuple (.e (.fre (.comp (.tup (.cons (.call c_joined_powers (.cons (.v (.var 2)) (.cons (.v (.ix (.e (.var 1)) (.int 0))) .nil))) (.cons (.call c_times (.cons (.v (.var 3)) (.cons (.v (.ix (.e (.var 1)) (.int 1))) .nil))) .nil))) [2, 3] true (.seq (.e (.var 0))) .none)))))
.nil)⟩
def f_lessened (c_gathered c_minus : Nat) : Fn := ⟨"lessened", ["one", "other"], ["one", "other", "powers", "number"], [],
(.cons (.ret (.call c_gathered (.cons (.v (.bin .add (.var 0) (.b1 .tuple (.e (.fre (.comp (.tup (.cons (.var 2) (.cons (.call c_minus (.cons (.v (.glob "NOUGHT" (.tuple [.int 0, .int 1]))) (.cons (.v (.var 3)) .nil))) .nil))) [2, 3] true (.seq (.e (.var 1))) .none)))))) .nil)))
.nil)⟩
def f_product (c_by_term c_gathered : Nat) : Fn := ⟨"product", ["one", "other"], ["one", "other", "found", "term"], [],
(.cons (.own 2 (.disp .nil))
(.cons (.for_ [3] false (.seq (.e (.var 1)))
(.cons (.ext 2 (.call c_by_term (.cons (.v (.var 0)) (.cons (.v (.var 3)) .nil))))
.nil))
(.frz 2
(.cons (.ret (.call c_gathered (.cons (.v (.var 2)) .nil)))
.nil))))⟩
def f_l_gcd : Fn := ⟨"_law_gcd", ["_law_one", "_law_other"], ["_law_one", "_law_other"], [],
(.cons (.whl (.cmp .ne (.e (.var 1)) (.e (.int 0)))
(.cons (.par 0 1 (.var 1) (.bin .mod (.var 0) (.var 1)))
.nil))
(.cons (.ret (.var 0))
.nil))⟩
def f_l_ratio (c_l_gcd : Nat) : Fn := ⟨"_law_ratio", ["_law_top", "_law_bottom"], ["_law_top", "_law_bottom", "_law_by"], [],
(.cons (.asg 2 (.call c_l_gcd (.cons (.v (.b1 .abs (.e (.var 0)))) (.cons (.v (.b1 .abs (.e (.var 1)))) .nil))))
(.cons (.ife (.cmp .lt (.e (.var 1)) (.e (.int 0)))
(.cons (.asg 2 (.neg (.var 2)))
.nil)
.nil)
(.cons (.ret (.tup (.cons (.bin .fdiv (.var 0) (.var 2)) (.cons (.bin .fdiv (.var 1) (.var 2)) .nil))))
.nil)))⟩
def f_l_plus (c_l_ratio : Nat) : Fn := ⟨"_law_plus", ["_law_one", "_law_other"], ["_law_one", "_law_other"], [],
(.cons (.ret (.call c_l_ratio (.cons (.v (.bin .add (.bin .mul (.ix (.e (.var 0)) (.int 0)) (.ix (.e (.var 1)) (.int 1))) (.bin .mul (.ix (.e (.var 1)) (.int 0)) (.ix (.e (.var 0)) (.int 1))))) (.cons (.v (.bin .mul (.ix (.e (.var 0)) (.int 1)) (.ix (.e (.var 1)) (.int 1)))) .nil))))
.nil)⟩
def f_l_times (c_l_ratio : Nat) : Fn := ⟨"_law_times", ["_law_one", "_law_other"], ["_law_one", "_law_other"], [],
(.cons (.ret (.call c_l_ratio (.cons (.v (.bin .mul (.ix (.e (.var 0)) (.int 0)) (.ix (.e (.var 1)) (.int 0)))) (.cons (.v (.bin .mul (.ix (.e (.var 0)) (.int 1)) (.ix (.e (.var 1)) (.int 1)))) .nil))))
.nil)⟩
def f_l_number (c_l_draw c_l_ratio : Nat) : Fn := ⟨"_law_number", ["_law_tape_here"], ["_law_tape_here", "_law_top", "_law_bottom"], [0],
(.cons (.asg 1 (.ix (.e (.fre (.disp (.cons (.int 1) (.cons (.int 1) (.cons (.int 2) (.cons (.int 3) (.cons (.int 5) (.cons (.bin .add (.int 1) (.call c_l_draw (.cons (.io 0) (.cons (.v (.int 40)) .nil)))) (.cons (.bin .add (.bin .pow (.int 10) (.int 20)) (.int 39)) .nil)))))))))) (.call c_l_draw (.cons (.io 0) (.cons (.v (.int 7)) .nil)))))
(.cons (.asg 2 (.ix (.e (.fre (.disp (.cons (.int 1) (.cons (.int 1) (.cons (.int 1) (.cons (.int 1) (.cons (.int 2) (.cons (.int 3) (.cons (.bin .add (.int 1) (.call c_l_draw (.cons (.io 0) (.cons (.v (.int 30)) .nil)))) .nil)))))))))) (.call c_l_draw (.cons (.io 0) (.cons (.v (.int 7)) .nil)))))
(.cons (.ret (.call c_l_ratio (.cons (.v (.ix (.e (.fre (.disp (.cons (.var 1) (.cons (.bin .sub (.int 0) (.var 1)) .nil))))) (.call c_l_draw (.cons (.io 0) (.cons (.v (.int 2)) .nil))))) (.cons (.v (.var 2)) .nil))))
.nil)))⟩
def f_l_poly (c_l_draw c_l_number c_l_gathered : Nat) : Fn := ⟨"_law_poly", ["_law_tape_here", "_law_n", "_law_many", "_law_most"], ["_law_tape_here", "_law_n", "_law_many", "_law_most", "_law_table", "_law_k", "_law_powers", "_law_letter"], [0],
(.cons (.own 4 .dict0)
(.cons (.for_ [5] false (.rng1 (.call c_l_draw (.cons (.io 0) (.cons (.v (.bin .add (.var 2) (.int 1))) .nil))))
(.cons (.asg 6 (.b1 .tuple (.e (.fre (.comp (.call c_l_draw (.cons (.io 0) (.cons (.v (.bin .add (.var 3) (.int 1))) .nil))) [7] false (.rng1 (.var 1)) .none)))))
(.cons (.ife (.cmp .eq (.e (.call c_l_draw (.cons (.io 0) (.cons (.v (.int 3)) .nil)))) (.e (.int 0)))
(.cons (.asg 6 (.bin .mul (.tup (.cons (.int 0) .nil)) (.var 1)))
.nil)
.nil)
(.cons (.dset 4 (.var 6) (.call c_l_number (.cons (.io 0) .nil)))
.nil))))
(.frz 4
(.cons (.ret (.call c_l_gathered (.cons (.v (.var 4)) .nil)))
.nil))))⟩
def f_l_gathered : Fn := ⟨"_law_gathered", ["_law_table"], ["_law_table", "_law_powers"], [],
(.cons (.ret (.b1 .tuple (.e (.fre (.comp (.tup (.cons (.var 1) (.cons (.dix (.e (.var 0)) (.var 1)) .nil))) [1] false (.seq (.e (.fre (.sortedRev (.e (.var 0)))))) (.some (.cmp .ne (.e (.ix (.e (.dix (.e (.var 0)) (.var 1))) (.int 0))) (.e (.int 0)))))))))
.nil)⟩
def f_l_added (c_l_plus c_l_gathered : Nat) : Fn := ⟨"_law_added", ["_law_one", "_law_other"], ["_law_one", "_law_other", "_law_table", "_law_powers", "_law_number_here"], [],
(.cons (.own 2 (.dictOf (.var 0)))
(.cons (.for_ [3, 4] true (.seq (.e (.var 1)))
(.cons (.dset 2 (.var 3) (.call c_l_plus (.cons (.v (.get (.pk 2) (.var 3) (.tup (.cons (.int 0) (.cons (.int 1) .nil))))) (.cons (.v (.var 4)) .nil))))
.nil))
(.frz 2
(.cons (.ret (.call c_l_gathered (.cons (.v (.var 2)) .nil)))
.nil))))⟩
def f_l_product (c_l_times c_l_added : Nat) : Fn := ⟨"_law_product", ["_law_one", "_law_other"], ["_law_one", "_law_other", "_law_found", "_law_powers", "_law_number_here", "_law_part", "_law_own", "_law_more", "_law_a", "_law_b"], [],
(.cons (.asg 2 (.tup .nil))
(.cons (.for_ [3, 4] true (.seq (.e (.var 0)))
(.cons (.asg 5 (.fre (.comp (.tup (.cons (.b1 .tuple (.e (.fre (.comp (.bin .add (.var 8) (.var 9)) [8, 9] true (.zip (.var 3) (.var 6)) .none)))) (.cons (.call c_l_times (.cons (.v (.var 4)) (.cons (.v (.var 7)) .nil))) .nil))) [6, 7] true (.seq (.e (.var 1))) .none)))
(.cons (.asg 2 (.call c_l_added (.cons (.v (.var 2)) (.cons (.v (.var 5)) .nil))))
.nil)))
(.cons (.ret (.var 2))
.nil)))⟩
def f_l_turned : Fn := ⟨"_law_turned", ["_law_poly_here"], ["_law_poly_here", "_law_powers", "_law_number_here"], [],
(.cons (.ret (.b1 .tuple (.e (.fre (.comp (.tup (.cons (.var 1) (.cons (.tup (.cons (.bin .sub (.int 0) (.ix (.e (.var 2)) (.int 0))) (.cons (.ix (.e (.var 2)) (.int 1)) .nil))) .nil))) [1, 2] true (.seq (.e (.var 0))) .none)))))
.nil)⟩
def f_to_power (c_times : Nat) : Fn := ⟨"to_power", ["number", "k"], ["number", "k", "found", "turn"], [],
(.cons (.asg 2 (.glob "ONE" (.tuple [.int 1, .int 1])))
(.cons (.for_ [3] false (.rng1 (.var 1))
(.cons (.asg 2 (.call c_times (.cons (.v (.var 2)) (.cons (.v (.var 0)) .nil))))
.nil))
(.cons (.ret (.var 2))
.nil)))⟩
def f_value (c_times c_to_power c_plus : Nat) : Fn := ⟨"value", ["poly", "point"], ["poly", "point", "found", "powers", "number", "k", "one"], [],
(.cons (.asg 2 (.glob "NOUGHT" (.tuple [.int 0, .int 1])))
(.cons (.for_ [3, 4] true (.seq (.e (.var 0)))
(.cons (.for_ [5, 6] true (.zip (.var 3) (.var 1))
(.cons (.asg 4 (.call c_times (.cons (.v (.var 4)) (.cons (.v (.call c_to_power (.cons (.v (.var 6)) (.cons (.v (.var 5)) .nil)))) .nil))))
.nil))
(.cons (.asg 2 (.call c_plus (.cons (.v (.var 2)) (.cons (.v (.var 4)) .nil))))
.nil)))
(.cons (.ret (.var 2))
.nil)))⟩
def f_lead (c_is_ahead : Nat) : Fn := ⟨"lead", ["order", "poly"], ["order", "poly", "found", "term"], [],
(.cons (.asg 2 (.ix (.e (.var 1)) (.int 0)))
(.cons (.for_ [3] false (.seq (.e (.var 1)))
(.cons (.ife (.call c_is_ahead (.cons (.v (.var 0)) (.cons (.v (.ix (.e (.var 3)) (.int 0))) (.cons (.v (.ix (.e (.var 2)) (.int 0))) .nil))))
(.cons (.asg 2 (.var 3))
.nil)
.nil)
.nil))
(.cons (.ret (.var 2))
.nil)))⟩
def f_is_free : Fn := ⟨"is_free", ["poly", "letter"], ["poly", "letter", "powers", "number"], [],
(.cons (.ret (.b1 .all (.e (.fre (.comp (.cmp .eq (.e (.ix (.e (.var 2)) (.var 1))) (.e (.int 0))) [2, 3] true (.seq (.e (.var 0))) .none)))))
.nil)⟩
def f_l_value (c_l_times c_l_plus : Nat) : Fn := ⟨"_law_value", ["_law_poly_here", "_law_point_here"], ["_law_poly_here", "_law_point_here", "_law_found", "_law_powers", "_law_number_here", "_law_k", "_law_turn"], [],
(.cons (.asg 2 (.tup (.cons (.int 0) (.cons (.int 1) .nil))))
(.cons (.for_ [3, 4] true (.seq (.e (.var 0)))
(.cons (.for_ [5] false (.rng1 (.b1 .len (.e (.var 1))))
(.cons (.for_ [6] false (.rng1 (.ix (.e (.var 3)) (.var 5)))
(.cons (.asg 4 (.call c_l_times (.cons (.v (.var 4)) (.cons (.v (.ix (.e (.var 1)) (.var 5))) .nil))))
.nil))
.nil))
(.cons (.asg 2 (.call c_l_plus (.cons (.v (.var 2)) (.cons (.v (.var 4)) .nil))))
.nil)))
(.cons (.ret (.var 2))
.nil)))⟩
def f_l_key_2 : Fn := ⟨"_law_key", ["_law_order_here", "_law_powers"], ["_law_order_here", "_law_powers", "_law_own", "_law_letter"], [],
(.cons (.asg 2 (.fre (.comp (.ix (.e (.var 1)) (.var 3)) [3] false (.seq (.e (.ix (.e (.var 0)) (.int 1)))) .none)))
(.cons (.ret (.ife (.cmp .eq (.e (.ix (.e (.var 0)) (.int 0))) (.e (.str "total"))) (.bin .add (.fre (.disp (.cons (.b1 .sum (.e (.var 2))) .nil))) (.var 2)) (.var 2)))
.nil))⟩
def f_l_point (c_l_draw : Nat) : Fn := ⟨"_law_point", ["_law_tape_here", "_law_n"], ["_law_tape_here", "_law_n", "_law_some", "_law_k"], [0],
(.cons (.asg 2 (.fre (.disp (.cons (.tup (.cons (.int 0) (.cons (.int 1) .nil))) (.cons (.tup (.cons (.int 1) (.cons (.int 1) .nil))) (.cons (.tup (.cons (.neg (.int 1)) (.cons (.int 1) .nil))) (.cons (.tup (.cons (.int 2) (.cons (.int 1) .nil))) (.cons (.tup (.cons (.int 1) (.cons (.int 2) .nil))) (.cons (.tup (.cons (.neg (.int 3)) (.cons (.int 5) .nil))) .nil)))))))))
(.cons (.ret (.b1 .tuple (.e (.fre (.comp (.ix (.e (.var 2)) (.call c_l_draw (.cons (.io 0) (.cons (.v (.int 6)) .nil)))) [3] false (.rng1 (.var 1)) .none)))))
.nil))⟩
def f_put_in (c_times c_to_power c_gathered : Nat) : Fn := ⟨"put_in", ["poly", "letter", "number"], ["poly", "letter", "number", "found", "powers", "own", "left"], [],
(.cons (.own 3 (.disp .nil))
(.cons (.for_ [4, 5] true (.seq (.e (.var 0)))
(.cons (.asg 6 (.bin .add (.bin .add (.sl (.e (.var 4)) .none (.some (.var 1))) (.tup (.cons (.int 0) .nil))) (.sl (.e (.var 4)) (.some (.bin .add (.var 1) (.int 1))) .none)))
(.cons (.app 3 (.tup (.cons (.var 6) (.cons (.call c_times (.cons (.v (.var 5)) (.cons (.v (.call c_to_power (.cons (.v (.var 2)) (.cons (.v (.ix (.e (.var 4)) (.var 1))) .nil)))) .nil))) .nil))))
.nil)))
(.frz 3
(.cons (.ret (.call c_gathered (.cons (.v (.var 3)) .nil)))
.nil))))⟩
def f_widened : Fn := ⟨"widened", ["poly"], ["poly", "powers", "number"], [],
(.cons (.ret (.b1 .tuple (.e (.fre (.comp (.tup (.cons (.bin .add (.var 1) (.tup (.cons (.int 0) .nil))) (.cons (.var 2) .nil))) [1, 2] true (.seq (.e (.var 0))) .none)))))
.nil)⟩
def f_narrowed : Fn := ⟨"narrowed", ["poly"], ["poly", "powers", "number"], [],
(.cons (.ret (.b1 .tuple (.e (.fre (.comp (.tup (.cons (.sl (.e (.var 1)) .none (.some (.neg (.int 1)))) (.cons (.var 2) .nil))) [1, 2] true (.seq (.e (.var 0))) .none)))))
.nil)⟩
def f_l_put (c_l_times c_l_plus c_l_gathered : Nat) : Fn := ⟨"_law_put", ["_law_poly_here", "_law_letter", "_law_number_here"], ["_law_poly_here", "_law_letter", "_law_number_here", "_law_table", "_law_powers", "_law_own", "_law_turn", "_law_left", "_law_k"], [],
(.cons (.own 3 .dict0)
(.cons (.for_ [4, 5] true (.seq (.e (.var 0)))
(.cons (.for_ [6] false (.rng1 (.ix (.e (.var 4)) (.var 1)))
(.cons (.asg 5 (.call c_l_times (.cons (.v (.var 5)) (.cons (.v (.var 2)) .nil))))
.nil))
(.cons (.asg 7 (.b1 .tuple (.e (.fre (.comp (.ife (.cmp .eq (.e (.var 8)) (.e (.var 1))) (.int 0) (.ix (.e (.var 4)) (.var 8))) [8] false (.rng1 (.b1 .len (.e (.var 4)))) .none)))))
(.cons (.dset 3 (.var 7) (.call c_l_plus (.cons (.v (.get (.pk 3) (.var 7) (.tup (.cons (.int 0) (.cons (.int 1) .nil))))) (.cons (.v (.var 5)) .nil))))
.nil))))
(.frz 3
(.cons (.ret (.call c_l_gathered (.cons (.v (.var 3)) .nil)))
.nil))))⟩
def f_is_count : Fn := ⟨"is_count", ["thing"], ["thing"], [],
(.cons (.ret (.and (.cons (.isi (.var 0) .int) (.cons (.not (.isi (.var 0) .bool)) .nil))))
.nil)⟩
def f_is_ratio (c_is_count c_shared : Nat) : Fn := ⟨"is_ratio", ["thing"], ["thing"], [],
(.cons (.ife (.or (.cons (.not (.isi (.var 0) .tuple)) (.cons (.cmp .ne (.e (.b1 .len (.e (.var 0)))) (.e (.int 2))) (.cons (.not (.call c_is_count (.cons (.v (.ix (.e (.var 0)) (.int 0))) .nil))) (.cons (.not (.call c_is_count (.cons (.v (.ix (.e (.var 0)) (.int 1))) .nil))) .nil)))))
(.cons (.ret (.bl false))
.nil)
.nil)
(.cons (.ret (.and (.cons (.cmp .ge (.e (.ix (.e (.var 0)) (.int 1))) (.e (.int 1))) (.cons (.cmp .eq (.e (.call c_shared (.cons (.v (.b1 .abs (.e (.ix (.e (.var 0)) (.int 0))))) (.cons (.v (.ix (.e (.var 0)) (.int 1))) .nil)))) (.e (.int 1))) .nil))))
.nil))⟩
def f_are_powers (c_is_count : Nat) : Fn := ⟨"are_powers", ["n", "thing"], ["n", "thing", "one"], [],
(.cons (.ife (.or (.cons (.not (.isi (.var 1) .tuple)) (.cons (.cmp .ne (.e (.b1 .len (.e (.var 1)))) (.e (.var 0))) .nil)))
(.cons (.ret (.bl false))
.nil)
.nil)
(.cons (.ret (.b1 .all (.e (.fre (.comp (.and (.cons (.call c_is_count (.cons (.v (.var 2)) .nil)) (.cons (.cmp .ge (.e (.var 2)) (.e (.int 0))) .nil))) [2] false (.seq (.e (.var 1))) .none)))))
.nil))⟩
def f_is_term (c_are_powers c_is_ratio : Nat) : Fn := ⟨"is_term", ["n", "thing"], ["n", "thing"], [],
(.cons (.ife (.or (.cons (.not (.isi (.var 1) .tuple)) (.cons (.cmp .ne (.e (.b1 .len (.e (.var 1)))) (.e (.int 2))) (.cons (.not (.call c_are_powers (.cons (.v (.var 0)) (.cons (.v (.ix (.e (.var 1)) (.int 0))) .nil)))) .nil))))
(.cons (.ret (.bl false))
.nil)
.nil)
(.cons (.ret (.and (.cons (.call c_is_ratio (.cons (.v (.ix (.e (.var 1)) (.int 1))) .nil)) (.cons (.cmp .ne (.e (.ix (.e (.var 1)) (.int 1))) (.e (.glob "NOUGHT" (.tuple [.int 0, .int 1])))) .nil))))
.nil))⟩
def f_is_poly (c_is_term : Nat) : Fn := ⟨"is_poly", ["n", "thing"], ["n", "thing", "k", "term"], [],
(.cons (.ife (.or (.cons (.not (.isi (.var 1) .tuple)) (.cons (.not (.b1 .all (.e (.fre (.comp (.call c_is_term (.cons (.v (.var 0)) (.cons (.v (.var 3)) .nil))) [3] false (.seq (.e (.var 1))) .none))))) .nil)))
(.cons (.ret (.bl false))
.nil)
.nil)
(.cons (.ret (.b1 .all (.e (.fre (.comp (.cmp .gt (.e (.ix (.e (.ix (.e (.var 1)) (.bin .sub (.var 2) (.int 1)))) (.int 0))) (.e (.ix (.e (.ix (.e (.var 1)) (.var 2))) (.int 0)))) [2] false (.rng2 (.int 1) (.b1 .len (.e (.var 1)))) .none)))))
.nil))⟩
def f_one_of : Fn := ⟨"one_of", ["n"], ["n"], [],
(.cons (.ret (.tup (.cons (.tup (.cons (.bin .mul (.tup (.cons (.int 0) .nil)) (.var 0)) (.cons (.glob "ONE" (.tuple [.int 1, .int 1])) .nil))) .nil)))
.nil)⟩
def f_raised (c_one_of c_product : Nat) : Fn := ⟨"raised", ["n", "poly", "k"], ["n", "poly", "k", "found", "turn"], [],
(.cons (.asg 3 (.call c_one_of (.cons (.v (.var 0)) .nil)))
(.cons (.for_ [4] false (.rng1 (.var 2))
(.cons (.asg 3 (.call c_product (.cons (.v (.var 3)) (.cons (.v (.var 1)) .nil))))
.nil))
(.cons (.ret (.var 3))
.nil)))⟩
def f_l_minus (c_l_ratio : Nat) : Fn := ⟨"_law_minus", ["_law_one", "_law_other"], ["_law_one", "_law_other"], [],
(.cons (.ret (.call c_l_ratio (.cons (.v (.bin .sub (.bin .mul (.ix (.e (.var 0)) (.int 0)) (.ix (.e (.var 1)) (.int 1))) (.bin .mul (.ix (.e (.var 1)) (.int 0)) (.ix (.e (.var 0)) (.int 1))))) (.cons (.v (.bin .mul (.ix (.e (.var 0)) (.int 1)) (.ix (.e (.var 1)) (.int 1)))) .nil))))
.nil)⟩
def f_l_points : Fn := ⟨"_law_points", ["_law_n", "_law_wide"], ["_law_n", "_law_wide", "_law_found", "_law_k", "_law_longer", "_law_point_here", "_law_number_here"], [],
(.cons (.asg 2 (.fre (.disp (.cons (.tup .nil) .nil))))
(.cons (.for_ [3] false (.rng1 (.var 0))
(.cons (.own 4 (.disp .nil))
(.cons (.for_ [5] false (.seq (.e (.var 2)))
(.cons (.ext 4 (.fre (.comp (.bin .add (.var 5) (.tup (.cons (.tup (.cons (.var 6) (.cons (.int 1) .nil))) .nil))) [6] false (.rng1 (.bin .add (.var 1) (.int 1))) .none)))
.nil))
(.frz 4
(.cons (.asg 2 (.var 4))
.nil)))))
(.cons (.ret (.var 2))
.nil)))⟩
def f_l_at (c_l_value c_l_minus c_lessened c_l_plus c_added c_l_times c_product c_raised c_put_in c_is_poly : Nat) : Fn := ⟨"_law_at", ["_law_point_here", "_law_one", "_law_other", "_law_third"], ["_law_point_here", "_law_one", "_law_other", "_law_third", "_law_pairs", "_law_letter", "_law_a", "_law_b", "_law_c", "_law_poly_here", "_law_due"], [],
(.cons (.unp [6, 7, 8] (.tup (.cons (.call c_l_value (.cons (.v (.var 1)) (.cons (.v (.var 0)) .nil))) (.cons (.call c_l_value (.cons (.v (.var 2)) (.cons (.v (.var 0)) .nil))) (.cons (.call c_l_value (.cons (.v (.var 3)) (.cons (.v (.var 0)) .nil))) .nil)))))
(.cons (.own 4 (.disp (.cons (.tup (.cons (.call c_added (.cons (.v (.var 1)) (.cons (.v (.var 2)) .nil))) (.cons (.call c_l_plus (.cons (.v (.var 6)) (.cons (.v (.var 7)) .nil))) .nil))) (.cons (.tup (.cons (.call c_lessened (.cons (.v (.var 1)) (.cons (.v (.var 2)) .nil))) (.cons (.call c_l_minus (.cons (.v (.var 6)) (.cons (.v (.var 7)) .nil))) .nil))) .nil))))
(.cons (.own 4 (.cat (.pk 4) (.e (.fre (.disp (.cons (.tup (.cons (.call c_product (.cons (.v (.var 1)) (.cons (.v (.var 2)) .nil))) (.cons (.call c_l_times (.cons (.v (.var 6)) (.cons (.v (.var 7)) .nil))) .nil))) .nil))))))
(.cons (.own 4 (.cat (.pk 4) (.e (.fre (.disp (.cons (.tup (.cons (.call c_product (.cons (.v (.call c_added (.cons (.v (.var 1)) (.cons (.v (.var 2)) .nil)))) (.cons (.v (.var 3)) .nil))) (.cons (.call c_l_times (.cons (.v (.call c_l_plus (.cons (.v (.var 6)) (.cons (.v (.var 7)) .nil)))) (.cons (.v (.var 8)) .nil))) .nil))) .nil))))))
(.cons (.own 4 (.cat (.pk 4) (.e (.fre (.disp (.cons (.tup (.cons (.call c_raised (.cons (.v (.b1 .len (.e (.var 0)))) (.cons (.v (.var 1)) (.cons (.v (.int 3)) .nil)))) (.cons (.call c_l_times (.cons (.v (.var 6)) (.cons (.v (.call c_l_times (.cons (.v (.var 6)) (.cons (.v (.var 6)) .nil)))) .nil))) .nil))) .nil))))))
(.cons (.for_ [5] false (.rng1 (.b1 .len (.e (.var 0))))
(.cons (.app 4 (.tup (.cons (.call c_put_in (.cons (.v (.var 1)) (.cons (.v (.var 5)) (.cons (.v (.ix (.e (.var 0)) (.var 5))) .nil)))) (.cons (.var 6) .nil))))
.nil))
(.cons (.for_ [9, 10] true (.seq (.pk 4))
(.cons (.ife (.or (.cons (.not (.call c_is_poly (.cons (.v (.b1 .len (.e (.var 0)))) (.cons (.v (.var 9)) .nil)))) (.cons (.cmp .ne (.e (.call c_l_value (.cons (.v (.var 9)) (.cons (.v (.var 0)) .nil)))) (.e (.var 10))) .nil)))
(.cons (.ret (.bl false))
.nil)
.nil)
.nil))
(.cons (.ret (.bl true))
.nil))))))))⟩
end Lb
set_option linter.all false
set_option maxRecDepth 100000
namespace Lb
open PySem Mn

def f_letter_of : Fn := ⟨"letter_of", ["n", "letter"], ["n", "letter", "k"], [],
(.cons (.ret (.tup (.cons (.tup (.cons (.b1 .tuple (.e (.fre (.comp (.b1 .int (.e (.cmp .eq (.e (.var 2)) (.e (.var 1))))) [2] false (.rng1 (.var 0)) .none)))) (.cons (.glob "ONE" (.tuple [.int 1, .int 1])) .nil))) .nil)))
.nil)⟩
def f_l_whole : Fn := ⟨"_law_whole", ["_law_thing"], ["_law_thing"], [],
(.cons (.ret (.and (.cons (.isi (.var 0) .int) (.cons (.not (.isi (.var 0) .bool)) .nil))))
.nil)⟩
def f_l_is_term (c_l_whole c_l_gcd : Nat) : Fn := ⟨"_law_is_term", ["_law_n", "_law_thing"], ["_law_n", "_law_thing", "_law_number_here", "_law_one"], [],
(.cons (.ife (.or (.cons (.not (.isi (.var 1) .tuple)) (.cons (.cmp .ne (.e (.b1 .len (.e (.var 1)))) (.e (.int 2))) (.cons (.not (.isi (.ix (.e (.var 1)) (.int 0)) .tuple)) (.cons (.cmp .ne (.e (.b1 .len (.e (.ix (.e (.var 1)) (.int 0))))) (.e (.var 0))) .nil)))))
(.cons (.ret (.bl false))
.nil)
.nil)
(.cons (.ife (.cmp .ne (.e (.fre (.comp (.var 3) [3] false (.seq (.e (.ix (.e (.var 1)) (.int 0)))) (.some (.or (.cons (.not (.call c_l_whole (.cons (.v (.var 3)) .nil))) (.cons (.cmp .lt (.e (.var 3)) (.e (.int 0))) .nil))))))) (.e (.fre (.disp .nil))))
(.cons (.ret (.bl false))
.nil)
.nil)
(.cons (.asg 2 (.ix (.e (.var 1)) (.int 1)))
(.cons (.ife (.or (.cons (.not (.isi (.var 2) .tuple)) (.cons (.cmp .ne (.e (.b1 .len (.e (.var 2)))) (.e (.int 2))) .nil)))
(.cons (.ret (.bl false))
.nil)
.nil)
(.cons (.ife (.or (.cons (.not (.call c_l_whole (.cons (.v (.ix (.e (.var 2)) (.int 0))) .nil))) (.cons (.not (.call c_l_whole (.cons (.v (.ix (.e (.var 2)) (.int 1))) .nil))) (.cons (.cmp .lt (.e (.ix (.e (.var 2)) (.int 1))) (.e (.int 1))) .nil))))
(.cons (.ret (.bl false))
.nil)
.nil)
(.cons (.ret (.and (.cons (.cmp .ne (.e (.ix (.e (.var 2)) (.int 0))) (.e (.int 0))) (.cons (.cmp .eq (.e (.call c_l_gcd (.cons (.v (.b1 .abs (.e (.ix (.e (.var 2)) (.int 0))))) (.cons (.v (.ix (.e (.var 2)) (.int 1))) .nil)))) (.e (.int 1))) .nil))))
.nil))))))⟩
def f_l_is_poly (c_l_is_term : Nat) : Fn := ⟨"_law_is_poly", ["_law_n", "_law_thing"], ["_law_n", "_law_thing", "_law_powers", "_law_term", "_law_k", "_law_one"], [],
(.cons (.ife (.or (.cons (.not (.isi (.var 1) .tuple)) (.cons (.cmp .ne (.e (.fre (.comp (.var 5) [5] false (.seq (.e (.var 1))) (.some (.not (.call c_l_is_term (.cons (.v (.var 0)) (.cons (.v (.var 5)) .nil)))))))) (.e (.fre (.disp .nil)))) .nil)))
(.cons (.ret (.bl false))
.nil)
.nil)
(.cons (.asg 2 (.fre (.comp (.ix (.e (.var 3)) (.int 0)) [3] false (.seq (.e (.var 1))) .none)))
(.cons (.ret (.cmp .eq (.e (.fre (.comp (.var 4) [4] false (.rng2 (.int 1) (.b1 .len (.e (.var 2)))) (.some (.cmp .le (.e (.ix (.e (.var 2)) (.bin .sub (.var 4) (.int 1)))) (.e (.ix (.e (.var 2)) (.var 4)))))))) (.e (.fre (.disp .nil)))))
.nil)))⟩
def f_l_bent (c_l_draw c_l_bent : Nat) : Fn := ⟨"_law_bent", ["_law_tape_here", "_law_thing"], ["_law_tape_here", "_law_thing", "_law_at", "_law_some"], [0],
(.cons (.ife (.and (.cons (.isi (.var 1) .tuple) (.cons (.cmp .ne (.e (.var 1)) (.e (.tup .nil))) (.cons (.cmp .gt (.e (.call c_l_draw (.cons (.io 0) (.cons (.v (.int 5)) .nil)))) (.e (.int 0))) .nil))))
(.cons (.asg 2 (.call c_l_draw (.cons (.io 0) (.cons (.v (.b1 .len (.e (.var 1)))) .nil))))
(.cons (.ret (.bin .add (.bin .add (.sl (.e (.var 1)) .none (.some (.var 2))) (.tup (.cons (.call c_l_bent (.cons (.io 0) (.cons (.v (.ix (.e (.var 1)) (.var 2))) .nil))) .nil))) (.sl (.e (.var 1)) (.some (.bin .add (.var 2) (.int 1))) .none)))
.nil))
.nil)
(.cons (.ife (.isi (.var 1) .tuple)
(.cons (.asg 2 (.call c_l_draw (.cons (.io 0) (.cons (.v (.bin .add (.b1 .len (.e (.var 1))) (.int 1))) .nil))))
(.cons (.asg 3 (.fre (.disp (.cons (.fre (.listOf (.seq (.e (.var 1))))) (.cons (.bin .add (.sl (.e (.var 1)) .none (.some (.var 2))) (.sl (.e (.var 1)) (.some (.bin .add (.var 2) (.int 1))) .none)) (.cons (.bin .add (.var 1) (.sl (.e (.var 1)) .none (.some (.int 1)))) (.cons (.slSt (.var 1) (-1)) (.cons (.bin .add (.var 1) (.tup (.cons (.int 0) .nil))) (.cons (.tup (.cons (.int 0) (.cons (.int 1) .nil))) (.cons (.tup (.cons (.int 2) (.cons (.int 4) .nil))) .nil))))))))))
(.cons (.ret (.ix (.e (.var 3)) (.call c_l_draw (.cons (.io 0) (.cons (.v (.int 7)) .nil)))))
.nil)))
.nil)
(.cons (.ife (.and (.cons (.isi (.var 1) .int) (.cons (.not (.isi (.var 1) .bool)) .nil)))
(.cons (.ret (.ix (.e (.fre (.disp (.cons (.bin .add (.var 1) (.int 1)) (.cons (.bin .sub (.var 1) (.int 1)) (.cons (.cmp .eq (.e (.var 1)) (.e (.int 1))) (.cons .non (.cons (.int 0) (.cons (.bin .sub (.int 0) (.var 1)) (.cons (.int 999) (.cons (.int 1000) (.cons (.b1 .str (.e (.var 1))) .nil)))))))))))) (.call c_l_draw (.cons (.io 0) (.cons (.v (.int 9)) .nil)))))
.nil)
.nil)
(.cons (.ret (.ix (.e (.fre (.disp (.cons .non (.cons (.bl true) (.cons (.int 0) (.cons (.int 1) (.cons (.str "a") (.cons (.tup .nil) (.cons (.fre (.disp .nil)) (.cons (.tup (.cons (.int 0) .nil)) .nil))))))))))) (.call c_l_draw (.cons (.io 0) (.cons (.v (.int 8)) .nil)))))
.nil))))⟩
end Lb
set_option linter.all false
set_option maxRecDepth 100000
namespace Lb
open PySem Mn

def f_over (c_ratio : Nat) : Fn := ⟨"over", ["one", "other"], ["one", "other"], [],
(.cons (.ret (.call c_ratio (.cons (.v (.bin .mul (.ix (.e (.var 0)) (.int 0)) (.ix (.e (.var 1)) (.int 1)))) (.cons (.v (.bin .mul (.ix (.e (.var 0)) (.int 1)) (.ix (.e (.var 1)) (.int 0)))) .nil))))
.nil)⟩
def f_step_to (c_over c_over_powers : Nat) : Fn := ⟨"step_to", ["term", "powers"], ["term", "powers"], [],
(.cons (.ret (.tup (.cons (.call c_over_powers (.cons (.v (.var 1)) (.cons (.v (.ix (.e (.var 0)) (.int 0))) .nil))) (.cons (.call c_over (.cons (.v (.glob "ONE" (.tuple [.int 1, .int 1]))) (.cons (.v (.ix (.e (.var 0)) (.int 1))) .nil))) .nil))))
.nil)⟩
def f_pair_of (c_lead c_joint c_lessened c_by_term c_step_to : Nat) : Fn := ⟨"pair_of", ["order", "one", "other"], ["order", "one", "other", "first", "second", "meeting"], [],
(.cons (.asg 3 (.call c_lead (.cons (.v (.var 0)) (.cons (.v (.var 1)) .nil))))
(.cons (.asg 4 (.call c_lead (.cons (.v (.var 0)) (.cons (.v (.var 2)) .nil))))
(.cons (.asg 5 (.call c_joint (.cons (.v (.ix (.e (.var 3)) (.int 0))) (.cons (.v (.ix (.e (.var 4)) (.int 0))) .nil))))
(.cons (.ret (.call c_lessened (.cons (.v (.call c_by_term (.cons (.v (.var 1)) (.cons (.v (.call c_step_to (.cons (.v (.var 3)) (.cons (.v (.var 5)) .nil)))) .nil)))) (.cons (.v (.call c_by_term (.cons (.v (.var 2)) (.cons (.v (.call c_step_to (.cons (.v (.var 4)) (.cons (.v (.var 5)) .nil)))) .nil)))) .nil))))
.nil))))⟩
def f_l_tape_2 : Fn := ⟨"_law_tape", ["_law_script"], ["_law_script"], [],
(.cons (.retF (.disp (.cons (.var 0) (.cons (.int 0) (.cons (.int 0) .nil)))))
.nil)⟩
def f_l_draw_2 : Fn := ⟨"_law_draw", ["_law_tape_here", "_law_many"], ["_law_tape_here", "_law_many", "_law_found", "_law_spot", "_law_cell", "_law_mixed"], [0],
(.cons (.ife (.cmp .eq (.e (.ix (.pk 0) (.int 2))) (.e (.int 0)))
(.cons (.asg 3 (.ix (.pk 0) (.int 1)))
(.cons (.seti 0 (.int 1) (.bin .add (.var 3) (.int 1)))
(.cons (.asg 4 (.var 3))
(.cons (.ife (.cmp .gt (.e (.b1 .len (.e (.ix (.pk 0) (.int 0))))) (.e (.int 0)))
(.cons (.asg 4 (.ix (.e (.ix (.pk 0) (.int 0))) (.bin .mod (.var 3) (.b1 .len (.e (.ix (.pk 0) (.int 0)))))))
.nil)
.nil)
(.cons (.ife (.or (.cons (.cmp .lt (.e (.var 4)) (.e (.bin .pow (.int 10) (.int 18)))) (.cons (.cmp .ge (.e (.var 3)) (.e (.b1 .len (.e (.ix (.pk 0) (.int 0)))))) .nil)))
(.cons (.asg 5 (.bin .mod (.bin .mul (.bin .add (.bin .mod (.var 4) (.int 1000003)) (.int 1)) (.bin .add (.int 48271) (.bin .mul (.int 2) (.bin .mod (.var 3) (.int 997))))) (.int 2147483647)))
(.cons (.ret (.bin .mod (.bin .fdiv (.bin .mod (.bin .mul (.bin .add (.var 5) (.bin .mul (.int 104729) (.var 3))) (.int 69621)) (.int 2147483629)) (.int 7)) (.var 1)))
.nil))
.nil)
(.cons (.seti 0 (.int 2) (.var 4))
.nil))))))
.nil)
(.cons (.asg 2 (.bin .mod (.ix (.pk 0) (.int 2)) (.var 1)))
(.cons (.seti 0 (.int 2) (.bin .fdiv (.ix (.pk 0) (.int 2)) (.var 1)))
(.cons (.ret (.var 2))
.nil))))⟩
def f_l_alike (c_l_alike : Nat) : Fn := ⟨"_law_alike", ["_law_due", "_law_found"], ["_law_due", "_law_found", "_law_k"], [],
(.cons (.ife (.or (.cons (.isi (.var 0) .tuple) (.cons (.isi (.var 0) .list) .nil)))
(.cons (.ife (.cmp .ne (.e (.isi (.var 0) .tuple)) (.e (.isi (.var 1) .tuple)))
(.cons (.ret (.bl false))
.nil)
.nil)
(.cons (.ife (.cmp .ne (.e (.isi (.var 0) .list)) (.e (.isi (.var 1) .list)))
(.cons (.ret (.bl false))
.nil)
.nil)
(.cons (.ife (.cmp .ne (.e (.b1 .len (.e (.var 0)))) (.e (.b1 .len (.e (.var 1)))))
(.cons (.ret (.bl false))
.nil)
.nil)
(.cons (.ret (.b1 .all (.e (.fre (.comp (.call c_l_alike (.cons (.v (.ix (.e (.var 0)) (.var 2))) (.cons (.v (.ix (.e (.var 1)) (.var 2))) .nil))) [2] false (.rng1 (.b1 .len (.e (.var 0)))) .none)))))
.nil))))
.nil)
(.cons (.ife (.cmp .isn (.e (.var 0)) (.e .non))
(.cons (.ret (.cmp .isn (.e (.var 1)) (.e .non)))
.nil)
.nil)
(.cons (.ife (.isi (.var 0) .str)
(.cons (.ret (.and (.cons (.isi (.var 1) .str) (.cons (.cmp .eq (.e (.var 1)) (.e (.var 0))) .nil))))
.nil)
.nil)
(.cons (.ife (.isi (.var 0) .bool)
(.cons (.ret (.and (.cons (.isi (.var 1) .bool) (.cons (.cmp .eq (.e (.var 1)) (.e (.var 0))) .nil))))
.nil)
.nil)
(.cons (.ret (.and (.cons (.isi (.var 1) .int) (.cons (.not (.isi (.var 1) .bool)) (.cons (.cmp .eq (.e (.var 1)) (.e (.var 0))) .nil)))))
.nil)))))⟩
def f_l_frac : Fn := ⟨"_law_frac", ["_law_top", "_law_bottom"], ["_law_top", "_law_bottom", "_law_one", "_law_other"], [],
(.cons (.par 2 3 (.b1 .abs (.e (.var 0))) (.var 1))
(.cons (.whl (.cmp .ne (.e (.var 3)) (.e (.int 0)))
(.cons (.par 2 3 (.var 3) (.bin .mod (.var 2) (.var 3)))
.nil))
(.cons (.ret (.tup (.cons (.bin .fdiv (.var 0) (.var 2)) (.cons (.bin .fdiv (.var 1) (.var 2)) .nil))))
.nil)))⟩
def f_l_add (c_l_frac : Nat) : Fn := ⟨"_law_add", ["_law_one", "_law_other"], ["_law_one", "_law_other"], [],
(.cons (.ret (.call c_l_frac (.cons (.v (.bin .add (.bin .mul (.ix (.e (.var 0)) (.int 0)) (.ix (.e (.var 1)) (.int 1))) (.bin .mul (.ix (.e (.var 1)) (.int 0)) (.ix (.e (.var 0)) (.int 1))))) (.cons (.v (.bin .mul (.ix (.e (.var 0)) (.int 1)) (.ix (.e (.var 1)) (.int 1)))) .nil))))
.nil)⟩
def f_l_mul (c_l_frac : Nat) : Fn := ⟨"_law_mul", ["_law_one", "_law_other"], ["_law_one", "_law_other"], [],
(.cons (.ret (.call c_l_frac (.cons (.v (.bin .mul (.ix (.e (.var 0)) (.int 0)) (.ix (.e (.var 1)) (.int 0)))) (.cons (.v (.bin .mul (.ix (.e (.var 0)) (.int 1)) (.ix (.e (.var 1)) (.int 1)))) .nil))))
.nil)⟩
def f_l_turned_2 : Fn := ⟨"_law_turned", ["_law_one"], ["_law_one"], [],
(.cons (.ret (.ife (.cmp .gt (.e (.ix (.e (.var 0)) (.int 0))) (.e (.int 0))) (.tup (.cons (.ix (.e (.var 0)) (.int 1)) (.cons (.ix (.e (.var 0)) (.int 0)) .nil))) (.tup (.cons (.neg (.ix (.e (.var 0)) (.int 1))) (.cons (.neg (.ix (.e (.var 0)) (.int 0))) .nil)))))
.nil)⟩
def f_l_gather (c_l_add : Nat) : Fn := ⟨"_law_gather", ["_law_terms"], ["_law_terms", "_law_table", "_law_powers", "_law_number"], [],
(.cons (.own 1 .dict0)
(.cons (.for_ [2, 3] true (.seq (.e (.var 0)))
(.cons (.dset 1 (.var 2) (.call c_l_add (.cons (.v (.get (.pk 1) (.var 2) (.tup (.cons (.int 0) (.cons (.int 1) .nil))))) (.cons (.v (.var 3)) .nil))))
.nil))
(.cons (.ret (.b1 .tuple (.e (.fre (.comp (.tup (.cons (.var 2) (.cons (.dix (.pk 1) (.var 2)) .nil))) [2] false (.seq (.e (.fre (.sortedRev (.pk 1))))) (.some (.cmp .ne (.e (.dix (.pk 1) (.var 2))) (.e (.tup (.cons (.int 0) (.cons (.int 1) .nil)))))))))))
.nil)))⟩
def f_l_more (c_l_gather c_l_mul : Nat) : Fn := ⟨"_law_more", ["_law_one", "_law_other", "_law_number"], ["_law_one", "_law_other", "_law_number", "_law_powers", "_law_own"], [],
(.cons (.ret (.call c_l_gather (.cons (.v (.fre (.cat (.e (.fre (.listOf (.seq (.e (.var 0)))))) (.e (.fre (.comp (.tup (.cons (.var 3) (.cons (.call c_l_mul (.cons (.v (.var 4)) (.cons (.v (.var 2)) .nil))) .nil))) [3, 4] true (.seq (.e (.var 1))) .none)))))) .nil)))
.nil)⟩
def f_l_times_2 (c_l_mul c_l_gather : Nat) : Fn := ⟨"_law_times", ["_law_one", "_law_other"], ["_law_one", "_law_other", "_law_found", "_law_powers", "_law_number", "_law_its", "_law_own", "_law_here", "_law_there"], [],
(.cons (.own 2 (.disp .nil))
(.cons (.for_ [3, 4] true (.seq (.e (.var 0)))
(.cons (.for_ [5, 6] true (.seq (.e (.var 1)))
(.cons (.app 2 (.tup (.cons (.b1 .tuple (.e (.fre (.comp (.bin .add (.var 7) (.var 8)) [7, 8] true (.zip (.var 3) (.var 5)) .none)))) (.cons (.call c_l_mul (.cons (.v (.var 4)) (.cons (.v (.var 6)) .nil))) .nil))))
.nil))
.nil))
(.frz 2
(.cons (.ret (.call c_l_gather (.cons (.v (.var 2)) .nil)))
.nil))))⟩
def f_l_key_3 : Fn := ⟨"_law_key", ["_law_order_here", "_law_powers"], ["_law_order_here", "_law_powers", "_law_row", "_law_letter"], [],
(.cons (.asg 2 (.fre (.comp (.ix (.e (.var 1)) (.var 3)) [3] false (.seq (.e (.ix (.e (.var 0)) (.int 1)))) .none)))
(.cons (.ret (.ife (.cmp .eq (.e (.ix (.e (.var 0)) (.int 0))) (.e (.str "total"))) (.bin .add (.fre (.disp (.cons (.b1 .sum (.e (.var 2))) .nil))) (.var 2)) (.var 2)))
.nil))⟩
def f_l_lead (c_l_key : Nat) : Fn := ⟨"_law_lead", ["_law_order_here", "_law_poly_here"], ["_law_order_here", "_law_poly_here", "_law_best", "_law_term"], [],
(.cons (.asg 2 (.ix (.e (.var 1)) (.int 0)))
(.cons (.for_ [3] false (.seq (.e (.var 1)))
(.cons (.ife (.cmp .gt (.e (.call c_l_key (.cons (.v (.var 0)) (.cons (.v (.ix (.e (.var 3)) (.int 0))) .nil)))) (.e (.call c_l_key (.cons (.v (.var 0)) (.cons (.v (.ix (.e (.var 2)) (.int 0))) .nil)))))
(.cons (.asg 2 (.var 3))
.nil)
.nil)
.nil))
(.cons (.ret (.var 2))
.nil)))⟩
def f_l_order_2 (c_l_draw : Nat) : Fn := ⟨"_law_order", ["_law_tape_here", "_law_n"], ["_law_tape_here", "_law_n", "_law_letters", "_law_k", "_law_left", "_law_letter"], [0],
(.cons (.own 2 (.disp .nil))
(.cons (.for_ [3] false (.rng1 (.var 1))
(.cons (.asg 4 (.fre (.comp (.var 5) [5] false (.rng1 (.var 1)) (.some (.cmp .notin (.e (.var 5)) (.pk 2))))))
(.cons (.app 2 (.ix (.e (.var 4)) (.call c_l_draw (.cons (.io 0) (.cons (.v (.b1 .len (.e (.var 4)))) .nil)))))
.nil)))
(.cons (.ret (.tup (.cons (.ix (.e (.fre (.disp (.cons (.str "plain") (.cons (.str "total") .nil))))) (.call c_l_draw (.cons (.io 0) (.cons (.v (.int 2)) .nil)))) (.cons (.b1 .tuple (.pk 2)) .nil))))
.nil)))⟩
def f_l_joint (c_l_lead : Nat) : Fn := ⟨"_law_joint", ["_law_order_here", "_law_one", "_law_other"], ["_law_order_here", "_law_one", "_law_other", "_law_first", "_law_second", "_law_here", "_law_there"], [],
(.cons (.par 3 4 (.ix (.e (.call c_l_lead (.cons (.v (.var 0)) (.cons (.v (.var 1)) .nil)))) (.int 0)) (.ix (.e (.call c_l_lead (.cons (.v (.var 0)) (.cons (.v (.var 2)) .nil)))) (.int 0)))
(.cons (.ret (.b1 .tuple (.e (.fre (.comp (.b2 .max (.var 5) (.var 6)) [5, 6] true (.zip (.var 3) (.var 4)) .none)))))
.nil))⟩
def f_l_brought (c_l_lead c_l_times c_l_turned : Nat) : Fn := ⟨"_law_brought", ["_law_order_here", "_law_poly_here", "_law_powers"], ["_law_order_here", "_law_poly_here", "_law_powers", "_law_own", "_law_step", "_law_here", "_law_there"], [],
(.cons (.asg 3 (.call c_l_lead (.cons (.v (.var 0)) (.cons (.v (.var 1)) .nil))))
(.cons (.asg 4 (.b1 .tuple (.e (.fre (.comp (.bin .sub (.var 5) (.var 6)) [5, 6] true (.zip (.var 2) (.ix (.e (.var 3)) (.int 0))) .none)))))
(.cons (.ret (.call c_l_times (.cons (.v (.var 1)) (.cons (.v (.tup (.cons (.tup (.cons (.var 4) (.cons (.call c_l_turned (.cons (.v (.ix (.e (.var 3)) (.int 1))) .nil)) .nil))) .nil))) .nil))))
.nil)))⟩
def f_l_pair (c_l_joint c_l_more c_l_brought : Nat) : Fn := ⟨"_law_pair", ["_law_order_here", "_law_one", "_law_other"], ["_law_order_here", "_law_one", "_law_other", "_law_meeting"], [],
(.cons (.asg 3 (.call c_l_joint (.cons (.v (.var 0)) (.cons (.v (.var 1)) (.cons (.v (.var 2)) .nil)))))
(.cons (.ret (.call c_l_more (.cons (.v (.call c_l_brought (.cons (.v (.var 0)) (.cons (.v (.var 1)) (.cons (.v (.var 3)) .nil))))) (.cons (.v (.call c_l_brought (.cons (.v (.var 0)) (.cons (.v (.var 2)) (.cons (.v (.var 3)) .nil))))) (.cons (.v (.tup (.cons (.neg (.int 1)) (.cons (.int 1) .nil)))) .nil)))))
.nil))⟩
def f_l_poly_2 (c_l_draw c_l_frac c_l_gather : Nat) : Fn := ⟨"_law_poly", ["_law_tape_here", "_law_n"], ["_law_tape_here", "_law_n", "_law_terms", "_law_k", "_law_found", "_law_powers", "_law_letter"], [0],
(.cons (.own 2 (.disp (.cons (.tup (.cons (.b1 .tuple (.e (.fre (.comp (.call c_l_draw (.cons (.io 0) (.cons (.v (.int 3)) .nil))) [6] false (.rng1 (.var 1)) .none)))) (.cons (.tup (.cons (.bin .add (.int 1) (.call c_l_draw (.cons (.io 0) (.cons (.v (.int 5)) .nil)))) (.cons (.int 1) .nil))) .nil))) .nil)))
(.cons (.for_ [3] false (.rng1 (.call c_l_draw (.cons (.io 0) (.cons (.v (.int 4)) .nil))))
(.cons (.asg 5 (.b1 .tuple (.e (.fre (.comp (.ix (.e (.fre (.disp (.cons (.int 0) (.cons (.int 1) (.cons (.int 2) (.cons (.int 0) (.cons (.int 5) .nil)))))))) (.call c_l_draw (.cons (.io 0) (.cons (.v (.int 5)) .nil)))) [6] false (.rng1 (.var 1)) .none)))))
(.cons (.app 2 (.tup (.cons (.var 5) (.cons (.call c_l_frac (.cons (.v (.bin .sub (.call c_l_draw (.cons (.io 0) (.cons (.v (.int 7)) .nil))) (.int 3))) (.cons (.v (.bin .add (.int 1) (.call c_l_draw (.cons (.io 0) (.cons (.v (.int 3)) .nil))))) .nil))) .nil))))
.nil)))
(.frz 2
(.cons (.asg 4 (.call c_l_gather (.cons (.v (.var 2)) .nil)))
(.cons (.ret (.ife (.cmp .ne (.e (.var 4)) (.e (.tup .nil))) (.var 4) (.tup (.cons (.tup (.cons (.bin .mul (.tup (.cons (.int 0) .nil)) (.var 1)) (.cons (.tup (.cons (.int 2) (.cons (.int 3) .nil))) .nil))) .nil))))
.nil)))))⟩
end Lb
set_option linter.all false
set_option maxRecDepth 100000
namespace Lb
open PySem Mn

def f_ratio_2 (c_shared : Nat) : Fn := ⟨"ratio", ["top", "bottom"], ["top", "bottom", "by"], [],
(.cons (.ife (.cmp .eq (.e (.var 1)) (.e (.int 0)))
(.cons (.rse 1 "NoRatio")
.nil)
.nil)
(.cons (.asg 2 (.call c_shared (.cons (.v (.b1 .abs (.e (.var 0)))) (.cons (.v (.b1 .abs (.e (.var 1)))) .nil))))
(.cons (.ife (.cmp .lt (.e (.var 1)) (.e (.int 0)))
(.cons (.asg 2 (.bin .sub (.int 0) (.var 2)))
.nil)
.nil)
(.cons (.ret (.tup (.cons (.bin .fdiv (.var 0) (.var 2)) (.cons (.bin .fdiv (.var 1) (.var 2)) .nil))))
.nil))))⟩
def f_is_less : Fn := ⟨"is_less", ["one", "other"], ["one", "other"], [],
(.cons (.ret (.cmp .lt (.e (.bin .mul (.ix (.e (.var 0)) (.int 0)) (.ix (.e (.var 1)) (.int 1)))) (.e (.bin .mul (.ix (.e (.var 1)) (.int 0)) (.ix (.e (.var 0)) (.int 1))))))
.nil)⟩
def f_l_over (c_l_ratio : Nat) : Fn := ⟨"_law_over", ["_law_one", "_law_other"], ["_law_one", "_law_other"], [],
(.cons (.ret (.call c_l_ratio (.cons (.v (.bin .mul (.ix (.e (.var 0)) (.int 0)) (.ix (.e (.var 1)) (.int 1)))) (.cons (.v (.bin .mul (.ix (.e (.var 0)) (.int 1)) (.ix (.e (.var 1)) (.int 0)))) .nil))))
.nil)⟩
def f_l_less : Fn := ⟨"_law_less", ["_law_one", "_law_other"], ["_law_one", "_law_other"], [],
(.cons (.ret (.cmp .lt (.e (.bin .mul (.ix (.e (.var 0)) (.int 0)) (.ix (.e (.var 1)) (.int 1)))) (.e (.bin .mul (.ix (.e (.var 1)) (.int 0)) (.ix (.e (.var 0)) (.int 1))))))
.nil)⟩
def f_l_is_ratio (c_l_whole c_l_gcd : Nat) : Fn := ⟨"_law_is_ratio", ["_law_thing"], ["_law_thing"], [],
(.cons (.ife (.or (.cons (.not (.isi (.var 0) .tuple)) (.cons (.cmp .ne (.e (.b1 .len (.e (.var 0)))) (.e (.int 2))) (.cons (.not (.call c_l_whole (.cons (.v (.ix (.e (.var 0)) (.int 0))) .nil))) (.cons (.not (.call c_l_whole (.cons (.v (.ix (.e (.var 0)) (.int 1))) .nil))) .nil)))))
(.cons (.ret (.bl false))
.nil)
.nil)
(.cons (.ret (.and (.cons (.cmp .gt (.e (.ix (.e (.var 0)) (.int 1))) (.e (.int 0))) (.cons (.cmp .eq (.e (.call c_l_gcd (.cons (.v (.b1 .abs (.e (.ix (.e (.var 0)) (.int 0))))) (.cons (.v (.ix (.e (.var 0)) (.int 1))) .nil)))) (.e (.int 1))) .nil))))
.nil))⟩
def f_l_some (c_l_draw : Nat) : Fn := ⟨"_law_some", ["_law_tape_here"], ["_law_tape_here", "_law_some_here"], [0],
(.cons (.asg 1 (.fre (.disp (.cons (.int 0) (.cons (.int 1) (.cons (.neg (.int 1)) (.cons (.int 2) (.cons (.int 6) (.cons (.bin .sub (.int 0) (.call c_l_draw (.cons (.io 0) (.cons (.v (.int 60)) .nil)))) (.cons (.call c_l_draw (.cons (.io 0) (.cons (.v (.int 60000)) .nil))) (.cons (.bin .fdiv (.bin .pow (.int 10) (.int 60)) (.int 7)) (.cons (.bin .sub (.int 0) (.bin .mul (.bin .pow (.int 10) (.int 40)) (.int 9))) .nil))))))))))))
(.cons (.ret (.ix (.e (.var 1)) (.call c_l_draw (.cons (.io 0) (.cons (.v (.int 9)) .nil)))))
.nil))⟩
def f_l_quotient (c_over c_ratio : Nat) : Fn := ⟨"_law_quotient", ["_law_one", "_law_other"], ["_law_one", "_law_other", "_law_found", "e"], [],
(.cons (.asg 2 .non)
(.cons (.tryX
(.cons (.asg 2 (.ife (.isi (.var 0) .tuple) (.call c_over (.cons (.v (.var 0)) (.cons (.v (.var 1)) .nil))) (.call c_ratio (.cons (.v (.var 0)) (.cons (.v (.var 1)) .nil)))))
.nil)
⟨"ZeroError", 3, 2, (some (.str "other")), [(.is1 "NoRatio"), (.is1 "ValueError"), (.isn ["NoRow", "NoText"])], .str "none", [some false, some true, some false, some false]⟩)
(.cons (.ret (.var 2))
.nil)))⟩
end Lb
set_option linter.all false
set_option maxRecDepth 100000
namespace K01
open PySem Mn
open Lb
def f_law_10 (c_l_tape c_l_some c_l_draw c_is_ratio c_l_is_ratio c_l_ratio c_l_quotient c_ratio c_l_times c_l_minus c_l_plus c_l_over c_times c_minus c_plus c_is_less c_l_less : Nat) : Fn := ⟨"law", ["_law_script"], ["_law_script", "_law_tape_here", "_law_k", "_law_pair", "_law_odd", "_law_things", "_law_thing", "_law_bottom", "_law_one", "_law_other", "_law_due", "_law_told", "_law_found"], [],
(.cons (.own 1 (.call c_l_tape (.cons (.v (.var 0)) .nil)))
(.cons (.for_ [2] false (.rng1 (.int 12))
(.cons (.asg 3 (.tup (.cons (.call c_l_some (.cons (.io 1) .nil)) (.cons (.call c_l_some (.cons (.io 1) .nil)) .nil))))
(.cons (.asg 4 (.ix (.e (.fre (.disp (.cons (.bl true) (.cons (.bl false) (.cons .non (.cons (.str "1") (.cons (.tup (.cons (.int 1) .nil)) (.cons (.fre (.disp (.cons (.int 1) .nil))) (.cons (.tup .nil) .nil)))))))))) (.call c_l_draw (.cons (.io 1) (.cons (.v (.int 7)) .nil)))))
(.cons (.asg 5 (.fre (.disp (.cons (.var 3) (.cons (.tup (.cons (.bin .mul (.ix (.e (.var 3)) (.int 0)) (.ix (.e (.var 3)) (.int 1))) (.cons (.ix (.e (.var 3)) (.int 1)) .nil))) (.cons (.tup (.cons (.var 4) (.cons (.int 1) .nil))) (.cons (.tup (.cons (.ix (.e (.var 3)) (.int 0)) (.cons (.var 4) .nil))) (.cons (.fre (.listOf (.seq (.e (.var 3))))) (.cons (.bin .add (.var 3) (.tup (.cons (.int 1) .nil))) (.cons (.sl (.e (.var 3)) .none (.some (.int 1))) (.cons (.var 4) .nil)))))))))))
(.cons (.for_ [6] false (.seq (.e (.var 5)))
(.cons (.asg 12 (.call c_is_ratio (.cons (.v (.var 6)) .nil)))
(.cons (.ife (.or (.cons (.not (.isi (.var 12) .bool)) (.cons (.cmp .ne (.e (.var 12)) (.e (.call c_l_is_ratio (.cons (.v (.var 6)) .nil)))) .nil)))
(.cons (.ret (.bl false))
.nil)
.nil)
.nil)))
(.cons (.asg 7 (.ix (.e (.fre (.disp (.cons (.ix (.e (.var 3)) (.int 1)) (.cons (.int 1) .nil))))) (.b1 .int (.e (.cmp .eq (.e (.ix (.e (.var 3)) (.int 1))) (.e (.int 0)))))))
(.cons (.asg 8 (.call c_l_ratio (.cons (.v (.ix (.e (.var 3)) (.int 0))) (.cons (.v (.var 7)) .nil))))
(.cons (.asg 9 (.call c_l_ratio (.cons (.v (.call c_l_some (.cons (.io 1) .nil))) (.cons (.v (.bin .add (.int 1) (.call c_l_draw (.cons (.io 1) (.cons (.v (.int 40)) .nil))))) .nil))))
(.cons (.ife (.or (.cons (.cmp .ne (.e (.b1 .repr (.e (.call c_ratio (.cons (.v (.ix (.e (.var 3)) (.int 0))) (.cons (.v (.var 7)) .nil)))))) (.e (.b1 .repr (.e (.var 8))))) (.cons (.cmp .ne (.e (.call c_l_quotient (.cons (.v (.ix (.e (.var 3)) (.int 0))) (.cons (.v (.int 0)) .nil)))) (.e (.str "none"))) .nil)))
(.cons (.ret (.bl false))
.nil)
.nil)
(.cons (.own 10 (.disp (.cons (.call c_l_plus (.cons (.v (.var 8)) (.cons (.v (.var 9)) .nil))) (.cons (.call c_l_minus (.cons (.v (.var 8)) (.cons (.v (.var 9)) .nil))) (.cons (.call c_l_times (.cons (.v (.var 8)) (.cons (.v (.var 9)) .nil))) (.cons (.str "none") .nil))))))
(.cons (.ife (.cmp .ne (.e (.ix (.e (.var 9)) (.int 0))) (.e (.int 0)))
(.cons (.seti 10 (.int 3) (.call c_l_over (.cons (.v (.var 8)) (.cons (.v (.var 9)) .nil))))
.nil)
.nil)
(.cons (.asg 11 (.fre (.disp (.cons (.call c_plus (.cons (.v (.var 8)) (.cons (.v (.var 9)) .nil))) (.cons (.call c_minus (.cons (.v (.var 8)) (.cons (.v (.var 9)) .nil))) (.cons (.call c_times (.cons (.v (.var 8)) (.cons (.v (.var 9)) .nil))) (.cons (.call c_l_quotient (.cons (.v (.var 8)) (.cons (.v (.var 9)) .nil))) .nil)))))))
(.cons (.ife (.cmp .ne (.e (.b1 .repr (.e (.var 11)))) (.e (.b1 .repr (.pk 10))))
(.cons (.ret (.bl false))
.nil)
.nil)
(.cons (.ife (.cmp .ne (.e (.b1 .repr (.e (.fre (.disp (.cons (.call c_is_less (.cons (.v (.var 8)) (.cons (.v (.var 9)) .nil))) (.cons (.call c_is_less (.cons (.v (.var 9)) (.cons (.v (.var 8)) .nil))) .nil))))))) (.e (.b1 .repr (.e (.fre (.disp (.cons (.call c_l_less (.cons (.v (.var 8)) (.cons (.v (.var 9)) .nil))) (.cons (.call c_l_less (.cons (.v (.var 9)) (.cons (.v (.var 8)) .nil))) .nil))))))))
(.cons (.ret (.bl false))
.nil)
.nil)
.nil))))))))))))))
(.cons (.ret (.bl true))
.nil)))⟩
def fns : List Fn := [f_is_count, f_shared, (f_is_ratio 0 1), (f_ratio_2 1), (f_plus 3), (f_minus 4), (f_times 3), (f_over 3), f_is_less, f_l_tape, f_l_draw, f_l_gcd, (f_l_ratio 11), (f_l_plus 12), (f_l_minus 12), (f_l_times 12), (f_l_over 12), f_l_less, f_l_whole, (f_l_is_ratio 18 11), (f_l_some 10), (f_l_quotient 7 3), (f_law_10 9 20 10 2 19 12 21 3 15 14 13 16 6 5 4 8 17)]
def gls : List (Str × D) := [("ZeroError", .dict [(.none, .tuple [.int 0, .str "ZeroError", .str "ValueError"])]), ("NoRatio", .dict [(.none, .tuple [.int 1, .str "NoRatio", .str "ZeroError", .str "ValueError"])]), ("NoText", .dict [(.none, .tuple [.int 2, .str "NoText", .str "ZeroError", .str "ValueError"])]), ("NoRow", .dict [(.none, .tuple [.int 3, .str "NoRow", .str "ZeroError", .str "ValueError"])])]
end K01
set_option Elab.async false
set_option linter.all false
set_option maxRecDepth 100000
set_option autoImplicit false
namespace Mn
open PySem PySem.Spec L2
/-! ## what is checked is so -/
def bltNames : List Str := ["len", "abs", "all", "any", "sum", "max", "min", "tuple", "repr", "str", "int", "isinstance", "range", "zip", "list", "bool", "enumerate", "reversed", "sorted", "dict"]
structure Good (fns : List Fn) (gls : List (Str × D)) (Wn k : Nat) (xr : XRl) (C : Cn) (X : Cx) (W : WXm) : Prop where
  N : X.N = C.N
  nd : X.N.Nodup
  sc : X.env.scope = C.sc
  fn : ∀ x, C.fn x = true → X.fn x = true
  calm : X.calm = true
  room : Room k X.A
  gd : X.A.guards = some []
  fns : ∀ f fn, fns[f]? = some fn → ∃ fa fd, X.mg fn.nm = some (.ref fa) ∧ PySem.W.keepIn X.K (.ref fa) = true ∧ Binds X.K fd fn.ps [] ∧ FnG X.prog X.w X.K X.mg X.base (L2.CX X.prog X.w) k fa fd fn.ps (spF X.K xr fn.ps.length (sem fns Wn k f))
  blt : ∀ x ∈ bltNames, X.mg x = none
  gl : ∀ x d, gls.lookup x = some d → clsOf d = none → ∃ v u, X.mg x = some u ∧ RelV v u ∧ ∀ H L, Dv X.K H L d v
  cl : ∀ x d k sups, gls.lookup x = some d → clsOf d = some (k, sups) → ∃ C, X.mg x = some (.ref C) ∧ ClsOk X.K C ∧ ∀ y ∈ qNames gls, SupOk2 X.K X.mg C sups y
  xs : xr = xrG X.mg gls
  tk : Takes X (wx xr W)
section
variable {fns : List Fn} {gls : List (Str × D)} {Wn k : Nat} {xr : XRl} {C : Cn} {X : Cx} {W : WXm}
theorem takes_no {X : Cx} : Takes X (wx xr W0) := fun u s' ⟨a, B, sI, pins, σ, H, cls, d, e, I, nb, up, sky, na, os, ag, w⟩ => by
  obtain ⟨x, _, h⟩ := w
  exact h.elim
theorem Good.blk (G : Good fns gls Wn k xr C X W) (s : Shared) (H : Hp) (scope : Scope) (cl : List (Str × Addr)) (A : Addr) (fp : List Addr) : Good fns gls Wn k xr (C.blk scope) (X.blk s H scope (compEnvC scope cl A X.env) fp) W0 where
  N := G.N
  nd := G.nd
  sc := by show relS scope X.env.scope = relS scope C.sc; rw [G.sc]
  fn := fun x h => h
  calm := G.calm
  room := G.room
  gd := G.gd
  fns := G.fns
  blt := G.blt
  gl := G.gl
  cl := G.cl
  xs := G.xs
  tk := takes_no
theorem isLoc_of {o : Option NameKind} (h : isLoc o = true) : o = some .local := by
  unfold isLoc at h; split at h
  · rfl
  · cases h
theorem isCel_of {o : Option NameKind} (h : isCel o = true) : o = some .cell := by
  unfold isCel at h; split at h
  · rfl
  · cases h
theorem isFre_of {o : Option NameKind} (h : isFre o = true) : o = some .free := by
  unfold isFre at h; split at h
  · rfl
  · cases h
theorem isGlo_of {o : Option NameKind} (h : isGlo o = true) : o = some .globalImplicit := by
  unfold isGlo at h; split at h
  · rfl
  · cases h
theorem Good.nm (G : Good fns gls Wn k xr C X W) {i : Nat} {x : Str} (h : nmOk C i x = true) : X.N[i]? = some x ∧ Vis X.env.scope x ∧ (x == ("__debug__" : Str)) = false ∧ (x == ("__classdict__" : Str)) = false := by
  unfold nmOk visB at h
  simp only [Bool.and_eq_true, Bool.or_eq_true, decide_eq_true_eq, Bool.not_eq_true'] at h
  obtain ⟨⟨⟨h1, h2⟩, h3⟩, h4⟩ := h
  refine ⟨by rw [G.N]; exact h1, ?_, h3, h4⟩
  rw [G.sc]
  rcases h2 with (h2 | h2) | h2
  · exact .inl (isLoc_of h2)
  · exact .inr (.inl (isCel_of h2))
  · exact .inr (.inr (isFre_of h2))
theorem Good.tn (G : Good fns gls Wn k xr C X W) {i : Nat} {x : Str} (h : tnOk C i x = true) : X.N[i]? = some x ∧ Loc X.env.scope x ∧ (X.fn x = true ∨ X.env.scope.names.lookup x = some .local) := by
  unfold tnOk at h
  simp only [Bool.and_eq_true, Bool.or_eq_true, decide_eq_true_eq] at h
  refine ⟨by rw [G.N]; exact h.1, ?_⟩
  rw [G.sc]
  rcases h.2 with h2 | ⟨h2, h3⟩
  · exact ⟨.inl (isLoc_of h2), .inr (isLoc_of h2)⟩
  · exact ⟨.inr (isCel_of h2), .inl (G.fn x h3)⟩
theorem Good.glo (G : Good fns gls Wn k xr C X W) {x : Str} (h : glB C.sc x = true) : Gl X x := by
  show X.env.scope.names.lookup x = some .globalImplicit
  rw [G.sc]; exact isGlo_of h
theorem Good.gn (G : Good fns gls Wn k xr C X W) {x : Str} (h : gnOk C x = true) : Gl X x ∧ (x == ("__debug__" : Str)) = false := by
  unfold gnOk at h
  simp only [Bool.and_eq_true, Bool.not_eq_true'] at h
  exact ⟨G.glo h.1, h.2⟩
theorem Good.un (G : Good fns gls Wn k xr C X W) : X.A.units + 64 < cLine := by have := G.room.un; omega
/-! targets -/
theorem chkTs_cons {i : Nat} {is : List Nat} {es : List Expr} (h : chkTs C (i :: is) es = true) : ∃ x p r, es = .Name x p :: r ∧ tnOk C i x = true ∧ chkTs C is r = true := by
  unfold chkTs at h
  split at h
  · split at h
    · rename_i x p
      rw [Bool.and_eq_true] at h
      exact ⟨x, p, _, rfl, h.1, h.2⟩
    · cases h
  · cases h
theorem names_star (env : Env) : ∀ (is : List Nat) (es : List Expr), chkTs C is es = true → (assignEach es env).length = is.length ∧ (assignEach es env).findIdx? (·.1) = none := by
  intro is
  induction is with
  | nil => intro es h; unfold chkTs at h; rw [List.isEmpty_iff] at h; subst h; exact ⟨rfl, rfl⟩
  | cons i is ih =>
    intro es h
    obtain ⟨x, p, r, rfl, h1, h2⟩ := chkTs_cons h
    obtain ⟨q1, q2⟩ := ih r h2
    have e : assignEach (.Name x p :: r) env = (false, assign (.Name x p) env) :: assignEach r env := by rfl
    rw [e]
    refine ⟨by rw [List.length_cons, q1, List.length_cons], ?_⟩
    rw [List.findIdx?_cons]
    simp [q2]
theorem Good.pgs (G : Good fns gls Wn k xr C X W) : ∀ (is : List Nat) (es : List Expr), chkTs C is es = true → PGs X es (gsOf is) := by
  intro is
  induction is with
  | nil => intro es h; unfold chkTs at h; rw [List.isEmpty_iff] at h; subst h; exact pgs_nil
  | cons i is ih =>
    intro es h
    obtain ⟨x, p, r, rfl, g1, g2⟩ := chkTs_cons h
    obtain ⟨h1, h2, h3⟩ := G.tn g1
    exact pgs_cons (pg_name (i := i) G.nd h1 h2 h3) (ih r g2) rfl
theorem Good.pg (G : Good fns gls Wn k xr C X W) {t : List Nat} {tup : Bool} {tg : Expr} (h : chkT C t tup tg = true) : PG X tg (gOf X.K t tup) ∧ (tup = false → t.length = 1) := by
  unfold chkT at h
  cases tup with
  | false =>
    simp only at h
    split at h
    · rename_i i x p
      obtain ⟨h1, h2, h3⟩ := G.tn h
      exact ⟨pg_name (i := i) G.nd h1 h2 h3, fun _ => rfl⟩
    · cases h
  | true =>
    simp only at h
    split at h
    · rename_i es kk p
      obtain ⟨n1, n2⟩ := names_star X.env _ _ h
      exact ⟨pg_tup G.calm (G.pgs _ _ h) n1 n2, fun z => by cases z⟩
    · cases h
end
/-! same readings -/
section
variable {X : Cx} {W : WXm}
theorem je_eq {e : Expr} {r r' : Mu → Rs D} (h : JE X W e r) (hr : ∀ μ, r' μ = r μ) : JE X W e r' := by rw [show r' = r from funext hr]; exact h
theorem jp_eq {e : Expr} {r r' : Mu → Rs D} (h : JP X W e r) (hr : ∀ μ, r' μ = r μ) : JP X W e r' := by rw [show r' = r from funext hr]; exact h
theorem jt_eq {e : Expr} {r r' : Mu → Rs Bool} (h : JT X W e r) (hr : ∀ μ, r' μ = r μ) : JT X W e r' := by rw [show r' = r from funext hr]; exact h
theorem jf_eq {e : Expr} {r r' : Mu → Rs D} (h : JF X W e r) (hr : ∀ μ, r' μ = r μ) : JF X W e r' := by rw [show r' = r from funext hr]; exact h
theorem js_eq {ios : List Nat} {e : Stmt} {r r' : Mu → Rs Fl} (h : JS X W ios e r) (hr : ∀ μ, r' μ = r μ) : JS X W ios e r' := by rw [show r' = r from funext hr]; exact h
theorem jt_plain {e : Expr} {ra : Mu → Rs D} (h : JE X W e ra) (he : ∀ whole, isTrue e X.env whole = (do let v ← whole; standAt e.pos; holding [v] (truthy v))) : JT X W e fun μ => bitOf (ra μ) := jt_val h he
/-- what a comprehension needs -/
structure CompOk (X : Cx) (W : WXm) (elt tg iter : Expr) (ifs : List Expr) (scope : Scope) (t : List Nat) (tup : Bool) (o : Option Nat) (ri : Mu → Rs (List D)) (re : Mu → Rs D) (rc : Option (Mu → Rs Bool)) : Prop where
  hi : JI X W o tg iter ri
  ok : ∃ own, BlkOk X.N X.env.scope scope own ∧ own.map (·.2) = t
  hg : ∀ (s : Shared) (H : Hp) (C : Addr) (cl : List (Str × Addr)) (fp : List Addr), PG (X.blk s H scope (compEnvC scope cl C X.env) fp) tg (gOf X.K t tup)
  ht1 : tup = false → t.length = 1
  hts : ∀ (s : Shared) (H : Hp) (C : Addr) (cl : List (Str × Addr)) (fp : List Addr), PTs (X.blk s H scope (compEnvC scope cl C X.env) fp) ifs (ttOf X.K rc)
  he : ∀ (s : Shared) (H : Hp) (C : Addr) (cl : List (Str × Addr)) (fp : List Addr), PE (X.blk s H scope (compEnvC scope cl C X.env) fp) elt (Tr X.K W0 (rD X.K) re)
  hfs : ∀ x, foldedSetIterable iter X.env x = pure x
theorem set_plain {e : Expr} {env : Env} (h : isSetE e = false) : ∀ x, foldedSetIterable e env x = pure x := fun x => by
  cases e <;> first | rfl | (simp [isSetE] at h)
theorem CompOk.jf {elt tg iter : Expr} {ifs : List Expr} {scope : Scope} {pos : Pos} {t : List Nat} {tup : Bool} {o : Option Nat} {ri : Mu → Rs (List D)} {re : Mu → Rs D} {rc : Option (Mu → Rs Bool)} (h : CompOk X W elt tg iter ifs scope t tup o ri re rc) (hc : X.calm = true) (hN : X.N.Nodup) :
    JF X W (.ListComp elt [⟨tg, iter, ifs, 0⟩] scope pos) fun μ => (ri μ).bind fun xs μ1 => (compL (turnR t tup re rc) xs [] (lockM o μ1)).bind fun ys μ2 => .ok (.list ys) (unlockM o μ1 μ2) := by
  obtain ⟨own, h1, h2⟩ := h.ok
  exact jf_comp hc hN h.hi h1 h2 h.ht1 h.hg h.hts h.he h.hfs
end
theorem own_map (C : Cn) (t : List Nat) : (ownOf C t).map (·.2) = t := by
  unfold ownOf
  rw [List.map_map]
  exact List.map_id' t
/-- the test of a comprehension -/
def rcOf (F : Nat → List Sl → FR) : O → Option (Mu → Rs Bool)
  | .none => none
  | .some e => some fun μ => bitOf (ev F e μ)
section
variable {F : Nat → List Sl → FR}
theorem evs_len : ∀ {es : Es} {μ μ' : Mu} {xs : List D}, evs F es μ = .ok xs μ' → xs.length = es.len
  | .nil, _, _, _, h => by cases h; rfl
  | .cons e es, μ, μ', xs, h => by
    have h' : ((ev F e μ).bind fun x μ1 => (evs F es μ1).bind fun xs μ2 => Rs.ok (x :: xs) μ2) = .ok xs μ' := h
    cases h1 : ev F e μ with
    | st => rw [h1] at h'; cases h'
    | ex _ _ => rw [h1] at h'; cases h'
    | ok x μ1 =>
      rw [h1] at h'
      have h' : ((evs F es μ1).bind fun xs μ2 => Rs.ok (x :: xs) μ2) = .ok xs μ' := h'
      cases h2 : evs F es μ1 with
      | st => rw [h2] at h'; cases h'
      | ex _ _ => rw [h2] at h'; cases h'
      | ok ys μ2 => rw [h2] at h'; cases h'; rw [List.length_cons, evs_len h2]; rfl
theorem evAs_len : ∀ {es : As} {μ μ' : Mu} {xs : List Ag}, evAs F es μ = .ok xs μ' → xs.length = es.len
  | .nil, _, _, _, h => by cases h; rfl
  | .cons e es, μ, μ', xs, h => by
    have h' : ((evA F e μ).bind fun x μ1 => (evAs F es μ1).bind fun xs μ2 => Rs.ok (x :: xs) μ2) = .ok xs μ' := h
    cases h1 : evA F e μ with
    | st => rw [h1] at h'; cases h'
    | ex _ _ => rw [h1] at h'; cases h'
    | ok x μ1 =>
      rw [h1] at h'
      have h' : ((evAs F es μ1).bind fun xs μ2 => Rs.ok (x :: xs) μ2) = .ok xs μ' := h'
      cases h2 : evAs F es μ1 with
      | st => rw [h2] at h'; cases h'
      | ex _ _ => rw [h2] at h'; cases h'
      | ok ys μ2 => rw [h2] at h'; cases h'; rw [List.length_cons, evAs_len h2]; rfl
end
end Mn
set_option Elab.async false
set_option linter.all false
set_option maxRecDepth 100000
set_option autoImplicit false
set_option maxHeartbeats 1000000
namespace Mn
open PySem PySem.Spec L2
/-- expressions that a test asks in their own way -/
def tstE : Expr → Bool
  | .UnaryOp .Not _ _ => true
  | .BoolOp _ _ _ => true
  | .IfExp _ _ _ _ => true
  | .Compare _ _ _ _ => true
  | _ => false
theorem isTrue_plain {x : Expr} {env : Env} (h : tstE x = false) : ∀ whole, isTrue x env whole = (do let v ← whole; standAt x.pos; holding [v] (truthy v)) := fun whole => by
  cases x with
  | UnaryOp op a p => cases op <;> first | rfl | (simp [tstE] at h)
  | BoolOp _ _ _ => simp [tstE] at h
  | IfExp _ _ _ _ => simp [tstE] at h
  | Compare _ _ _ _ => simp [tstE] at h
  | _ => rfl
section
variable {X : Cx} {W : WXm} {x : Expr} {r : Mu → Rs D}
abbrev J2 (X : Cx) (W : WXm) (x : Expr) (r : Mu → Rs D) : Prop := JE X W x r ∧ (isIfe x = false → JT X W x fun μ => bitOf (r μ))
theorem both (h : JE X W x r) (he : tstE x = false) : J2 X W x r := ⟨h, fun _ => jt_val h (isTrue_plain he)⟩
theorem bop_of {op : BOp} {o : Operator} (h : bopB op o = true) : o = bop op := by
  cases op <;> cases o <;> first | rfl | (simp [bopB] at h)
theorem cop_of {op : COp} {o : CmpOp} (h : copB op o = true) : o = cop op := by
  cases op <;> cases o <;> first | rfl | (simp [copB] at h)
theorem bitBind {r : Rs Bool} {k : Bool → Mu → Rs D} : bitOf (r.bind k) = r.bind fun b μ => bitOf (k b μ) := by
  cases r <;> rfl
theorem bitOk {b : Bool} {μ : Mu} : bitOf (.ok (.bool b) μ) = .ok b μ := rfl
theorem bitBool {r : Rs Bool} : (r.bind fun b μ => bitOf (.ok (.bool b) μ)) = r := by cases r <;> rfl
end
section
variable {fns : List Fn} {gls : List (Str × D)} {Wn k : Nat} {xr : XRl}
theorem chkT_len {C : Cn} {t : List Nat} {tup : Bool} {tg : Expr} (h : chkT C t tup tg = true) : tup = false → t.length = 1 := fun z => by
  subst z
  unfold chkT at h
  simp only at h
  split at h
  · rfl
  · cases h
theorem comp_mk {C : Cn} {X : Cx} {W : WXm} {ex tg iter : Expr} {ifs : List Expr} {scope : Scope} {t : List Nat} {tup : Bool} {o : Option Nat} {ri : Mu → Rs (List D)} {re : Mu → Rs D} {rc : Option (Mu → Rs Bool)} (G : Good fns gls Wn k xr C X W) (hi : JI X W o tg iter ri) (h3 : isSetE iter = false) (h4 : blkC C.N C.sc scope (ownOf C t) = true)
    (h5 : chkT (C.blk scope) t tup tg = true) (hts : ∀ (s : Shared) (H : Hp) (A : Addr) (cl : List (Str × Addr)) (fp : List Addr), PTs (X.blk s H scope (compEnvC scope cl A X.env) fp) ifs (ttOf X.K rc))
    (he : ∀ (s : Shared) (H : Hp) (A : Addr) (cl : List (Str × Addr)) (fp : List Addr), PE (X.blk s H scope (compEnvC scope cl A X.env) fp) ex (Tr X.K W0 (rD X.K) re)) : CompOk X W ex tg iter ifs scope t tup o ri re rc := by
  refine ⟨hi, ⟨ownOf C t, ?_, own_map C t⟩, fun s H A cl fp => ((G.blk s H scope cl A fp).pg h5).1, chkT_len h5, hts, he, set_plain h3⟩
  rw [G.N, G.sc]; exact blkOk_by h4
mutual
theorem sndE : ∀ (e : E) {C : Cn} {X : Cx} {W : WXm} (x : Expr), Good fns gls Wn k xr C X W → chkE fns gls C e x = true → J2 X W x (ev (sem fns Wn k) e)
  | .var i, C, X, W, x, G, h => by
    unfold chkE at h
    split at h
    · obtain ⟨h1, h2, h3, h4⟩ := G.nm h
      exact both (je_eq (je_var h1 h2 h3 h4) fun _ => rfl) rfl
    · cases h
  | .int i, C, X, W, x, G, h => by
    unfold chkE at h
    split at h
    · cases of_decide_eq_true h; exact both (je_eq je_int fun _ => rfl) rfl
    · cases h
  | .bl i, C, X, W, x, G, h => by
    unfold chkE at h
    split at h
    · cases of_decide_eq_true h; exact both (je_eq je_bl fun _ => rfl) rfl
    · cases h
  | .str i, C, X, W, x, G, h => by
    unfold chkE at h
    split at h
    · cases of_decide_eq_true h; exact both (je_eq je_str fun _ => rfl) rfl
    · cases h
  | .non, C, X, W, x, G, h => by
    unfold chkE at h
    split at h
    · exact both (je_eq je_non fun _ => rfl) rfl
    · cases h
  | .glob y d, C, X, W, x, G, h => by
    unfold chkE at h
    split at h
    · simp only [Bool.and_eq_true, decide_eq_true_eq] at h
      obtain ⟨⟨rfl, h2⟩, h3⟩ := h
      obtain ⟨g1, g2⟩ := G.gn h2
      split at h3
      · rename_i d' hl
        cases beqD_eq h3
        obtain ⟨v, u, m1, m2, m3⟩ := G.gl _ _ hl (beqD_noc h3)
        exact both (je_eq (je_glob g1 m1 m2 g2 (m3 _ _) m3) fun _ => rfl) rfl
      · cases h3
    · cases h
  | .bin op a b, C, X, W, x, G, h => by
    unfold chkE at h
    split at h
    · simp only [Bool.and_eq_true] at h
      cases bop_of h.1.1
      exact both (je_eq (je_bin (sndE a _ G h.1.2).1 (sndE b _ G h.2).1) fun _ => rfl) rfl
    · cases h
  | .neg a, C, X, W, x, G, h => by
    unfold chkE at h
    split at h
    · exact both (je_eq (je_neg (sndE a _ G h).1) fun _ => rfl) rfl
    · cases h
  | .cmp op (.e a) b, C, X, W, x, G, h => by
    unfold chkE at h
    split at h
    · simp only [Bool.and_eq_true, Bool.not_eq_true'] at h
      obtain ⟨⟨⟨h1, h2⟩, h3⟩, h4⟩ := h
      cases cop_of h1
      unfold chkP at h3
      have ja := (sndE a _ G h3).1
      have jb := sndP b _ G h4
      exact ⟨je_eq (je_cmp G.un ja jb h2) fun _ => rfl, fun _ => jt_eq (jt_cmp G.un ja jb h2) fun _ => rfl⟩
    · cases h
  | .cmp op (.pk i) b, C, X, W, x, G, h => by
    unfold chkE at h
    split at h
    · simp only [Bool.and_eq_true, Bool.not_eq_true'] at h
      obtain ⟨⟨⟨h1, h2⟩, h3⟩, h4⟩ := h
      cases cop_of h1
      unfold chkP at h3
      split at h3
      · obtain ⟨n1, n2, n3, n4⟩ := G.nm h3
        have jb := sndP b _ G h4
        exact ⟨je_eq (je_cmpK G.un n1 n2 n3 n4 jb h2) fun _ => rfl, fun _ => jt_eq (jt_cmpK G.un n1 n2 n3 n4 jb h2) fun _ => rfl⟩
      · cases h3
    · cases h
  | .and es, C, X, W, x, G, h => by
    unfold chkE at h
    split at h
    · rename_i xs pos
      simp only [Bool.and_eq_true] at h
      have hne : es ≠ .nil := fun z => by subst z; simp [Es.len] at h
      obtain ⟨h1, h2⟩ := sndAnd es xs pos G h.1 hne
      exact ⟨je_eq h1 fun _ => rfl, fun _ => jt_eq h2.pt fun _ => rfl⟩
    · cases h
  | .or es, C, X, W, x, G, h => by
    unfold chkE at h
    split at h
    · rename_i xs pos
      simp only [Bool.and_eq_true] at h
      have hne : es ≠ .nil := fun z => by subst z; simp [Es.len] at h
      obtain ⟨h1, h2⟩ := sndOr es xs pos G h.1 hne
      exact ⟨je_eq h1 fun _ => rfl, fun _ => jt_eq h2.pt fun _ => rfl⟩
    · cases h
  | .not a, C, X, W, x, G, h => by
    unfold chkE at h
    split at h
    · simp only [Bool.and_eq_true, Bool.not_eq_true'] at h
      obtain ⟨h1, h2⟩ := sndE a _ G h.1
      refine ⟨je_eq (je_not h1) fun _ => rfl, fun _ => jt_eq (jt_not (h2 h.2)) fun μ => ?_⟩
      show bitOf ((bitOf (ev (sem fns Wn k) a μ)).bind fun b μ1 => .ok (.bool (!b)) μ1) = _
      rw [bitBind]; rfl
    · cases h
  | .ife c a b, C, X, W, x, G, h => by
    unfold chkE at h
    split at h
    · simp only [Bool.and_eq_true, Bool.not_eq_true'] at h
      obtain ⟨⟨⟨h1, h2⟩, h3⟩, h4⟩ := h
      exact ⟨je_eq (je_ife ((sndE c _ G h1).2 h2) (sndE a _ G h3).1 (sndE b _ G h4).1) fun _ => rfl, fun z => by cases z⟩
    · cases h
  | .tup es, C, X, W, x, G, h => by
    unfold chkE at h
    split at h
    · simp only [Bool.and_eq_true, decide_eq_true_eq] at h
      exact both (je_eq (je_tup (sndEs es _ G h.1) fun μ xs μ' e => by rw [evs_len e]; exact h.2) fun _ => rfl) rfl
    · cases h
  | .ix (.e a) b, C, X, W, x, G, h => by
    unfold chkE at h
    split at h
    · simp only [Bool.and_eq_true, Bool.not_eq_true'] at h
      obtain ⟨⟨h1, h2⟩, h3⟩ := h
      unfold chkP at h2
      exact both (je_eq (je_ix (sndE a _ G h2).1 (sndE b _ G h3).1 h1) fun _ => rfl) rfl
    · cases h
  | .ix (.pk i) b, C, X, W, x, G, h => by
    unfold chkE at h
    split at h
    · simp only [Bool.and_eq_true, Bool.not_eq_true'] at h
      obtain ⟨⟨h1, h2⟩, h3⟩ := h
      unfold chkP at h2
      split at h2
      · obtain ⟨n1, n2, n3, n4⟩ := G.nm h2
        exact both (je_eq (je_ixK n1 n2 n3 n4 (sndE b _ G h3).1 h1) fun _ => rfl) rfl
      · cases h2
    · cases h
  | .sl (.e a) lo hi, C, X, W, x, G, h => by
    unfold chkE at h
    simp only at h
    split at h
    · simp only [Bool.and_eq_true] at h
      obtain ⟨⟨h1, h2⟩, h3⟩ := h
      exact both (je_eq (je_sl (sndE a _ G h1).1 (sndO lo _ G h2) (sndO hi _ G h3)) fun _ => rfl) rfl
    · cases h
  | .sl (.pk i) lo hi, C, X, W, x, G, h => by unfold chkE at h; cases h
  | .slSt a c, C, X, W, x, G, h => by
    unfold chkE at h
    split at h
    · simp only [Bool.and_eq_true] at h
      obtain ⟨h1, h2⟩ := h
      split at h2
      · simp only [Bool.and_eq_true, decide_eq_true_eq] at h2
        obtain ⟨rfl, rfl⟩ := h2
        exact both (je_eq (je_step (sndE a _ G h1).1 pe_int (.inl rfl)) fun _ => rfl) rfl
      · simp only [Bool.and_eq_true, decide_eq_true_eq] at h2
        obtain ⟨rfl, rfl⟩ := h2
        exact both (je_eq (je_step (sndE a _ G h1).1 pe_neg1 (.inr rfl)) fun _ => rfl) rfl
      · cases h2
    · cases h
  | .fre f, C, X, W, x, G, h => by
    unfold chkE at h
    obtain ⟨h1, h2⟩ := sndF f x G h
    exact both (je_eq h1.je fun _ => rfl) h2
  | .call f as, C, X, W, x, G, h => by
    unfold chkE at h
    split at h
    · rename_i y p xs pos
      simp only [Bool.and_eq_true] at h
      obtain ⟨g1, g2⟩ := G.gn h.1
      replace h := h.2
      split at h
      · rename_i fn hf
        simp only [Bool.and_eq_true, decide_eq_true_eq] at h
        obtain ⟨⟨⟨rfl, h2⟩, h3⟩, h4⟩ := h
        obtain ⟨j1, j2⟩ := sndAs as xs G h4
        obtain ⟨fa, fd, m1, m2, m3, m4⟩ := G.fns f fn hf
        cases xs with
        | nil => cases as with
          | nil => simp [As.len] at h3
          | cons _ _ => simp [chkAs] at h4
        | cons e0 es0 =>
          simp only [List.all_cons, Bool.and_eq_true, Bool.not_eq_true'] at j2
          exact both (je_eq (je_call m4 G.room G.gd g1 m1 m2 m3 G.tk j1 (fun μ xs μ' e => by rw [evAs_len e]; exact h2) g2 j2.1 (by simpa using j2.2)) fun _ => rfl) rfl
      · cases h
    · cases h
  | .b1 b p, C, X, W, x, G, h => by
    unfold chkE at h
    split at h
    · simp only [Bool.and_eq_true, decide_eq_true_eq, Bool.not_eq_true'] at h
      obtain ⟨⟨⟨rfl, h2⟩, h3⟩, h4⟩ := h
      have jp := sndP p _ G h4
      have hg := G.glo h2
      cases b with
      | len => exact both (je_eq (je_b1 (x := "len") c_len hg (G.blt _ (by decide +kernel)) (by decide +kernel) jp h3 (by decide) (by decide)) fun _ => rfl) rfl
      | abs => exact both (je_eq (je_b1 (x := "abs") c_abs hg (G.blt _ (by decide +kernel)) (by decide +kernel) jp h3 (by decide) (by decide)) fun _ => rfl) rfl
      | all => exact both (je_eq (je_b1 (x := "all") (c_all G.calm) hg (G.blt _ (by decide +kernel)) (by decide +kernel) jp h3 (by decide) (by decide)) fun _ => rfl) rfl
      | any => exact both (je_eq (je_b1 (x := "any") (c_any G.calm) hg (G.blt _ (by decide +kernel)) (by decide +kernel) jp h3 (by decide) (by decide)) fun _ => rfl) rfl
      | sum => exact both (je_eq (je_b1 (x := "sum") (c_sum G.calm) hg (G.blt _ (by decide +kernel)) (by decide +kernel) jp h3 (by decide) (by decide)) fun _ => rfl) rfl
      | max => exact both (je_eq (je_b1 (x := "max") (c_max G.calm G.un) hg (G.blt _ (by decide +kernel)) (by decide +kernel) jp h3 (by decide) (by decide)) fun _ => rfl) rfl
      | min => exact both (je_eq (je_b1 (x := "min") (c_min G.calm) hg (G.blt _ (by decide +kernel)) (by decide +kernel) jp h3 (by decide) (by decide)) fun _ => rfl) rfl
      | tuple => exact both (je_eq (je_b1T (x := "tuple") c_tuple hg (G.blt _ (by decide +kernel)) (by decide +kernel) jp h3 (by decide) (by decide)) fun _ => rfl) rfl
      | repr => exact both (je_eq (je_b1 (x := "repr") (c_repr G.gd G.un) hg (G.blt _ (by decide +kernel)) (by decide +kernel) jp h3 (by decide) (by decide)) fun _ => rfl) rfl
      | str => exact both (je_eq (je_b1T (x := "str") c_str hg (G.blt _ (by decide +kernel)) (by decide +kernel) jp h3 (by decide) (by decide)) fun _ => rfl) rfl
      | int => exact both (je_eq (je_b1T (x := "int") c_int hg (G.blt _ (by decide +kernel)) (by decide +kernel) jp h3 (by decide) (by decide)) fun _ => rfl) rfl
    · cases h
  | .b2 b p q, C, X, W, x, G, h => by
    unfold chkE at h
    split at h
    · simp only [Bool.and_eq_true, decide_eq_true_eq, Bool.not_eq_true'] at h
      obtain ⟨⟨⟨⟨⟨rfl, h2⟩, h3⟩, h4⟩, h5⟩, h6⟩ := h
      have jp := (sndE p _ G h5).1
      have jq := (sndE q _ G h6).1
      have hg := G.glo h2
      cases b with
      | max => exact both (je_eq (je_b2 (x := "max") (c_max2 G.calm) hg (G.blt _ (by decide +kernel)) (by decide +kernel) jp jq h3 h4 (by decide) (by decide)) fun _ => rfl) rfl
      | min => exact both (je_eq (je_b2 (x := "min") (c_min2 G.calm) hg (G.blt _ (by decide +kernel)) (by decide +kernel) jp jq h3 h4 (by decide) (by decide)) fun _ => rfl) rfl
    · cases h
  | .isi a t, C, X, W, x, G, h => by
    unfold chkE at h
    split at h
    · simp only [Bool.and_eq_true, decide_eq_true_eq, Bool.not_eq_true'] at h
      obtain ⟨⟨⟨⟨⟨rfl, h2⟩, rfl⟩, h4⟩, h5⟩, h6⟩ := h
      exact both (je_eq (je_isi (p2 := ⟨0, 0, 0, 0⟩) (G.glo h2) (G.blt _ (by decide +kernel)) (G.glo h4) (G.blt _ (by cases t <;> decide +kernel)) (sndE a _ G h6).1 h5) fun _ => rfl) rfl
    · cases h
  | .dix (.e a) b, C, X, W, x, G, h => by
    unfold chkE at h
    split at h
    · simp only [Bool.and_eq_true, Bool.not_eq_true'] at h
      obtain ⟨⟨h1, h2⟩, h3⟩ := h
      unfold chkP at h2
      exact both (je_eq (je_dix (by have := G.un; omega) a (sndE a _ G h2).1 (sndE b _ G h3).1 h1) fun _ => rfl) rfl
    · cases h
  | .dix (.pk i) b, C, X, W, x, G, h => by
    unfold chkE at h
    split at h
    · simp only [Bool.and_eq_true, Bool.not_eq_true'] at h
      obtain ⟨⟨h1, h2⟩, h3⟩ := h
      unfold chkP at h2
      split at h2
      · obtain ⟨n1, n2, n3, n4⟩ := G.nm h2
        exact both (je_eq (je_dixK (by have := G.un; omega) n1 n2 n3 n4 (sndE b _ G h3).1 h1) fun _ => rfl) rfl
      · cases h2
    · cases h
  | .get (.e f) a b, C, X, W, x, G, h => by
    unfold chkE at h
    split at h
    · simp only [Bool.and_eq_true, Bool.not_eq_true', decide_eq_true_eq] at h
      obtain ⟨⟨⟨⟨⟨⟨rfl, h2⟩, h3⟩, h4⟩, h5⟩, h6⟩, h7⟩ := h
      unfold chkP at h5
      exact both (je_eq (je_get f (by have := G.un; omega) (sndE f _ G h5).1 rfl (sndE a _ G h6).1 (sndE b _ G h7).1 h2 h3 h4) fun _ => rfl) rfl
    · cases h
  | .get (.pk i) a b, C, X, W, x, G, h => by
    unfold chkE at h
    split at h
    · simp only [Bool.and_eq_true, Bool.not_eq_true', decide_eq_true_eq] at h
      obtain ⟨⟨⟨⟨⟨⟨rfl, h2⟩, h3⟩, h4⟩, h5⟩, h6⟩, h7⟩ := h
      unfold chkP at h5
      obtain ⟨n1, n2, n3, n4⟩ := G.nm h5
      exact both (je_eq (je_getK (by have := G.un; omega) n1 n2 n3 n4 (sndE a _ G h6).1 (sndE b _ G h7).1 h2 h3 h4) fun _ => rfl) rfl
    · cases h
  | .pop i b, C, X, W, x, G, h => by
    unfold chkE at h
    split at h
    · simp only [Bool.and_eq_true, decide_eq_true_eq, Bool.not_eq_true'] at h
      obtain ⟨⟨⟨⟨rfl, h2⟩, h3⟩, h4⟩, h5⟩ := h
      obtain ⟨n1, n2, n3, n4⟩ := G.nm h2
      exact both (je_eq (je_pop n1 n2 n3 n4 (sndE b _ G h5).1 h3 h4) fun _ => rfl) rfl
    · cases h
theorem sndEs : ∀ (es : Es) {C : Cn} {X : Cx} {W : WXm} (xs : List Expr), Good fns gls Wn k xr C X W → chkEs fns gls C es xs = true → JA X W xs (evs (sem fns Wn k) es)
  | .nil, C, X, W, [], G, h => ja_nil
  | .cons e es, C, X, W, x :: xs, G, h => by
    unfold chkEs at h
    simp only [Bool.and_eq_true, Bool.not_eq_true'] at h
    exact ja_cons (sndE e _ G h.1.2).1 (sndEs es _ G h.2) h.1.1
  | .nil, C, X, W, _ :: _, G, h => by simp [chkEs] at h
  | .cons _ _, C, X, W, [], G, h => by simp [chkEs] at h
theorem sndAnd : ∀ (es : Es) {C : Cn} {X : Cx} {W : WXm} (xs : List Expr) (pos : Pos), Good fns gls Wn k xr C X W → chkBs fns gls C es xs = true → es ≠ .nil → JE X W (.BoolOp .And xs pos) (evAnd (sem fns Wn k) es) ∧ PW X (.BoolOp .And xs pos) (Tr X.K W rB fun μ => bitOf (evAnd (sem fns Wn k) es μ))
  | .nil, C, X, W, xs, pos, G, h, hn => absurd rfl hn
  | .cons e .nil, C, X, W, xs, pos, G, h, hn => by
    cases xs with
    | nil => simp [chkBs] at h
    | cons x xs =>
      cases xs with
      | cons _ _ => simp [chkBs] at h
      | nil =>
        unfold chkBs at h
        simp only [Bool.and_eq_true, Bool.not_eq_true'] at h
        obtain ⟨h1, h2⟩ := sndE e _ G h.1.2
        refine ⟨pe_one (je_eq (je_bit h1) fun _ => rfl), pw_and1 (jt_eq (h2 h.1.1) fun μ => ?_)⟩
        show bitOf ((bitOf (ev (sem fns Wn k) e μ)).bind fun b μ1 => .ok (.bool b) μ1) = _
        rw [bitBind, bitBool]
  | .cons e (.cons e2 es), C, X, W, xs, pos, G, h, hn => by
    cases xs with
    | nil => simp [chkBs] at h
    | cons x xs =>
      cases xs with
      | nil => simp [chkBs] at h
      | cons x2 xs =>
        unfold chkBs at h
        simp only [Bool.and_eq_true, Bool.not_eq_true'] at h
        obtain ⟨h1, h2⟩ := sndE e _ G h.1.2
        obtain ⟨h3, h4⟩ := sndAnd (.cons e2 es) (x2 :: xs) pos G h.2 (by simp)
        refine ⟨je_eq (je_and h1 h3) fun _ => rfl, ?_⟩
        have := jw_and (h2 h.1.1) h4
        rw [show (fun μ => bitOf (evAnd (sem fns Wn k) (.cons e (.cons e2 es)) μ)) = andR (fun μ => bitOf (ev (sem fns Wn k) e μ)) (fun μ => bitOf (evAnd (sem fns Wn k) (.cons e2 es) μ)) from funext fun μ => by
          show bitOf ((bitOf (ev (sem fns Wn k) e μ)).bind fun b μ1 => match b with
            | true => evAnd (sem fns Wn k) (.cons e2 es) μ1
            | false => .ok (.bool false) μ1) = _
          unfold andR
          rw [bitBind]
          congr 1
          funext b μ1
          cases b <;> rfl]
        exact this
theorem sndOr : ∀ (es : Es) {C : Cn} {X : Cx} {W : WXm} (xs : List Expr) (pos : Pos), Good fns gls Wn k xr C X W → chkBs fns gls C es xs = true → es ≠ .nil → JE X W (.BoolOp .Or xs pos) (evOr (sem fns Wn k) es) ∧ PW X (.BoolOp .Or xs pos) (Tr X.K W rB fun μ => bitOf (evOr (sem fns Wn k) es μ))
  | .nil, C, X, W, xs, pos, G, h, hn => absurd rfl hn
  | .cons e .nil, C, X, W, xs, pos, G, h, hn => by
    cases xs with
    | nil => simp [chkBs] at h
    | cons x xs =>
      cases xs with
      | cons _ _ => simp [chkBs] at h
      | nil =>
        unfold chkBs at h
        simp only [Bool.and_eq_true, Bool.not_eq_true'] at h
        obtain ⟨h1, h2⟩ := sndE e _ G h.1.2
        refine ⟨pe_one (je_eq (je_bit h1) fun _ => rfl), pw_or1 (jt_eq (h2 h.1.1) fun μ => ?_)⟩
        show bitOf ((bitOf (ev (sem fns Wn k) e μ)).bind fun b μ1 => .ok (.bool b) μ1) = _
        rw [bitBind, bitBool]
  | .cons e (.cons e2 es), C, X, W, xs, pos, G, h, hn => by
    cases xs with
    | nil => simp [chkBs] at h
    | cons x xs =>
      cases xs with
      | nil => simp [chkBs] at h
      | cons x2 xs =>
        unfold chkBs at h
        simp only [Bool.and_eq_true, Bool.not_eq_true'] at h
        obtain ⟨h1, h2⟩ := sndE e _ G h.1.2
        obtain ⟨h3, h4⟩ := sndOr (.cons e2 es) (x2 :: xs) pos G h.2 (by simp)
        refine ⟨je_eq (je_or h1 h3) fun _ => rfl, ?_⟩
        have := jw_or (h2 h.1.1) h4
        rw [show (fun μ => bitOf (evOr (sem fns Wn k) (.cons e (.cons e2 es)) μ)) = orR (fun μ => bitOf (ev (sem fns Wn k) e μ)) (fun μ => bitOf (evOr (sem fns Wn k) (.cons e2 es) μ)) from funext fun μ => by
          show bitOf ((bitOf (ev (sem fns Wn k) e μ)).bind fun b μ1 => match b with
            | true => .ok (.bool true) μ1
            | false => evOr (sem fns Wn k) (.cons e2 es) μ1) = _
          unfold orR
          rw [bitBind]
          congr 1
          funext b μ1
          cases b <;> rfl]
        exact this
theorem sndP : ∀ (p : P) {C : Cn} {X : Cx} {W : WXm} (x : Expr), Good fns gls Wn k xr C X W → chkP fns gls C p x = true → JP X W x (evP (sem fns Wn k) p)
  | .e e, C, X, W, x, G, h => by
    unfold chkP at h
    exact (sndE e _ G h).1.jp
  | .pk i, C, X, W, x, G, h => by
    unfold chkP at h
    split at h
    · obtain ⟨n1, n2, n3, n4⟩ := G.nm h
      exact jp_eq (jp_pk n1 n2 n3 n4) fun _ => rfl
    · cases h
theorem sndH : ∀ (p : P) {C : Cn} {X : Cx} {W : WXm} (x : Expr), Good fns gls Wn k xr C X W → chkH fns gls C p x = true → JH X W p x (evH (sem fns Wn k) p)
  | .e (.fre f), C, X, W, x, G, h => by
    unfold chkH at h
    exact (sndF f x G h).1.jh
  | .pk i, C, X, W, x, G, h => by
    unfold chkH at h
    split at h
    · obtain ⟨n1, n2, n3, n4⟩ := G.nm h
      exact jh_pk n1 n2 n3 n4
    · cases h
  | .e (.var _), C, X, W, x, G, h | .e (.int _), C, X, W, x, G, h | .e (.bl _), C, X, W, x, G, h | .e (.str _), C, X, W, x, G, h | .e .non, C, X, W, x, G, h | .e (.glob _ _), C, X, W, x, G, h
  | .e (.bin _ _ _), C, X, W, x, G, h | .e (.neg _), C, X, W, x, G, h | .e (.cmp _ _ _), C, X, W, x, G, h | .e (.and _), C, X, W, x, G, h | .e (.or _), C, X, W, x, G, h | .e (.not _), C, X, W, x, G, h
  | .e (.ife _ _ _), C, X, W, x, G, h | .e (.tup _), C, X, W, x, G, h | .e (.ix _ _), C, X, W, x, G, h | .e (.sl _ _ _), C, X, W, x, G, h | .e (.slSt _ _), C, X, W, x, G, h | .e (.call _ _), C, X, W, x, G, h
  | .e (.b1 _ _), C, X, W, x, G, h | .e (.b2 _ _ _), C, X, W, x, G, h | .e (.isi _ _), C, X, W, x, G, h | .e (.dix _ _), C, X, W, x, G, h | .e (.get _ _ _), C, X, W, x, G, h | .e (.pop _ _), C, X, W, x, G, h => by
    simp [chkH] at h
theorem sndO : ∀ (o : O) {C : Cn} {X : Cx} {W : WXm} (x : Option Expr), Good fns gls Wn k xr C X W → chkO fns gls C o x = true → JO X W x (evO (sem fns Wn k) o)
  | .none, C, X, W, none, G, h => jo_none
  | .some e, C, X, W, some x, G, h => by
    unfold chkO at h
    exact jo_some (sndE e _ G h).1
  | .none, C, X, W, some _, G, h => by simp [chkO] at h
  | .some _, C, X, W, none, G, h => by simp [chkO] at h
theorem sndAs : ∀ (es : As) {C : Cn} {X : Cx} {W : WXm} (xs : List Expr), Good fns gls Wn k xr C X W → chkAs fns gls C es xs = true → JAg X W xs (evAs (sem fns Wn k) es) ∧ xs.all (fun e => !isStar e) = true
  | .nil, C, X, W, [], G, h => ⟨jg_nil, rfl⟩
  | .cons (.v e) es, C, X, W, x :: xs, G, h => by
    unfold chkAs chkA at h
    simp only [Bool.and_eq_true, Bool.not_eq_true'] at h
    obtain ⟨h1, h2⟩ := sndAs es xs G h.2
    exact ⟨jg_val (sndE e _ G h.1.2).1 h1 h.1.1, by simp only [List.all_cons, Bool.and_eq_true, Bool.not_eq_true']; exact ⟨h.1.1, h2⟩⟩
  | .cons (.io i) es, C, X, W, x :: xs, G, h => by
    unfold chkAs chkA at h
    simp only [Bool.and_eq_true, Bool.not_eq_true'] at h
    obtain ⟨h1, h2⟩ := sndAs es xs G h.2
    refine ⟨?_, by simp only [List.all_cons, Bool.and_eq_true, Bool.not_eq_true']; exact ⟨h.1.1, h2⟩⟩
    have h3 := h.1.2
    split at h3
    · obtain ⟨n1, n2, n3, n4⟩ := G.nm h3
      exact jg_io n1 n2 n3 n4 h1
    · cases h3
  | .nil, C, X, W, _ :: _, G, h => by simp [chkAs] at h
  | .cons _ _, C, X, W, [], G, h => by simp [chkAs] at h
theorem sndF : ∀ (f : FE) {C : Cn} {X : Cx} {W : WXm} (x : Expr), Good fns gls Wn k xr C X W → chkF fns gls C f x = true → JF X W x (evF (sem fns Wn k) f) ∧ tstE x = false
  | .disp es, C, X, W, x, G, h => by
    unfold chkF at h
    split at h
    · simp only [Bool.and_eq_true, decide_eq_true_eq] at h
      exact ⟨jf_eq (jf_disp (sndEs es _ G h.1) fun μ xs μ' e => by rw [evs_len e]; exact h.2) fun _ => rfl, rfl⟩
    · cases h
  | .comp elt t tup it c, C, X, W, x, G, h => by
    unfold chkF at h
    split at h
    · rename_i ex tg iter ifs n scope pos
      simp only [Bool.and_eq_true, decide_eq_true_eq, Bool.not_eq_true'] at h
      obtain ⟨⟨⟨⟨⟨⟨rfl, h2⟩, h3⟩, h4⟩, h5⟩, h6⟩, h7⟩ := h
      refine ⟨jf_eq (CompOk.jf (comp_mk G (sndI it tg iter G h2) h3 h4 h5 (fun s H A cl fp => sndO1 c ifs (G.blk s H scope cl A fp) h7) fun s H A cl fp => (sndE elt _ (G.blk s H scope cl A fp) h6).1) G.calm G.nd) fun μ => ?_, rfl⟩
      cases c <;> rfl
    · cases h
  | .listOf (.rng1 a), C, X, W, x, G, h => by
    unfold chkF at h
    simp only at h
    split at h
    · simp only [Bool.and_eq_true, decide_eq_true_eq, Bool.not_eq_true'] at h
      obtain ⟨⟨⟨⟨⟨rfl, h2⟩, rfl⟩, h4⟩, h5⟩, h6⟩ := h
      exact ⟨jf_eq (jf_listRng G.calm (G.glo h2) (G.blt _ (by decide +kernel)) (G.glo h4) (G.blt _ (by decide +kernel)) (sndE a _ G h6).1 h5) fun _ => rfl, rfl⟩
    · cases h
  | .listOf (.seq p), C, X, W, x, G, h => by
    unfold chkF at h
    simp only at h
    split at h
    · simp only [Bool.and_eq_true, decide_eq_true_eq, Bool.not_eq_true'] at h
      obtain ⟨⟨⟨rfl, h2⟩, h3⟩, h4⟩ := h
      exact ⟨jf_eq (jf_listSeq (G.glo h2) (G.blt _ (by decide +kernel)) (sndP p _ G h4) h3) fun _ => rfl, rfl⟩
    · cases h
  | .listOf (.rng2 _ _), C, X, W, x, G, h | .listOf (.rng3 _ _ _), C, X, W, x, G, h | .listOf (.zip _ _), C, X, W, x, G, h | .listOf (.enum _), C, X, W, x, G, h | .listOf (.rev _), C, X, W, x, G, h | .listOf (.revr _), C, X, W, x, G, h => by
    unfold chkF at h; cases h
  | .cat a b, C, X, W, x, G, h => by
    unfold chkF at h
    split at h
    · simp only [Bool.and_eq_true] at h
      exact ⟨jf_eq (jf_cat (sndH a _ G h.1) (sndH b _ G h.2)) fun _ => rfl, rfl⟩
    · cases h
  | .rep a b, C, X, W, x, G, h => by
    unfold chkF at h
    split at h
    · simp only [Bool.and_eq_true] at h
      exact ⟨jf_eq (jf_rep (sndH a _ G h.1) (sndE b _ G h.2).1) fun _ => rfl, rfl⟩
    · cases h
  | .sortedRev p, C, X, W, x, G, h => by
    unfold chkF at h
    split at h
    · simp only [Bool.and_eq_true, decide_eq_true_eq, Bool.not_eq_true'] at h
      obtain ⟨⟨⟨⟨rfl, h2⟩, rfl⟩, h4⟩, h5⟩ := h
      exact ⟨jf_eq (jf_sortR G.calm G.un (G.glo h2) (G.blt _ (by decide +kernel)) (sndP p _ G h5) h4) fun _ => rfl, rfl⟩
    · cases h
  | .dict0, C, X, W, x, G, h => by
    unfold chkF at h
    split at h
    · exact ⟨jf_eq jf_dict0 fun _ => rfl, rfl⟩
    · cases h
  | .dict2 a b c d, C, X, W, x, G, h => by
    unfold chkF at h
    split at h
    · simp only [Bool.and_eq_true] at h
      obtain ⟨⟨⟨h1, h2⟩, h3⟩, h4⟩ := h
      exact ⟨jf_eq (jf_dict2 G.un (sndE a _ G h1).1 (sndE b _ G h2).1 (sndE c _ G h3).1 (sndE d _ G h4).1) fun _ => rfl, rfl⟩
    · cases h
  | .dictOf a, C, X, W, x, G, h => by
    unfold chkF at h
    split at h
    · simp only [Bool.and_eq_true, decide_eq_true_eq, Bool.not_eq_true'] at h
      obtain ⟨⟨⟨rfl, h2⟩, h3⟩, h4⟩ := h
      exact ⟨jf_eq (jf_dictOf G.calm G.un (G.glo h2) (G.blt _ (by decide +kernel)) (sndE a _ G h4).1 h3) fun _ => rfl, rfl⟩
    · cases h
  | .call f as, C, X, W, x, G, h => by
    unfold chkF at h
    split at h
    · rename_i y p xs pos
      simp only [Bool.and_eq_true] at h
      obtain ⟨g1, g2⟩ := G.gn h.1
      replace h := h.2
      split at h
      · rename_i fn hf
        simp only [Bool.and_eq_true, decide_eq_true_eq] at h
        obtain ⟨⟨⟨rfl, h2⟩, h3⟩, h4⟩ := h
        obtain ⟨j1, j2⟩ := sndAs as xs G h4
        obtain ⟨fa, fd, m1, m2, m3, m4⟩ := G.fns f fn hf
        cases xs with
        | nil => cases as with
          | nil => simp [As.len] at h3
          | cons _ _ => simp [chkAs] at h4
        | cons e0 es0 =>
          simp only [List.all_cons, Bool.and_eq_true, Bool.not_eq_true'] at j2
          exact ⟨jf_eq (jf_call m4 G.room G.gd g1 m1 m2 m3 G.tk j1 (fun μ xs μ' e => by rw [evAs_len e]; exact h2) g2 j2.1 (by simpa using j2.2)) fun _ => rfl, rfl⟩
      · cases h
    · cases h
theorem sndO1 : ∀ (c : O) {C : Cn} {X : Cx} (xs : List Expr), Good fns gls Wn k xr C X W0 → chkO1 fns gls C c xs = true → PTs X xs (ttOf X.K (rcOf (sem fns Wn k) c))
  | .none, C, X, xs, G, h => by
    cases xs with
    | nil => exact pts_nil
    | cons _ _ => simp [chkO1] at h
  | .some e, C, X, xs, G, h => by
    cases xs with
    | nil => simp [chkO1] at h
    | cons x r =>
      cases r with
      | cons _ _ => simp [chkO1] at h
      | nil =>
        unfold chkO1 at h
        simp only [Bool.and_eq_true, Bool.not_eq_true'] at h
        exact pts_one ((sndE e _ G h.2).2 h.1)
theorem sndI : ∀ (i : I) {C : Cn} {X : Cx} {W : WXm} (tg x : Expr), Good fns gls Wn k xr C X W → chkI fns gls C i tg x = true → JI X W (pks i) tg x (evI (sem fns Wn k) i)
  | .seq (.e e), C, X, W, tg, x, G, h => by
    unfold chkI chkP at h
    exact ji_seq (sndE e _ G h).1
  | .seq (.pk i), C, X, W, tg, x, G, h => by
    unfold chkI chkP at h
    split at h
    · obtain ⟨n1, n2, n3, n4⟩ := G.nm h
      exact ji_seqK n1 n2 n3 n4
    · cases h
  | .rng1 a, C, X, W, tg, x, G, h => by
    unfold chkI at h
    split at h
    · simp only [Bool.and_eq_true, decide_eq_true_eq, Bool.not_eq_true'] at h
      obtain ⟨⟨⟨rfl, h2⟩, h3⟩, h4⟩ := h
      exact ji_rng1 (G.glo h2) (G.blt _ (by decide +kernel)) (sndE a _ G h4).1 h3
    · cases h
  | .rng2 a b, C, X, W, tg, x, G, h => by
    unfold chkI at h
    split at h
    · simp only [Bool.and_eq_true, decide_eq_true_eq, Bool.not_eq_true'] at h
      obtain ⟨⟨⟨⟨⟨rfl, h2⟩, h3⟩, h4⟩, h5⟩, h6⟩ := h
      exact ji_rng2 (G.glo h2) (G.blt _ (by decide +kernel)) (sndE a _ G h5).1 (sndE b _ G h6).1 h3 h4
    · cases h
  | .zip a b, C, X, W, tg, x, G, h => by
    unfold chkI at h
    split at h
    · simp only [Bool.and_eq_true, decide_eq_true_eq, Bool.not_eq_true'] at h
      obtain ⟨⟨⟨⟨⟨⟨rfl, h2⟩, h3⟩, h4⟩, h7⟩, h5⟩, h6⟩ := h
      cases tg with
      | Tuple es kk p => exact ji_zip (G.glo h2) (G.blt _ (by decide +kernel)) (sndE a _ G h5).1 (sndE b _ G h6).1 h3 h4
      | _ => simp [isTupE] at h7
    · cases h
  | .rng3 _ _ _, C, X, W, tg, x, G, h => by unfold chkI at h; cases h
  | .enum _, C, X, W, tg, x, G, h => by unfold chkI at h; cases h
  | .rev _, C, X, W, tg, x, G, h => by unfold chkI at h; cases h
  | .revr _, C, X, W, tg, x, G, h => by unfold chkI at h; cases h
end
end
end Mn
set_option Elab.async false
set_option linter.all false
set_option maxRecDepth 100000
set_option autoImplicit false
set_option maxHeartbeats 1000000
namespace Mn
open PySem PySem.Spec L2
theorem sw_plain {v : Expr} {t : Option Expr} {l : Nat} {env : Env} (h : isCmp v = false) : swapsWith v t l env = pure false := by
  cases v <;> first | rfl | (simp [isCmp] at h)
theorem sw_sole {v t : Expr} {l : Nat} {env : Env} (h : isCmp v = false) : swapsWithSole [t] v l env = pure false := sw_plain h
theorem sub_plain {o i : Expr} {pos : Pos} {env : Env} (h : isSlice i = false) : ∀ v, assign (.Subscript o i pos) env v = (do
      let ov ← holding [v] (eval o env)
      let iv ← holding [v, ov] (eval i env)
      standAt pos
      holding [v, ov, iv] (setItem ov iv v)
      release [v, ov, iv] []) := fun v => by
  cases i <;> first | rfl | (simp [isSlice] at h)
theorem notTup {ts : List Expr} {kt : Nat} {pt : Pos} {v : Expr} {env : Env} (h : isTupE v = false) : swappedStores [.Tuple ts kt pt] v env = pure none := by
  cases v <;> first | rfl | (simp [isTupE] at h)
theorem sw_pair {x y : Str} {px py pt pt2 : Pos} {kt k2 : Nat} {a b : Expr} {env : Env} (hk : env.scope.kind = .function) (hx : env.scope.names.lookup x = some .local) (hy : env.scope.names.lookup y = some .local) (hxy : (x == y) = false) (hl : (px.line == py.line) = true)
    (ha : isStar a = false) (hb : isStar b = false) (hf : foldB a b = true) : swappedStores [.Tuple [.Name x px, .Name y py] kt pt] (.Tuple [a, b] k2 pt2) env = pure (some [x, y]) := by
  have kx : env.kindOf x = some .local := hx
  have ky : env.kindOf y = some .local := hy
  have hbk : env.blockKind = .function := by unfold Env.blockKind; rw [hk]; rfl
  have hl' : (py.line == px.line) = true := by rw [beq_iff_eq] at hl ⊢; exact hl.symm
  unfold foldB at hf
  simp only [Bool.and_eq_true, Bool.not_eq_true'] at hf
  have nd : (x = y) = False := by simp only [eq_iff_iff, iff_false]; intro z; subst z; simp at hxy
  have nd' : (y = x) = False := by simp only [eq_iff_iff, iff_false]; intro z; subst z; simp at hxy
  have yx : (y == x) = false := by rw [Bool.eq_false_iff]; intro z; rw [beq_iff_eq] at z; subst z; simp at hxy
  unfold swappedStores
  simp only [hbk, kx, ky, hl', hf.1, hf.2, Expr.pos, List.length, List.any_cons, List.any_nil, List.head?, Option.map, Option.getD, List.filterMap]
  simp [hl', List.eraseDups, List.eraseDupsBy, List.eraseDupsBy.loop, hxy, nd, nd', Expr.pos, hf.1, hf.2, kx, ky]
  rw [yx, if_neg]
  · simp
  · rintro (h | h)
    · cases a <;> simp [isStar] at ha h
    · cases b <;> simp [isStar] at hb h
theorem sw_tup {ts : List Expr} {kt : Nat} {pt : Pos} {l : Nat} {env : Env} (v : Expr) : swapsWithSole [.Tuple ts kt pt] v l env = pure false := by cases v <;> rfl
theorem sw_three {x y z : Str} {px py pz pt pt2 : Pos} {kt k2 : Nat} {a b c : Expr} {env : Env} (hk : env.scope.kind = .function) (hx : env.scope.names.lookup x = some .local) (hy : env.scope.names.lookup y = some .local) (hz : env.scope.names.lookup z = some .local) (hxy : (x == y) = false) (hxz : (x == z) = false) (hyz : (y == z) = false) (hl : (px.line == py.line) = true) (hl2 : (px.line == pz.line) = true)
    (ha : isStar a = false) (hb : isStar b = false) (hc : isStar c = false) (hf : foldC a b c = true) : swappedStores [.Tuple [.Name x px, .Name y py, .Name z pz] kt pt] (.Tuple [a, b, c] k2 pt2) env = pure (some [x, y, z]) := by
  have kx : env.kindOf x = some .local := hx
  have ky : env.kindOf y = some .local := hy
  have kz : env.kindOf z = some .local := hz
  have hbk : env.blockKind = .function := by unfold Env.blockKind; rw [hk]; rfl
  have hl' : (py.line == px.line) = true := by rw [beq_iff_eq] at hl ⊢; exact hl.symm
  have hl2' : (pz.line == px.line) = true := by rw [beq_iff_eq] at hl2 ⊢; exact hl2.symm
  unfold foldC at hf
  simp only [Bool.and_eq_true, Bool.not_eq_true'] at hf
  have flip : ∀ {u v : Str}, (u == v) = false → (v == u) = false := fun {u v} h => by rw [Bool.eq_false_iff]; intro q; rw [beq_iff_eq] at q; subst q; simp at h
  have yx := flip hxy
  have zx := flip hxz
  have zy := flip hyz
  have nm : ([Expr.Name x px, Expr.Name y py, Expr.Name z pz].filterMap fun e => match e with
      | .Name id pos => if env.kindOf id == some .local && pos.line == px.line then some id else none
      | _ => none) = [x, y, z] := by
    simp [List.filterMap, kx, ky, kz, hl', hl2']
  have er : [x, y, z].eraseDups.length = 3 := by
    simp [List.eraseDups, List.eraseDupsBy, List.eraseDupsBy.loop, yx, zx, zy]
  have st : ([a, b, c].any fun e => match e with | .Starred .. => true | _ => false) = false := by
    simp only [List.any_cons, List.any_nil, Bool.or_false, Bool.or_eq_false_iff]
    refine ⟨?_, ?_, ?_⟩
    · cases a <;> first | rfl | (simp [isStar] at ha)
    · cases b <;> first | rfl | (simp [isStar] at hb)
    · cases c <;> first | rfl | (simp [isStar] at hc)
  have hs : swappedStores [.Tuple [.Name x px, .Name y py, .Name z pz] kt pt] (.Tuple [a, b, c] k2 pt2) env = (do
      if ([a, b, c].any fun e => match e with | .Starred .. => true | _ => false) then return none
      let names := [Expr.Name x px, Expr.Name y py, Expr.Name z pz].filterMap fun e => match e with
        | .Name id pos => if env.kindOf id == some .local && pos.line == px.line then some id else none
        | _ => none
      if names.length != 3 || names.eraseDups.length != names.length then return none
      if [a, b, c].all (foldedForSure 8) then return none
      if [a, b, c].all (constantsAlone 8) then unsupported "assign.tuple-of-constant-expressions:order-of-the-stores"
      return some names) := by
    unfold swappedStores
    simp only [hbk]
    rfl
  rw [hs, st, nm]
  simp only [er, hf.1, hf.2]
  rfl
section
variable {fns : List Fn} {gls : List (Str × D)} {Wn k : Nat} {xr : XRl}
theorem swB_cases {C : Cn} {x : Str} {px : Pos} {v : Expr} (h : (swB C x px v).isSome = true) : swB C x px v = some true ∨ swB C x px v = some false := by
  cases q : swB C x px v with
  | none => rw [q] at h; cases h
  | some b => cases b; exact .inr rfl; exact .inl rfl
theorem sw_no {C : Cn} {x : Str} {px : Pos} {v : Expr} {l : Nat} {env : Env} (hsc : env.scope = C.sc) (h : swB C x px v = some false) : swapsWith v (some (.Name x px)) l env = pure false := by
  unfold swB at h
  split at h
  · rename_i elt tg iter ifs n scope pos
    split at h
    · cases h
    · split at h
      · rename_i h2
        rw [Bool.not_eq_true'] at h2
        have : (env.kindOf x == some NameKind.local) = false := by
          rw [Bool.eq_false_iff]
          intro z
          rw [beq_iff_eq] at z
          have z : env.scope.names.lookup x = some .local := z
          rw [hsc] at z
          unfold kindB at h2
          rw [z] at h2; cases h2
        unfold swapsWith
        simp [this]
      · cases h
  · split at h
    · cases h
    · rename_i h2; exact sw_plain (by simpa using h2)
theorem sw_yes {C : Cn} {x : Str} {px : Pos} {v : Expr} (h : swB C x px v = some true) : ∃ elt tg iter ifs n scope pos, v = .ListComp elt [⟨tg, iter, ifs, n⟩] scope pos ∧ C.sc.names.lookup x = some .local ∧ (px.line == pos.line) = true ∧ (scope.names.any fun (n, k) => n == x && (k == .local || k == .cell)) = false := by
  unfold swB at h
  split at h
  · rename_i elt tg iter ifs n scope pos
    split at h
    · rename_i h2
      simp only [Bool.and_eq_true, Bool.not_eq_true'] at h2
      exact ⟨elt, tg, iter, ifs, n, scope, pos, rfl, isLoc_of h2.1.1, h2.1.2, h2.2⟩
    · split at h
      · cases h
      · cases h
  · split at h
    · cases h
    · cases h
theorem chkE_lc {C : Cn} {e : E} {elt : Expr} {gs : List Comprehension} {scope : Scope} {pos : Pos} (h : chkE fns gls C e (.ListComp elt gs scope pos) = true) : ∃ f, e = .fre f ∧ chkF fns gls C f (.ListComp elt gs scope pos) = true := by
  cases e with
  | fre f => unfold chkE at h; exact ⟨f, rfl, h⟩
  | sl a lo hi => cases a <;> (unfold chkE at h; cases h)
  | _ => unfold chkE at h; cases h
theorem chkF_lc {C : Cn} {f : FE} {ex tg iter : Expr} {ifs : List Expr} {n : Int} {scope : Scope} {pos : Pos} (h : chkF fns gls C f (.ListComp ex [⟨tg, iter, ifs, n⟩] scope pos) = true) : ∃ elt t tup it c, f = .comp elt t tup it c ∧ n = 0 ∧ chkI fns gls C it tg iter = true ∧ isSetE iter = false ∧ blkC C.N C.sc scope (ownOf C t) = true ∧
    chkT (C.blk scope) t tup tg = true ∧ chkE fns gls (C.blk scope) elt ex = true ∧ chkO1 fns gls (C.blk scope) c ifs = true := by
  cases f with
  | comp elt t tup it c =>
    unfold chkF at h
    simp only [Bool.and_eq_true, decide_eq_true_eq, Bool.not_eq_true'] at h
    obtain ⟨⟨⟨⟨⟨⟨h1, h2⟩, h3⟩, h4⟩, h5⟩, h6⟩, h7⟩ := h
    exact ⟨elt, t, tup, it, c, rfl, h1, h2, h3, h4, h5, h6, h7⟩
  | listOf it => cases it <;> (unfold chkF at h; cases h)
  | _ => unfold chkF at h; cases h
/-- name = [.. for ..] whose store comes within -/
theorem lc_set {C : Cn} {X : Cx} {W : WXm} {f : FE} {i : Nat} {x : Str} {px spos : Pos} {v : Expr} (G : Good fns gls Wn k xr C X W) (hk : X.env.scope.kind = .function) (hN : X.N[i]? = some x) (hs : swB C x px v = some true) (h : chkF fns gls C f v = true) :
    ∃ te, PS X (.Assign [.Name x px] v spos) (tAsg te (gName i)) ∧ ∀ σ H Q, Tf X.K W (evF (sem fns Wn k) f) σ H Q → te σ H Q := by
  obtain ⟨ex, tg, iter, ifs, n, scope, pos, rfl, s1, s2, s3⟩ := sw_yes hs
  obtain ⟨elt, t, tup, it, c, rfl, rfl, h2, h3, h4, h5, h6, h7⟩ := chkF_lc h
  have cm := comp_mk G (sndI it tg iter G h2) h3 h4 h5 (fun s H A cl fp => sndO1 c ifs (G.blk s H scope cl A fp) h7) fun s H A cl fp => (sndE elt _ (G.blk s H scope cl A fp) h6).1
  obtain ⟨own, o1, o2⟩ := cm.ok
  have s1 : X.env.scope.names.lookup x = some .local := by rw [G.sc]; exact s1
  refine ⟨_, ps_setLc G.calm G.nd hN s1 (sw_true hk s1 s2 s3) cm.hi o1 cm.hg cm.hts cm.he cm.hfs, fun σ H Q hq => ?_⟩
  rw [o2]
  refine tr_comp cm.ht1 ?_
  obtain ⟨cc, L, M, μ, S, p⟩ := hq
  refine ⟨cc, L, M, μ, S, ?_⟩
  cases c <;> exact p
theorem ios_not {C : Cn} {i : Nat} (h : C.ios.contains i = false) : i ∉ C.ios := fun z => by
  rw [List.contains_eq_mem, decide_eq_false_iff_not] at h; exact h z
theorem snd_par3 {C : Cn} {X : Cx} {W : WXm} {is : List Nat} {e : E} {xs : List Expr} {v : Expr} {kt : Nat} {pt pos : Pos} (G : Good fns gls Wn k xr C X W) (hk : X.env.scope.kind = .function) (h : par3B fns gls C is e xs v = true) :
    JS X W C.ios (.Assign [.Tuple xs kt pt] v pos) (exec (sem fns Wn k) Wn (.unp is e)) := by
  unfold par3B at h
  split at h
  · rename_i i j l a b c x px y py z pz ea eb ec k2 pt2
    simp only [Bool.and_eq_true, Bool.not_eq_true', decide_eq_true_eq] at h
    obtain ⟨⟨⟨⟨⟨⟨⟨⟨⟨⟨n1, n2⟩, n3⟩, ⟨d1, d2⟩, d3⟩, ⟨q1, q2⟩, q3⟩, ⟨l1, l2⟩, l3⟩, p1, p2⟩, ⟨s1, s2⟩, s3⟩, hf⟩, ⟨o1, o2⟩, o3⟩, ⟨c1, c2⟩, c3⟩ := h
    have lx : X.env.scope.names.lookup x = some .local := by rw [G.sc]; exact isLoc_of l1
    have ly : X.env.scope.names.lookup y = some .local := by rw [G.sc]; exact isLoc_of l2
    have lz : X.env.scope.names.lookup z = some .local := by rw [G.sc]; exact isLoc_of l3
    have ne : ∀ {u v : Nat}, (u == v) = false → u ≠ v := fun h z => by subst z; simp at h
    refine js_eq (js_par3 (ps_par3 G.calm G.nd (by rw [G.N]; exact n1) (by rw [G.N]; exact n2) (by rw [G.N]; exact n3) (ne d1) (ne d2) (ne d3) lx ly lz (ja_cons (sndE a _ G c1).1 (ja_cons (sndE b _ G c2).1 (ja_cons (sndE c _ G c3).1 ja_nil s3) s2) s1) (sw_three hk lx ly lz q1 q2 q3 p1 p2 s1 s2 s3 hf)) (ios_not o1) (ios_not o2) (ios_not o3)) fun μ => ?_
    show ((ev (sem fns Wn k) (.tup (.cons a (.cons b (.cons c .nil)))) μ).bind fun d μ1 => match setT [i, j, l] true d μ1 with
      | some μ2 => Rs.ok Fl.nx μ2
      | none => .st) = _
    show (((evs (sem fns Wn k) (.cons a (.cons b (.cons c .nil))) μ).bind fun xs μ1 => Rs.ok (.tuple xs) μ1).bind fun d μ1 => match setT [i, j, l] true d μ1 with
      | some μ2 => Rs.ok Fl.nx μ2
      | none => .st) = (evs (sem fns Wn k) (.cons a (.cons b (.cons c .nil))) μ).bind _
    cases evs (sem fns Wn k) (.cons a (.cons b (.cons c .nil))) μ with
    | st => rfl
    | ex _ _ => rfl
    | ok ds μ1 => rfl
  · cases h
theorem js_rse {X : Cx} {W : WXm} {ios : List Nat} {e : Expr} {pos : Pos} {c : Nat} {Ca : Addr} (hc : X.calm = true) (tk : Takes X (wx xr W)) (hm : PMk X e (fun _ H Q => Q (.ref Ca) none H)) (hx : ∀ H, xr ⟨c, []⟩ (.ref Ca) none H) : JS X W ios (.Raise (some e) none pos) (fun μ => .ex ⟨c, []⟩ μ) :=
  ps_mono (ps_raise hc tk hm) fun E σ H ⟨c0, L, M, μ, hio, S, p⟩ => ⟨⟨c, []⟩, hx H, p L M σ H S (.of .refl)⟩
theorem Good.tr {C : Cn} {X : Cx} {W W' : WXm} (G : Good fns gls Wn k xr C X W) (pn : List (Addr × Obj)) (xe : Value → Shared → Prop) (tk : Takes (X.tr pn xe) (wx xr W')) : Good fns gls Wn k xr C (X.tr pn xe) W' where
  N := G.N
  nd := G.nd
  sc := G.sc
  fn := G.fn
  calm := G.calm
  room := G.room
  gd := G.gd
  fns := G.fns
  blt := G.blt
  gl := G.gl
  cl := G.cl
  xs := G.xs
  tk := tk
theorem wipe_at {μ μ' : Mu} {i : Nat} (h : wipeM [i] μ = some μ') : freeAll [i] μ = true ∧ μ' = wipeL μ [i] := by
  unfold wipeM at h
  split at h
  · rename_i q; exact ⟨q, (Option.some.inj h).symm⟩
  · cases h
theorem suS_len {h : Hd} {b : Bool} {σ : L2.St} : (suS h b σ).length = σ.length := by
  unfold suS
  cases h.pre <;> cases b <;> simp
theorem dv_const {K : PySem.W.Frag} {H : Hp} {L : Ads} {d : D} (h : (match d with | .str _ => true | .bool _ => true | .none => true | _ => false) = true) : Dv K H L d (vK d) := by
  cases d <;> first | exact .str _ | exact .bl _ | exact .non | cases h
theorem set1_inv {K : PySem.W.Frag} {c : Ent} {L M : Ads} {μ μ2 : Mu} {σ : L2.St} {H : Hp} {j : Nat} {d : D} (S : Sr K c L M μ σ H) (hj : ∀ p ∈ c.io, p.1 ≠ j) (w : Dv K H L d (vK d)) (h : setAll [j] [d] μ = some μ2) : Sr K c L M μ2 (σ.set j (some (vK d))) H := by
  unfold setAll at h
  split at h
  · cases h
  · rename_i hl
    have e : setN j d μ = μ2 := Option.some.inj h
    rw [← e]
    exact S.set' w hj (isLck_of hl)
def preR (hd : Hd) (μ : Mu) : Option Mu := match hd.pre with
  | some d => setAll [hd.j] [d] μ
  | none => some μ
theorem hdR_eq (hd : Hd) (t : Bool) (μ : Mu) : hdR hd t μ = Rs.nx ((preR hd μ).bind fun (μ2 : Mu) => (if t then setAll [hd.j] [hd.v] μ2 else some μ2).bind fun (μ3 : Mu) => wipeM [hd.i] μ3) := rfl
def preS (hd : Hd) (σ : L2.St) : L2.St := match hd.pre with
  | some d => σ.set hd.j (some (vK d))
  | none => σ
theorem suS_eq (hd : Hd) (t : Bool) (σ : L2.St) : suS hd t σ = if t then (preS hd σ).set hd.j (some (vK hd.v)) else preS hd σ := rfl
theorem hdR_inv {K : PySem.W.Frag} {c : Ent} {L M L' M' : Ads} {W : WXm} {μ1 : Mu} {vs : L2.St} {H H' : Hp} {E : Ends} {hd : Hd} {t : Bool} (S : Sr K c L' M' μ1 vs H') (hds : chkDs hd = true) (hj : ∀ p ∈ c.io, p.1 ≠ hd.j) (p : PostS K c L M W H E (hdR hd t μ1)) :
    ∃ μ3, Sr K c L' M' μ3 (suS hd t vs) H' ∧ freeAll [hd.i] μ3 = true ∧ ∀ L' M' σ' H', Sr K c L' M' (wipeL μ3 [hd.i]) σ' H' → Ext L M H L' M' H' → E.nx σ' H' := by
  rw [hdR_eq] at p
  unfold chkDs at hds
  rw [Bool.and_eq_true] at hds
  obtain ⟨μ2, e2, S2⟩ : ∃ μ2, preR hd μ1 = some μ2 ∧ Sr K c L' M' μ2 (preS hd vs) H' := by
    unfold preS
    cases h2 : preR hd μ1 with
    | none => rw [h2] at p; exact p.elim
    | some μ2 =>
      refine ⟨μ2, rfl, ?_⟩
      unfold preR at h2
      cases hp : hd.pre with
      | none => rw [hp] at h2; cases h2; exact S
      | some d =>
        rw [hp] at h2 hds
        exact set1_inv S hj (dv_const (by cases d <;> simp_all)) h2
  rw [e2] at p
  simp only [Option.bind_some] at p
  obtain ⟨μ3, e3, S3⟩ : ∃ μ3, (if t then setAll [hd.j] [hd.v] μ2 else some μ2) = some μ3 ∧ Sr K c L' M' μ3 (suS hd t vs) H' := by
    rw [suS_eq]
    cases t with
    | false => exact ⟨μ2, rfl, S2⟩
    | true =>
      rw [if_pos rfl, if_pos rfl] at *
      cases hs : setAll [hd.j] [hd.v] μ2 with
      | none => rw [hs] at p; exact p.elim
      | some μ3 => exact ⟨μ3, rfl, set1_inv S2 hj (dv_const hds.2) hs⟩
  rw [e3] at p
  simp only [Option.bind_some] at p
  cases hw : wipeM [hd.i] μ3 with
  | none => rw [hw] at p; exact p.elim
  | some μ4 =>
    rw [hw] at p
    obtain ⟨f, rfl⟩ := wipe_at hw
    exact ⟨μ3, S3, f, p⟩
theorem js_tryX {C : Cn} {X : Cx} {W : WXm} {b : Ss} {hd : Hd} {body su : List Stmt} {n : Str} {np pos' pos : Pos} (G : Good fns gls Wn k xr C X W) (hs : X.stack = X.env :: X.outer ∧ X.env.frame = some X.env.locals) (h2 : gnOk C hd.cn = true) (h3 : isLoc (kindB C.sc n) = true) (h4 : nmOk C hd.i n = true) (h5 : C.ios.contains hd.i = false) (h6 : C.ios.contains hd.j = false) (h7 : (hd.i == hd.j) = false)
    (h8 : (match C.N[hd.j]? with | some jn => tnOk C hd.j jn && chkSu n jn hd su | none => false) = true) (h9 : (hd.ts.all fun t => (htNames t).all fun y => (qNames gls).contains y && gnOk C y) = true) (h10 : (match gls.lookup hd.cn with | some d => (clsOf d).isSome | none => false) = true) (h11 : glB C.sc "isinstance" = true) (h12 : tabOk gls hd = true) (h13 : chkDs hd = true)
    (hb : ∀ (W' : WXm) (pn : List (Addr × Obj)) (xe : Value → Shared → Prop), Takes (X.tr pn xe) (wx xr W') → PassesOwn (model X.prog X.w) X.A X.env xe → JSs (X.tr pn xe) W' C.ios body (execs (sem fns Wn k) Wn b)) :
    JS X W C.ios (.Try body [.ExceptHandler (some (.Name hd.cn np)) (some n) su pos'] [] [] pos) (exec (sem fns Wn k) Wn (.tryX b hd)) := by
  have ij : hd.i ≠ hd.j := fun z => by rw [z] at h7; simp at h7
  split at h8
  · rename_i jn hjn
    rw [Bool.and_eq_true] at h8
    obtain ⟨n1, n2, n3⟩ := G.tn h8.1
    obtain ⟨e1, e2, e3, e4⟩ := G.nm h4
    obtain ⟨g1, g2⟩ := G.gn h2
    have ln : X.env.scope.names.lookup n = some .local := by rw [G.sc]; exact isLoc_of h3
    obtain ⟨b0, sr, rfl⟩ : ∃ b0 sr, su = b0 :: sr := by
      cases su with
      | nil => have := h8.2; simp [chkSu] at this
      | cons b0 sr => exact ⟨b0, sr, rfl⟩
    obtain ⟨cd, ck, csups, cl1, cl2⟩ : ∃ d kk sups, gls.lookup hd.cn = some d ∧ clsOf d = some (kk, sups) := by
      split at h10
      · rename_i d hl
        cases hc : clsOf d with
        | none => rw [hc] at h10; cases h10
        | some q => exact ⟨d, q.1, q.2, hl, hc⟩
      · cases h10
    have hq : hd.cn ∈ qNames gls := List.mem_cons_of_mem _ (List.mem_filterMap.mpr ⟨(hd.cn, cd), lookup_mem cl1, by simp [cl2]⟩)
    have hts : ∀ t ∈ hd.ts, ∀ y ∈ htNames t, y ∈ qNames gls ∧ gnOk C y = true := fun t ht y hy => by
      have := List.all_eq_true.mp (List.all_eq_true.mp h9 t ht) y hy
      rw [Bool.and_eq_true, List.contains_eq_mem, decide_eq_true_eq] at this
      exact this
    -- the class that is caught
    obtain ⟨cv, hcv⟩ : ∃ cv, NmV X.mg hd.cn cv ∧ ∀ x d kk sups Ca, gls.lookup x = some d → clsOf d = some (kk, sups) → X.mg x = some (.ref Ca) → PySem.W.exmOne X.K (.ref Ca) cv = some (decide (hd.cn ∈ sups)) := by
      · have a1 := cl1
        have a2 := cl2
        obtain ⟨Ca, m1, _, so⟩ := G.cl _ _ _ _ a1 a2
        obtain ⟨cv, nm, _, _⟩ := so _ hq
        refine ⟨cv, nm, fun x' d' kk' sups' Ca' b1 b2 b3 => ?_⟩
        obtain ⟨Ca2, m2, _, so2⟩ := G.cl _ _ _ _ b1 b2
        rw [b3] at m2; cases m2
        obtain ⟨cv2, nm2, _, ex2⟩ := so2 _ hq
        have : cv2 = cv := by
          rcases nm2.at_ with q | ⟨q, q', _⟩
          · rcases nm.at_ with r | ⟨r, _, _⟩
            · rw [q] at r; exact Option.some.inj r
            · rw [q] at r; cases r
          · rcases nm.at_ with r | ⟨r, r', _⟩
            · rw [q] at r; cases r
            · rw [q'] at r'; exact Option.some.inj r'
        rw [← this]; exact ex2
    have names : Names X hd.cn cv := ⟨g1, g2, hcv.1.at_⟩
    refine ps_mono (ps_try_as hs.1 hs.2 G.nd e1 ln names G.tk (tb := fun W' D σ H => ∃ Wm : WXm, (∀ cls d σ H, wx xr Wm cls d σ H → W' cls d σ H) ∧ TrS X.K Wm C.ios (execs (sem fns Wn k) Wn b) D σ H)
      (ts := fun a cls d D σ H => d = none ∧ ∃ kk dd sups nm Ca, gls.lookup nm = some dd ∧ clsOf dd = some (kk, sups) ∧ X.mg nm = some (.ref Ca) ∧ cls = .ref Ca ∧ tSu hd a (hd.ts.all (htB sups)) D σ H)
      (fun W' pn xe tk pw => ⟨fun pins s σ H D I ⟨Wm, imp, t⟩ => (hb Wm pn xe (tk.imp imp) pw).run pins s σ H D I t⟩)
      (fun a oe cls d pn hz hf => ⟨fun pins s σ H D I ⟨dn, kk, dd, sups, nm, Ca, l1, l2, l3, l4, t⟩ => ?_⟩)) fun E σ H ⟨c, L, M, μ, hio, S, p⟩ => ?_
    · subst dn l4
      obtain ⟨Ca2, m2, ok, so⟩ := G.cl _ _ _ _ l1 l2
      rw [l3] at m2; cases m2
      refine (pss_su (X := X) (a := a) (pn := pn) hz hf h8.2 (fun t ht => ⟨ok.xc, e1, e2, e3, e4, G.glo h11, G.blt _ (by decide +kernel), fun y hy => ?_, fun y hy => ?_⟩) G.nd n1 n2 n3 ij).run pins s σ H D I t
      · obtain ⟨cv', nm', k1, _⟩ := so y (hts t ht y hy).1
        exact ⟨cv', nm', k1⟩
      · exact G.gn (hts t ht y hy).2
    · have p : PostS X.K c L M W H E (catchR hd (execs (sem fns Wn k) Wn b μ)) := p
      refine ⟨fun x σ' H' => ∀ cls d, xr x cls d H' → wAs X.K cv hd.i (fun a cls d D σ H => d = none ∧ ∃ kk dd sups nm Ca, gls.lookup nm = some dd ∧ clsOf dd = some (kk, sups) ∧ X.mg nm = some (.ref Ca) ∧ cls = .ref Ca ∧ tSu hd a (hd.ts.all (htB sups)) D σ H) (wx xr W) E cls d σ' H', fun cls d σ H ⟨x, q1, q2⟩ => q2 cls d q1, c, L, M, μ, hio, S, ?_⟩
      cases hr : execs (sem fns Wn k) Wn b μ with
      | st => rw [hr] at p; exact p
      | ok fl μ1 => rw [hr] at p; cases fl <;> exact p
      | ex x μ1 =>
        rw [hr] at p
        intro L' M' σ' H' S' ex' cls d hx
        have hx0 := hx
        rw [G.xs] at hx
        obtain ⟨dn, nm, dd, sups, Ca, l1, l2, l3, l4⟩ := hx
        have tab := tab_at h12 l1 l2
        refine ⟨decide (hd.cn ∈ sups), by rw [l4]; exact hcv.2 _ _ _ _ _ l1 l2 l3, fun hb1 a ha => ?_, fun hb1 => ?_⟩
        · rw [decide_eq_true_eq] at hb1
          rw [if_pos hb1] at tab
          have p : PostS X.K c L M W H E (match hd.tab[x.cls]? with
            | some (some t) => hdR hd t μ1
            | _ => .ex x μ1) := p
          rw [tab] at p
          simp only at p
          obtain ⟨μ3, S3, free, q⟩ := hdR_inv (vs := σ') (t := hd.ts.all (htB sups)) S' h13 (io_ne hio (ios_not h6)) p
          have il : hd.i < σ'.length := by
            obtain ⟨s, es, _⟩ := freeAll_of free hd.i (by simp)
            have l1 := (List.getElem?_eq_some_iff.mp es).1
            have l2 := S3.len
            have l3 : (suS hd (hd.ts.all (htB sups)) σ').length = σ'.length := suS_len
            omega
          refine ⟨dn, _, dd, sups, nm, Ca, l1, l2, l3, l4, List.getElem?_set_self il, fun H2 k2 => ?_⟩
          show E.nx ((suS hd (hd.ts.all (htB sups)) (σ'.set hd.i (some (.ref a)))).set hd.i none) H2
          rw [suS_set ij, List.set_set]
          have S4 := (S3.wipe free).mut k2
          exact q L' M' _ H2 S4 (ex'.trans S.ml (.of fun a o e _ => k2 a o e))
        · rw [decide_eq_false_iff_not] at hb1
          rw [if_neg hb1] at tab
          have p : PostS X.K c L M W H E (match hd.tab[x.cls]? with
            | some (some t) => hdR hd t μ1
            | _ => .ex x μ1) := p
          rw [tab] at p
          simp only at p
          exact ⟨x, hx0, p L' M' σ' H' S' ex'⟩
  · cases h8
mutual
theorem sndS : ∀ (s : S) {C : Cn} {X : Cx} {W : WXm} (x : Stmt), Good fns gls Wn k xr C X W → X.env.scope.kind = .function → PassesOwn (model X.prog X.w) X.A X.env X.xe → (X.stack = X.env :: X.outer ∧ X.env.frame = some X.env.locals) → chkS fns gls C s x = true → JS X W C.ios x (exec (sem fns Wn k) Wn s)
  | .asg i e, C, X, W, x, G, hk, hp, hs, h => by
    unfold chkS at h
    split at h
    · rename_i y px v pos
      simp only [Bool.and_eq_true, Bool.not_eq_true'] at h
      obtain ⟨⟨⟨h1, h2⟩, h3⟩, h4⟩ := h
      obtain ⟨n1, n2, n3⟩ := G.tn h1
      rcases swB_cases h4 with q | q
      · obtain ⟨ex, tg, iter, ifs, n, scope, pos', rfl, _⟩ := sw_yes q
        obtain ⟨f, rfl, hf⟩ := chkE_lc h3
        obtain ⟨te, p1, p2⟩ := lc_set (spos := pos) G hk n1 q hf
        exact js_eq (js_asg p1 (fun σ H Q z => p2 σ H Q (tr_tf z)) (ios_not h2)) fun _ => rfl
      · exact js_eq (js_asg (ps_set G.nd n1 n2 (sndE e _ G h3).1 (sw_no G.sc q) n3) (fun _ _ _ z => z) (ios_not h2)) fun _ => rfl
    · cases h
  | .own i f, C, X, W, x, G, hk, hp, hs, h => by
    unfold chkS at h
    split at h
    · rename_i y px v pos
      simp only [Bool.and_eq_true, Bool.not_eq_true'] at h
      obtain ⟨⟨⟨h1, h2⟩, h3⟩, h4⟩ := h
      obtain ⟨n1, n2, n3⟩ := G.tn h1
      have il : i < X.N.length := (List.getElem?_eq_some_iff.mp n1).1
      rcases swB_cases h4 with q | q
      · obtain ⟨te, p1, p2⟩ := lc_set (spos := pos) G hk n1 q h3
        exact js_eq (js_own p1 p2 (ios_not h2) il) fun _ => rfl
      · exact js_eq (js_own (ps_set G.nd n1 n2 (sndF f _ G h3).1 (sw_no G.sc q) n3) (fun _ _ _ z => z) (ios_not h2) il) fun _ => rfl
    · cases h
  | .par i j a b, C, X, W, x, G, hk, hp, hs, h => by
    unfold chkS at h
    split at h
    · rename_i x px y py kt pt ea eb k2 pt2 pos
      simp only [Bool.and_eq_true, Bool.not_eq_true', decide_eq_true_eq] at h
      obtain ⟨⟨⟨⟨⟨⟨⟨⟨⟨⟨⟨⟨⟨h1, h2⟩, h3⟩, h4⟩, h5⟩, h6⟩, h7⟩, h8⟩, h9⟩, h10⟩, h11⟩, h12⟩, h13⟩, h14⟩ := h
      have lx : X.env.scope.names.lookup x = some .local := by rw [G.sc]; exact isLoc_of h5
      have ly : X.env.scope.names.lookup y = some .local := by rw [G.sc]; exact isLoc_of h6
      have hij : i ≠ j := fun z => by subst z; simp at h3
      refine js_eq (js_par (ps_par G.calm G.nd (by rw [G.N]; exact h1) (by rw [G.N]; exact h2) hij lx ly (ja_cons (sndE a _ G h13).1 (ja_cons (sndE b _ G h14).1 ja_nil h9) h8) (sw_pair hk lx ly h4 h7 h8 h9 h10)) (ios_not h11) (ios_not h12)) fun μ => ?_
      show ((ev (sem fns Wn k) a μ).bind fun x μ1 => (ev (sem fns Wn k) b μ1).bind fun y μ2 => match setAll [i, j] [x, y] μ2 with
        | some μ3 => Rs.ok Fl.nx μ3
        | none => .st) = _
      cases ev (sem fns Wn k) a μ with
      | st => rfl
      | ex _ _ => rfl
      | ok x μ1 =>
        show ((ev (sem fns Wn k) b μ1).bind fun y μ2 => match setAll [i, j] [x, y] μ2 with
          | some μ3 => Rs.ok Fl.nx μ3
          | none => .st) = (((ev (sem fns Wn k) b μ1).bind fun x μ1 => (Rs.ok [] μ1).bind fun xs μ2 => .ok (x :: xs) μ2).bind fun xs μ2 => .ok (x :: xs) μ2).bind _
        cases ev (sem fns Wn k) b μ1 with
        | st => rfl
        | ex _ _ => rfl
        | ok y μ2 => rfl
    · cases h
  | .unp is e, C, X, W, x, G, hk, hp, hs, h => by
    unfold chkS at h
    split at h
    · rename_i xs kt pt v pos
      rw [Bool.or_eq_true] at h
      rcases h with h | h
      · simp only [Bool.and_eq_true, Bool.not_eq_true'] at h
        obtain ⟨⟨⟨⟨h1, h2⟩, h3⟩, h4⟩, h5⟩ := h
        obtain ⟨n1, n2⟩ := names_star X.env _ _ h3
        refine js_eq (js_unp (ps_asg (sndE e _ G h5).1 (pg_tup G.calm (G.pgs _ _ h3) n1 n2) (sw_sole h2) (notTup h1) rfl) fun i hi => ?_) fun _ => rfl
        rw [List.all_eq_true] at h4
        exact ios_not (by simpa using h4 i hi)
      · exact snd_par3 G hk h
    · cases h
  | .unpL is e, C, X, W, x, G, hk, hp, hs, h => by
    unfold chkS at h
    split at h
    · rename_i xs kt pt v pos
      simp only [Bool.and_eq_true, Bool.not_eq_true'] at h
      obtain ⟨⟨⟨h1, h3⟩, h4⟩, h5⟩ := h
      obtain ⟨n1, n2⟩ := names_star X.env _ _ h3
      refine js_eq (js_unpL (ps_asg (sndE e _ G h5).1 (pg_lst G.calm (G.pgs _ _ h3) n1 n2) (sw_tup v) (notTup h1) rfl) fun i hi => ?_) fun _ => rfl
      rw [List.all_eq_true] at h4
      exact ios_not (by simpa using h4 i hi)
    · cases h
  | .seti i kx e, C, X, W, x, G, hk, hp, hs, h => by
    unfold chkS at h
    split at h
    · rename_i y p1 ek p2 v pos
      simp only [Bool.and_eq_true, Bool.not_eq_true'] at h
      obtain ⟨⟨⟨⟨h1, h2⟩, h3⟩, h4⟩, h5⟩ := h
      obtain ⟨n1, n2, n3, n4⟩ := G.nm h1
      exact js_eq (js_seti (ps_asg (sndE e _ G h3).1 (pg_sub (pe_var (i := i) n1 n2 n3 n4) (sndE kx _ G h2).1 set_list (sub_plain h5)) (sw_sole h4) rfl rfl)) fun _ => rfl
    · cases h
  | .dset i kx e, C, X, W, x, G, hk, hp, hs, h => by
    unfold chkS at h
    split at h
    · rename_i y p1 ek p2 v pos
      simp only [Bool.and_eq_true, Bool.not_eq_true'] at h
      obtain ⟨⟨⟨⟨h1, h2⟩, h3⟩, h4⟩, h5⟩ := h
      obtain ⟨n1, n2, n3, n4⟩ := G.nm h1
      exact js_eq (js_dset (ps_asg (sndE e _ G h3).1 (pg_sub (pe_var (i := i) n1 n2 n3 n4) (sndE kx _ G h2).1 (set_dct (by have := G.un; omega)) (sub_plain h5)) (sw_sole h4) rfl rfl)) fun _ => rfl
    · cases h
  | .app i e, C, X, W, x, G, hk, hp, hs, h => by
    unfold chkS at h
    split at h
    · simp only [Bool.and_eq_true, Bool.not_eq_true', decide_eq_true_eq] at h
      obtain ⟨⟨⟨⟨rfl, h2⟩, h3⟩, h4⟩, h5⟩ := h
      obtain ⟨n1, n2, n3, n4⟩ := G.nm h2
      exact js_eq (js_app (r := fun _ => .st) (js_expr (je_app n1 n2 n3 n4 (sndE e _ G h5).1 h3 h4) rfl)) fun _ => rfl
    · cases h
  | .ext i e, C, X, W, x, G, hk, hp, hs, h => by
    unfold chkS at h
    split at h
    · simp only [Bool.and_eq_true, Bool.not_eq_true', decide_eq_true_eq] at h
      obtain ⟨⟨⟨⟨rfl, h2⟩, h3⟩, h4⟩, h5⟩ := h
      obtain ⟨n1, n2, n3, n4⟩ := G.nm h2
      exact js_eq (js_ext (r := fun _ => .st) (js_expr (je_ext n1 n2 n3 n4 (sndE e _ G h5).1 h3 h4) rfl)) fun _ => rfl
    · cases h
  | .ins _ _ _, C, X, W, x, G, hk, hp, hs, h => by unfold chkS at h; cases h
  | .app2 _ _ _, C, X, W, x, G, hk, hp, hs, h => by unfold chkS at h; cases h
  | .ex e, C, X, W, x, G, hk, hp, hs, h => by
    unfold chkS at h
    split at h
    · simp only [Bool.and_eq_true, Bool.not_eq_true'] at h
      exact js_eq (js_expr (sndE e _ G h.1).1 (sw_plain h.2)) fun _ => rfl
    · cases h
  | .ife c a b, C, X, W, x, G, hk, hp, hs, h => by
    unfold chkS at h
    split at h
    · simp only [Bool.and_eq_true, Bool.not_eq_true'] at h
      obtain ⟨⟨⟨h1, h2⟩, h3⟩, h4⟩ := h
      exact js_eq (js_if ((sndE c _ G h1).2 h2) (sndSs a _ G hk hp hs h3) (sndSs b _ G hk hp hs h4)) fun _ => rfl
    · cases h
  | .whl c b, C, X, W, x, G, hk, hp, hs, h => by
    unfold chkS at h
    split at h
    · simp only [Bool.and_eq_true, Bool.not_eq_true'] at h
      obtain ⟨⟨h1, h2⟩, h3⟩ := h
      exact js_eq (js_whl (n := Wn) hp ((sndE c _ G h1).2 h2) (sndSs b _ G hk hp hs h3)) fun _ => rfl
    · cases h
  | .for_ t tup it b, C, X, W, x, G, hk, hp, hs, h => by
    unfold chkS at h
    split at h
    · simp only [Bool.and_eq_true, Bool.not_eq_true'] at h
      obtain ⟨⟨⟨⟨h1, h2⟩, h3⟩, h4⟩, h5⟩ := h
      refine js_eq (js_for hp G.calm (sndI it _ _ G h1) (G.pg h3).1 (sndSs b _ G hk hp hs h5) (set_plain h2) (G.pg h3).2 fun i hi => ?_) fun _ => rfl
      rw [List.all_eq_true] at h4
      exact ios_not (by simpa using h4 i hi)
    · cases h
  | .ret e, C, X, W, x, G, hk, hp, hs, h => by
    unfold chkS at h
    split at h
    · exact js_eq (js_ret (sndE e _ G h).1) fun _ => rfl
    · cases h
  | .retF f, C, X, W, x, G, hk, hp, hs, h => by
    unfold chkS at h
    split at h
    · exact js_eq (js_retF (sndF f _ G h).1) fun _ => rfl
    · cases h
  | .pass, C, X, W, x, G, hk, hp, hs, h => by
    unfold chkS at h
    split at h
    · exact js_eq js_pass fun _ => rfl
    · cases h
  | .never, C, X, W, x, G, hk, hp, hs, h => js_eq js_never fun _ => rfl
  | .rse c y, C, X, W, x, G, hk, hp, hs, h => by
    unfold chkS at h
    split at h
    · rename_i z p1 m j p2 p3 pos
      simp only [Bool.and_eq_true, decide_eq_true_eq] at h
      obtain ⟨⟨rfl, h2⟩, h3⟩ := h
      split at h3
      · rename_i d hl
        split at h3
        · rename_i kk sups hc
          have h3 := of_decide_eq_true h3
          subst h3
          obtain ⟨Ca, m1, ok, _⟩ := G.cl _ _ _ _ hl hc
          obtain ⟨g1, g2⟩ := G.gn h2
          exact js_rse G.calm G.tk (pmk_own PySem.F.excBase_ValueError ok.ex m1 ok.kp (raises_own ok.su ok.ty) g1 g2) (by rw [G.xs]; exact fun H => ⟨rfl, _, _, _, _, hl, hc, m1, rfl⟩)
        · cases h3
      · cases h3
    · cases h
  | .tryX b hd, C, X, W, x, G, hk, hp, hs, h => by
    unfold chkS at h
    split at h
    · rename_i body cn np n su pos' pos
      simp only [Bool.and_eq_true, decide_eq_true_eq, Bool.not_eq_true'] at h
      obtain ⟨⟨⟨⟨⟨⟨⟨⟨⟨⟨⟨⟨⟨h1, h2⟩, h3⟩, h4⟩, h5⟩, h6⟩, h7⟩, h8⟩, h9⟩, h10⟩, h11⟩, h12⟩, h13⟩, h14⟩ := h
      subst h1
      exact js_tryX G hs h2 h3 h4 h5 h6 h7 h8 h9 h10 h11 h12 h13 (fun W' pn xe tk pw => sndSs b body (G.tr (W' := W') pn xe tk) hk pw hs h14)
    · cases h
theorem sndSs : ∀ (s : Ss) {C : Cn} {X : Cx} {W : WXm} (xs : List Stmt), Good fns gls Wn k xr C X W → X.env.scope.kind = .function → PassesOwn (model X.prog X.w) X.A X.env X.xe → (X.stack = X.env :: X.outer ∧ X.env.frame = some X.env.locals) → chkSs fns gls C s xs = true → JSs X W C.ios xs (execs (sem fns Wn k) Wn s)
  | .nil, C, X, W, xs, G, hk, hp, hs, h => by
    cases xs with
    | nil => exact jss_nil
    | cons _ _ => simp [chkSs] at h
  | .cons s r, C, X, W, xs, G, hk, hp, hs, h => by
    cases xs with
    | nil => simp [chkSs] at h
    | cons x xs =>
      unfold chkSs at h
      simp only [Bool.and_eq_true] at h
      exact jss_cons (sndS s _ G hk hp hs h.1) (sndSs r _ G hk hp hs h.2)
  | .frz i r, C, X, W, xs, G, hk, hp, hs, h => by
    unfold chkSs at h
    simp only [Bool.and_eq_true, Bool.not_eq_true'] at h
    exact jss_frz (sndSs r _ G hk hp hs h.2) (ios_not h.1)
end
end
end Mn
set_option Elab.async false
set_option linter.all false
set_option maxRecDepth 100000
set_option autoImplicit false
set_option maxHeartbeats 1000000
namespace Mn
open PySem PySem.Spec L2
/-! ## a def -/
section
variable {K : PySem.W.Frag} {H : Hp} {L : Ads}
theorem paired_imp {α β : Type} {R R' : α → β → Prop} (h : ∀ x y, R x y → R' x y) : ∀ {xs : List α} {ys : List β}, Paired R xs ys → Paired R' xs ys
  | _, _, .nil => .nil
  | _, _, .cons r t => .cons (h _ _ r) (paired_imp h t)
/-- the lent objects, by place -/
theorem own_pairs : ∀ {sl : List Sl} {vs : List V} (n : Nat), ArgOk K H L sl vs → Paired (fun i a => ∃ j d, i = n + j ∧ sl[j]? = some (.own d) ∧ vs[j]? = some (.ref a) ∧ OwnAt K H L d a ∧ L a) (ownPos n sl) (ioA sl vs)
  | _, _, n, .nil => .nil
  | .val d :: sl, v :: vs, n, .val w t => by
    have ih := own_pairs (n + 1) t
    have e : ioA (.val d :: sl) (v :: vs) = ioA sl vs := by cases v <;> rfl
    rw [e]
    refine paired_imp ?_ ih
    rintro i a ⟨j, d, rfl, h1, h2, h3⟩
    exact ⟨j + 1, d, by omega, by simpa using h1, by simpa using h2, h3⟩
  | .own d :: sl, .ref a :: vs, n, .own o l t => by
    have ih := own_pairs (n + 1) t
    refine .cons ⟨0, d, rfl, rfl, rfl, o, l⟩ (paired_imp ?_ ih)
    rintro i b ⟨j, d, rfl, h1, h2, h3⟩
    exact ⟨j + 1, d, by omega, by simpa using h1, by simpa using h2, h3⟩
theorem arg_own : ∀ {sl : List Sl} {vs : List V} (n : Nat) {j : Nat} {d : D}, ArgOk K H L sl vs → sl[j]? = some (.own d) → n + j ∈ ownPos n sl
  | _, _, n, j, d, .nil, h => by simp at h
  | .val d' :: sl, v :: vs, n, j, d, .val w t, h => by
    cases j with
    | zero => simp at h
    | succ j =>
      have := arg_own (n + 1) t (by simpa using h)
      rw [show n + 1 + j = n + (j + 1) by omega] at this
      exact this
  | .own d' :: sl, .ref a :: vs, n, j, d, .own o l t, h => by
    cases j with
    | zero => exact List.mem_cons_self
    | succ j =>
      have := arg_own (n + 1) t (by simpa using h)
      rw [show n + 1 + j = n + (j + 1) by omega] at this
      exact List.mem_cons_of_mem _ this
theorem arg_val : ∀ {sl : List Sl} {vs : List V} {j : Nat} {d : D}, ArgOk K H L sl vs → sl[j]? = some (.val d) → ∃ v, vs[j]? = some v ∧ Dv K H L d v
  | _, _, j, d, .nil, h => by simp at h
  | .val d' :: sl, v :: vs, j, d, .val w t, h => by
    cases j with
    | zero => simp at h; subst h; exact ⟨v, rfl, w⟩
    | succ j =>
      obtain ⟨u, h1, h2⟩ := arg_val t (show sl[j]? = some (.val d) by simpa using h)
      exact ⟨u, by simpa using h1, h2⟩
  | .own d' :: sl, .ref a :: vs, j, d, .own o l t, h => by
    cases j with
    | zero => simp at h
    | succ j =>
      obtain ⟨u, h1, h2⟩ := arg_val t (show sl[j]? = some (.val d) by simpa using h)
      exact ⟨u, by simpa using h1, h2⟩
theorem arg_kind : ∀ {sl : List Sl} {vs : List V} {j : Nat} {s : Sl}, ArgOk K H L sl vs → sl[j]? = some s → (∃ d, s = .val d) ∨ ∃ d, s = .own d
  | _, _, j, s, .nil, h => by simp at h
  | .val d' :: sl, v :: vs, j, s, .val w t, h => by
    cases j with
    | zero => simp at h; exact .inl ⟨d', h.symm⟩
    | succ j => exact arg_kind t (show sl[j]? = some s by simpa using h)
  | .own d' :: sl, .ref a :: vs, j, s, .own o l t, h => by
    cases j with
    | zero => simp at h; exact .inr ⟨d', h.symm⟩
    | succ j => exact arg_kind t (show sl[j]? = some s by simpa using h)
theorem paired_zip {α β : Type} {R : α → β → Prop} : ∀ {xs : List α} {ys : List β}, Paired R xs ys → (xs.zip ys).map (·.1) = xs ∧ ∀ p ∈ xs.zip ys, R p.1 p.2
  | _, _, .nil => ⟨rfl, fun p hp => by simp at hp⟩
  | _, _, .cons r t => by
    obtain ⟨h1, h2⟩ := paired_zip t
    refine ⟨by rw [List.zip_cons_cons, List.map_cons, h1], fun p hp => ?_⟩
    rw [List.zip_cons_cons] at hp
    rcases List.mem_cons.mp hp with rfl | hp
    · exact r
    · exact h2 p hp
theorem paired_mem {α β : Type} {R : α → β → Prop} : ∀ {xs : List α} {ys : List β}, Paired R xs ys → (∀ x ∈ xs, ∃ y, (x, y) ∈ xs.zip ys) ∧ ∀ y ∈ ys, ∃ x, (x, y) ∈ xs.zip ys
  | _, _, .nil => ⟨fun x h => by simp at h, fun x h => by simp at h⟩
  | x :: xs, y :: ys, .cons r t => by
    obtain ⟨h1, h2⟩ := paired_mem t
    rw [List.zip_cons_cons]
    constructor
    · intro z hz
      rcases List.mem_cons.mp hz with rfl | hz
      · exact ⟨y, List.mem_cons_self⟩
      · obtain ⟨w, hw⟩ := h1 z hz; exact ⟨w, List.mem_cons_of_mem _ hw⟩
    · intro z hz
      rcases List.mem_cons.mp hz with rfl | hz
      · exact ⟨x, List.mem_cons_self⟩
      · obtain ⟨w, hw⟩ := h2 z hz; exact ⟨w, List.mem_cons_of_mem _ hw⟩
theorem zip_inj {α β : Type} : ∀ {xs : List α} {ys : List β} {x1 x2 : α} {y : β}, ys.Nodup → (x1, y) ∈ xs.zip ys → (x2, y) ∈ xs.zip ys → x1 = x2
  | [], _, _, _, _, _, h, _ => by simp at h
  | _ :: _, [], _, _, _, _, h, _ => by simp at h
  | x :: xs, y0 :: ys, x1, x2, y, nd, h1, h2 => by
    rw [List.zip_cons_cons] at h1 h2
    rw [List.nodup_cons] at nd
    have inY : ∀ {z : α}, (z, y) ∈ xs.zip ys → y ∈ ys := fun h => (List.of_mem_zip h).2
    rcases List.mem_cons.mp h1 with e1 | h1
    · rcases List.mem_cons.mp h2 with e2 | h2
      · cases e1; cases e2; rfl
      · cases e1; exact absurd (inY h2) nd.1
    · rcases List.mem_cons.mp h2 with e2 | h2
      · cases e2; exact absurd (inY h1) nd.1
      · exact zip_inj nd.2 h1 h2
/-- the frame at a def's entry -/
theorem entry {sl : List Sl} {vs : List V} {N : List Str} (ok : ArgOk K H L sl vs) (nd : (ioA sl vs).Nodup) (trk : ∀ a, L a → H a ≠ none) (hl : sl.length ≤ N.length) :
    Sr K ⟨H, L, (ownPos 0 sl).zip (ioA sl vs), []⟩ L (fun a => a ∈ ioA sl vs) (sl ++ List.replicate (N.length - sl.length) .no) (L2.start N vs) H := by
  have pr := own_pairs 0 ok
  obtain ⟨z1, z2⟩ := paired_zip pr
  obtain ⟨m1, m2⟩ := paired_mem pr
  have ll := ok.length
  have inSl : ∀ (i : Nat) (s : Sl), (sl ++ List.replicate (N.length - sl.length) Sl.no)[i]? = some s → s ≠ .no → sl[i]? = some s := fun i s e n => by
    by_cases hi : i < sl.length
    · rwa [List.getElem?_append_left hi] at e
    · rw [List.getElem?_append_right (by omega), List.getElem?_replicate] at e
      split at e
      · cases e; exact absurd rfl n
      · cases e
  have inSt : ∀ (i : Nat) (v : V), vs[i]? = some v → (L2.start N vs)[i]? = some (some v) := fun i v e => by
    unfold L2.start
    have hi : i < vs.length := (List.getElem?_eq_some_iff.mp e).1
    rw [List.getElem?_append_left (by rw [List.length_map]; exact hi), List.getElem?_map, e]; rfl
  have stIn : ∀ (i : Nat) (v : V), i < vs.length → (L2.start N vs)[i]? = some (some v) → vs[i]? = some v := fun i v hi e => by
    unfold L2.start at e
    rw [List.getElem?_append_left (by rw [List.length_map]; exact hi), List.getElem?_map] at e
    cases q : vs[i]? with
    | none => rw [q] at e; cases e
    | some u => rw [q] at e; cases e; rfl
  have ownAt : ∀ (i : Nat) (d : D), sl[i]? = some (.own d) → ∃ a, vs[i]? = some (.ref a) ∧ OwnAt K H L d a ∧ L a ∧ (i, a) ∈ (ownPos 0 sl).zip (ioA sl vs) := fun i d e => by
    have := arg_own 0 ok e
    rw [Nat.zero_add] at this
    obtain ⟨a, ha⟩ := m1 i this
    obtain ⟨j, d', e1, e2, e3, e4, e5⟩ := z2 _ ha
    have : j = i := by simpa using e1.symm
    subst this
    rw [e] at e2; cases e2
    exact ⟨a, e3, e4, e5, ha⟩
  have heldOwn : ∀ (i : Nat) (s : Sl), (sl ++ List.replicate (N.length - sl.length) Sl.no)[i]? = some s → s.held = true → ∃ d, sl[i]? = some (.own d) := fun i s e h => by
    have q := inSl i s e (fun z => by subst z; cases h)
    rcases arg_kind ok q with ⟨d, rfl⟩ | ⟨d, rfl⟩
    · cases h
    · exact ⟨d, q⟩
  refine ⟨?_, fun i d e => ?_, fun i d e => ?_, fun i d e => ?_, fun i j s t a e1 h1 e2 h2 q1 q2 => ?_, fun a h => ?_, fun a h => ?_, fun a h => h, fun a h => ?_, trk, trk, fun a o e _ => e, fun p hp => ?_, fun p hp => ?_⟩
  · unfold L2.start; rw [List.length_append, List.length_append, List.length_map, List.length_replicate, List.length_replicate, ll]
  · obtain ⟨v, e1, e2⟩ := arg_val ok (inSl i _ e (by simp))
    exact ⟨v, inSt i v e1, e2⟩
  · obtain ⟨a, e1, e2, e3, e4⟩ := ownAt i d (inSl i _ e (by simp))
    exact ⟨a, inSt i _ e1, e2, (List.of_mem_zip e4).2⟩
  · rcases arg_kind ok (inSl i _ e (by simp)) with ⟨d, z⟩ | ⟨d, z⟩
    · cases z
    · cases z
  · obtain ⟨d1, w1⟩ := heldOwn i s e1 h1
    obtain ⟨d2, w2⟩ := heldOwn j t e2 h2
    obtain ⟨a1, p1, _, _, p4⟩ := ownAt i d1 w1
    obtain ⟨a2, r1, _, _, r4⟩ := ownAt j d2 w2
    rw [inSt i _ p1] at q1; cases q1
    rw [inSt j _ r1] at q2; cases q2
    exact zip_inj nd p4 r4
  · obtain ⟨x, hx⟩ := m2 a h
    obtain ⟨j, d', e1, e2, e3, e4, e5⟩ := z2 _ hx
    exact e5
  · obtain ⟨p, hp, _⟩ := h
    simp at hp
  · obtain ⟨x, hx⟩ := m2 a h
    exact .inl ⟨(x, a), hx, rfl⟩
  · obtain ⟨j, d, e1, e2, e3, _⟩ := z2 p hp
    have : j = p.1 := by simpa using e1.symm
    subst this
    refine ⟨inSt _ _ e3, .own d, ?_, rfl⟩
    rw [List.getElem?_append_left (List.getElem?_eq_some_iff.mp e2).1]; exact e2
  · simp at hp
/-- what the lent objects hold behind -/
theorem outs_ok {c : Ent} {L' M' : Ads} {μ' : Mu} {σ' : St} {H' : Hp} (S : Sr K c L' M' μ' σ' H') (sub : ∀ a, L a → L' a) : ∀ {is : List Nat} {as : List Addr} {outs : List D}, (∀ p ∈ is.zip as, p ∈ c.io) → is.length = as.length → outsOf is μ' = some outs → OutOk K H' L as outs
  | [], [], outs, _, _, h => by cases h; exact .nil
  | i :: is, a :: as, outs, hz, hl, h => by
    unfold outsOf at h
    cases q1 : owned μ' i with
    | none => rw [q1] at h; cases h
    | some d =>
      rw [q1] at h
      cases q2 : outsOf is μ' with
      | none => rw [q2] at h; cases h
      | some ds =>
        rw [q2] at h
        cases h
        obtain ⟨a', e1, e2, _⟩ := S.own i d (owned_at q1)
        obtain ⟨e3, _⟩ := S.io (i, a) (hz _ (by rw [List.zip_cons_cons]; exact List.mem_cons_self))
        have e3 : σ'[i]? = some (some (.ref a)) := e3
        rw [e1] at e3; cases e3
        exact .cons (e2.anti sub) (outs_ok S sub (fun p hp => hz p (by rw [List.zip_cons_cons]; exact List.mem_cons_of_mem _ hp)) (by simpa using hl) q2)
  | [], _ :: _, _, _, hl, _ => by simp at hl
  | _ :: _, [], _, _, hl, _ => by simp at hl
end
/-! a def's text -/
def parOk (sc : Scope) (x : Str) : Bool := isLoc (kindB sc x) || isCel (kindB sc x)
def isFnK : ScopeKind → Bool
  | .function => true
  | _ => false
def chkFn (fns : List Fn) (gls : List (Str × D)) (fn : Fn) (st : Stmt) : Bool :=
  isFnK (defScope st).kind && !(defScope st).isCoroutine && !(defScope st).isGenerator && decide fn.N.Nodup && decide (fn.N.take fn.ps.length = fn.ps) && fn.ps.all (parOk (defScope st)) && (defScope st).names.all (fun y => !isFre (some y.2)) &&
    chkSs fns gls ⟨fn.N, defScope st, fn.io, fun _ => true⟩ fn.body (defBody st)
theorem chkFn_of {fns : List Fn} {gls : List (Str × D)} {fn : Fn} {st : Stmt} (h : chkFn fns gls fn st = true) : FnScope fn.N fn.ps (defScope st) ∧ chkSs fns gls ⟨fn.N, defScope st, fn.io, fun _ => true⟩ fn.body (defBody st) = true := by
  unfold chkFn at h
  simp only [Bool.and_eq_true, Bool.not_eq_true', decide_eq_true_eq, List.all_eq_true] at h
  obtain ⟨⟨⟨⟨⟨⟨⟨h1, h2⟩, h3⟩, h4⟩, h5⟩, h6⟩, h7⟩, h8⟩ := h
  refine ⟨⟨?_, h2, h3, h4, h5, fun x hx => ?_, fun y hy z => ?_⟩, h8⟩
  · unfold isFnK at h1
    split at h1
    · assumption
    · cases h1
  · have := h6 x hx
    unfold parOk at this
    rw [Bool.or_eq_true] at this
    rcases this with q | q
    · exact .inl (isLoc_of q)
    · exact .inr (isCel_of q)
  · have := h7 y hy
    rw [z] at this; cases this
section
variable {P : Program} {w : World} {K : PySem.W.Frag} {mg : Str → Option Value} {base : Heap} {fns : List Fn} {gls : List (Str × D)} {Wn : Nat} {xr : XRl}
theorem sp_len {n : Nat} {G : List Sl → FR} {ps : List Str} (hn : n = ps.length) : ∀ vs H Q E, spF K xr n G vs H Q E → vs.length = ps.length := by
  rintro vs H Q E ⟨L, sl, ok, hl, _⟩
  rw [← ok.length, hl, hn]
/-- what is known of the defs -/
structure Prg (P : Program) (w : World) (K : PySem.W.Frag) (mg : Str → Option Value) (fns : List Fn) (gls : List (Str × D)) : Prop where
  fns : ∀ (f : Nat) (fn : Fn), fns[f]? = some fn → ∃ (st : Stmt) (fa : Addr) (fd : FuncData), L2.Fun K fn.nm fn.nm st fa fd ∧ mg fn.nm = some (.ref fa) ∧ Binds K fd fn.ps [] ∧ chkFn fns gls fn st = true
  blt : ∀ x ∈ bltNames, mg x = none
  gl : ∀ x d, gls.lookup x = some d → clsOf d = none → ∃ v u, mg x = some u ∧ RelV v u ∧ ∀ H L, Dv K H L d v
  cl : ∀ x d k sups, gls.lookup x = some d → clsOf d = some (k, sups) → ∃ C, mg x = some (.ref C) ∧ ClsOk K C ∧ ∀ y ∈ qNames gls, SupOk2 K mg C sups y
theorem fn_level (hxr : xr = xrG mg gls) (G : Prg P w K mg fns gls) : ∀ (k : Nat) (f : Nat) (fn : Fn) (st : Stmt) (fa : Addr) (fd : FuncData), fns[f]? = some fn → L2.Fun K fn.nm fn.nm st fa fd → chkFn fns gls fn st = true →
    FnG P w K mg base (L2.CX P w) k fa fd fn.ps (spF K xr fn.ps.length (sem fns Wn k f)) := by
  intro k
  induction k with
  | zero =>
    intro f fn st fa fd hf F hc
    refine ⟨sp_len rfl, fun A outer s H args us vs Q E _ _ _ _ _ prom => ?_⟩
    obtain ⟨_, _, _, _, _, _, z⟩ := prom
    exact z.elim
  | succ k ih =>
    intro f fn st fa fd hf F hc
    obtain ⟨S, hb⟩ := chkFn_of hc
    obtain ⟨oc, od, kV, doc, pm, an, cdv, ct, osl, rfl, lk, hcd⟩ := F.ex
    refine fnG_of lk hcd S (sp_len rfl) fun A outer s H vs Q E room hg prom => ?_
    have tk0 : Takes (cxOf (L2.CX P w) P w K mg base fn.N fn.nm (defScope st) fa cdv A outer s H E) (fun cls d _ H' => E cls d H') := takes_of rfl rfl rfl rfl
    have good : Good fns gls Wn k xr ⟨fn.N, defScope st, fn.io, fun _ => true⟩ (cxOf (L2.CX P w) P w K mg base fn.N fn.nm (defScope st) fa cdv A outer s H E) (fun x _ H' => ∀ cls d, xr x cls d H' → E cls d H') := {
      N := rfl
      nd := S.nd
      sc := rfl
      fn := fun _ _ => rfl
      calm := rfl
      room := room
      gd := hg
      fns := fun f' fn' hf' => by
        obtain ⟨st', fa', fd', F', m', b', c'⟩ := G.fns f' fn' hf'
        exact ⟨fa', fd', m', F'.kp, b', ih f' fn' st' fa' fd' hf' F' c'⟩
      blt := G.blt
      gl := G.gl
      cl := G.cl
      xs := hxr
      tk := tk0.imp fun cls d σ H' ⟨x, h1, h2⟩ => h2 cls d h1 }
    have js := sndSs fn.body (defBody st) good S.kind (passes_of rfl) ⟨rfl, rfl⟩ hb
    refine ⟨_, js, ?_⟩
    obtain ⟨L, sl, ok, hl, nd, trk, z⟩ := prom
    have z : (match sem fns Wn (k + 1) f sl with
      | .ok d outs => ∀ v H', (∀ a o, H a = some o → a ∉ ioA sl vs → H' a = some o) → Dv K H' L d v → OutOk K H' L (ioA sl vs) outs → Q v H'
      | .fr d outs => ∀ a H', (∀ a o, H a = some o → a ∉ ioA sl vs → H' a = some o) → H a = none → OwnAt K H' (plusA L a) d a → OutOk K H' (plusA L a) (ioA sl vs) outs → Q (.ref a) H'
      | .ex x outs => ∀ cls d H', (∀ a o, H a = some o → a ∉ ioA sl vs → H' a = some o) → xr x cls d H' → OutOk K H' L (ioA sl vs) outs → E cls d H'
      | .st => False) := z
    unfold sem at z
    rw [hf] at z
    simp only at z
    unfold runFn at z
    by_cases hio : (decide (sl.length = fn.ps.length) && decide (fn.io = ownPos 0 sl)) = true
    · rw [if_pos hio] at z
      simp only [Bool.and_eq_true, decide_eq_true_eq] at hio
      have hN : sl.length ≤ fn.N.length := by
        have := congrArg List.length S.pre
        rw [List.length_take] at this; omega
      have pr := own_pairs 0 ok
      obtain ⟨z1, z2⟩ := paired_zip pr
      have sr := entry (N := fn.N) ok nd trk hN
      have lenE : (ownPos 0 sl).length = (ioA sl vs).length := by
        have e1 := congrArg List.length z1
        rw [List.length_map, List.length_zip] at e1
        have aux : ∀ {α β : Type} {R : α → β → Prop} {xs : List α} {ys : List β}, Paired R xs ys → xs.length = ys.length := fun {α β R xs ys} h => by
          induction h with
          | nil => rfl
          | cons _ _ ih => simp [ih]
        exact aux pr
      rw [← hio.1] at z
      refine ⟨_, L, _, _, by rw [hio.2]; exact z1, sr, ?_⟩
      have kpE : ∀ {L' M' : Ads} {μ' : Mu} {σ' : St} {H' : Hp}, Sr K ⟨H, L, (ownPos 0 sl).zip (ioA sl vs), []⟩ L' M' μ' σ' H' → ∀ a o, H a = some o → a ∉ ioA sl vs → H' a = some o := fun S' a o e n => S'.keep a o e fun ⟨p, hp, e2⟩ => n (by rw [← e2]; exact (List.of_mem_zip hp).2)
      rw [hio.2] at z
      generalize execs (sem fns Wn k) Wn fn.body (sl ++ List.replicate (fn.N.length - sl.length) .no) = r at z ⊢
      cases r with
      | st => exact z
      | ex x μ' =>
        intro L' M' σ' H' S' _ cls d hx
        simp only at z
        cases ho : outsOf (ownPos 0 sl) μ' with
        | none => rw [ho] at z; exact z.elim
        | some outs =>
          rw [ho] at z
          exact z cls d H' (kpE S') hx (outs_ok S' S'.l0 (fun p hp => hp) lenE ho)
      | ok fl μ' =>
        simp only at z
        cases ho : outsOf (ownPos 0 sl) μ' with
        | none => rw [ho] at z; exact z.elim
        | some outs =>
          rw [ho] at z
          simp only at z
          cases fl with
          | nx => exact fun L' M' σ' H' S' _ => z .non H' (kpE S') .non (outs_ok S' S'.l0 (fun p hp => hp) lenE ho)
          | rt d => exact fun v L' M' σ' H' S' _ dv => z v H' (kpE S') (dv.anti S'.l0) (outs_ok S' S'.l0 (fun p hp => hp) lenE ho)
          | rf d =>
            intro a L' M' σ' H' S' S2 _ nL n0 f
            have na : H a = none := by
              rcases n0 with n0 | n0
              · exact n0
              · obtain ⟨p, hp, e⟩ := n0
                exfalso
                have hio2 := S'.io p hp
                obtain ⟨e1, s2, e3, e4⟩ := hio2
                cases s2 with
                | no => cases e4
                | val _ => cases e4
                | own d2 =>
                  obtain ⟨a2, g1, _, g3⟩ := S'.own _ _ e3
                  rw [e1] at g1; cases g1
                  exact nL (by rw [← e]; exact S'.ml _ g3)
                | lck d2 =>
                  obtain ⟨a2, g1, _, g3⟩ := S'.lck _ _ e3
                  simp at g3
            have sub : ∀ b, plusA L a b → plusA L' a b := fun b h => h.imp_left (S'.l0 b)
            have ow : OwnAt K H' (plusA L' a) d a := f
            exact z a H' (kpE S') na (ow.anti sub) (outs_ok S2 sub (fun p hp => hp) lenE ho)
    · rw [if_neg hio] at z; exact z.elim
end
end Mn
set_option Elab.async false
set_option linter.all false
set_option maxRecDepth 100000
set_option autoImplicit false
set_option maxHeartbeats 1000000
namespace Mn
open PySem PySem.Spec L2 PyProof.Rows
/-! ## the law's own call -/
section
variable {P : Program} {w : World} {K : PySem.W.Frag} {mg mb : Str → Option Value} {k : Nat} {fa a : Addr} {fd : FuncData} {x : Str} {sp : Sp} {s₁ : Shared} {vs : List Value} {ns : List Int}
/-- from a heap that tracks the script at most -/
theorem call_at {H : Hp} (KX : K.In s₁.heap) (hns : s₁.heap.Ns mainGlobals mg) (hb : s₁.heap.Ns builtinsNs mb) (hbb : ∀ x : Str, x ≠ "__name__" → mb x = bootBuiltins x) (hlim : s₁.heap.NoLimit) (hgen : s₁.gens = #[])
    (ha : s₁.heap.get? a = some { cls := .type "list", data := .seq vs.toArray }) (hr : Room k callerA) (hF : ∀ base : Heap, FnG P w K mg base (L2.CX P w) k fa fd [x] sp) (hbind : BindsTo s₁ fd ⟨[.ref a], []⟩ [(x, .ref a)])
    (only : Only H) (one : ∀ b, H b ≠ none → b = a) (off : H a ≠ none → K.lookup a = none) (ok : HOk P w H s₁.heap) (hsp : sp [.ref a] H (fun v _ => v = .bl true) fun _ _ _ => False)
    (hCX : ∀ H e s', L2.CX P w [] H s₁ (fun _ _ _ => False) e s' → False) :
    codeAny (model P w) callerA (.call (.ref fa) ⟨[.ref a], []⟩) (fun r s' => r = .ok (.ret (.bool true)) ∧ OldK s₁.heap s'.heap ∧ s'.os = s₁.os ∧ AllBare s'.gens) s₁ := by
  have free : ∀ {b : Addr} {o : Obj}, s₁.heap.get? b = some o → (∀ u n, o.data ≠ .seq u n) → H b = none := fun {b o} e nd => by
    by_cases z : H b = none
    · exact z
    · have := one b z
      rw [this, ha] at e
      exact absurd rfl ((Option.some.inj e) ▸ nd vs.toArray _)
  have ns_in : ∀ {b : Addr} {m : Str → Option Value}, s₁.heap.Ns b m → (hidT s₁.heap H).Ns b m := by
    rintro b m ⟨o, es, ep, e, d, r⟩
    exact ⟨o, es, ep, hidT_get e (free e fun u n z => by rw [d] at z; cases z), d, r⟩
  have k_in : K.In (hidT s₁.heap H) := fun b o e => hidT_get (KX b o e) (by
    by_cases z : H b = none
    · exact z
    · have eb := one b z
      subst eb
      rw [off z] at e; cases e)
  obtain ⟨mc, c1, c2⟩ := hlim
  have md : Mod K mg (hidT s₁.heap H) := ⟨k_in, ns_in hns, ⟨mb, ns_in hb, hbb⟩, ⟨mc, ns_in c1, c2⟩⟩
  have start : Env0 P w K mg (hidT s₁.heap H) callerA [] s₁ H := ⟨rfl, md, fun b o e => of_hidT e, Nat.le_of_eq (hidT_size _ _), trivial, (fun b hb => by cases hb), ok, .of_eq hgen⟩
  have run := (hF (hidT s₁.heap H)).run callerA [] s₁ H ⟨[.ref a], []⟩ [.ref a] [.ref a] (fun v _ => v = .bl true) (fun _ _ _ => False) hr rfl start hbind (.cons rfl .nil) hsp
  refine codeAny_mono run fun r s' h => ?_
  rcases r with e | fl
  · exact (hCX H e s' h).elim
  · rcases fl with _ | _ | _ | u
    all_goals first | exact h.elim | skip
    obtain ⟨v, H', os, bare, un, ok', r', q⟩ := h
    cases (show v = .bl true from q)
    cases (show _ = Value.bool true from r')
    refine ⟨rfl, OldK.of_keep fun b o e => ?_, os, bare⟩
    rcases only b with z | ⟨ob, xs, z⟩
    · exact un.keep b o e z (fun y => by cases y) (by simp)
    · obtain ⟨e1, _⟩ := ok b _ z
      obtain ⟨e2, _⟩ := ok' b _ (un.frzs b ob _ z)
      rw [e] at e1; cases e1; exact e2
/-- the script as data -/
theorem law_run {xr : XRl} {fns : List Fn} {Wn li : Nat} (KX : K.In s₁.heap) (hns : s₁.heap.Ns mainGlobals mg) (hb : s₁.heap.Ns builtinsNs mb) (hbb : ∀ x : Str, x ≠ "__name__" → mb x = bootBuiltins x) (hlim : s₁.heap.NoLimit) (hgen : s₁.gens = #[])
    (ha : s₁.heap.get? a = some { cls := .type "list", data := .seq vs.toArray }) (hi : IntsAre vs ns) (hl : ns.length ≤ sizeLine) (hr : Room k callerA)
    (hF : ∀ base : Heap, FnG P w K mg base (L2.CX P w) k fa fd [x] (spF K xr 1 (sem fns Wn k li))) (hbind : BindsTo s₁ fd ⟨[.ref a], []⟩ [(x, .ref a)])
    (hsem : sem fns Wn k li [.val (.list (ns.map .int))] = .ok (.bool true) [])
    (hCX : ∀ H e s', L2.CX P w [] H s₁ (fun _ _ _ => False) e s' → False) :
    codeAny (model P w) callerA (.call (.ref fa) ⟨[.ref a], []⟩) (fun r s' => r = .ok (.ret (.bool true)) ∧ OldK s₁.heap s'.heap ∧ s'.os = s₁.os ∧ AllBare s'.gens) s₁ := by
  have rv := vals_ints hi
  have lv := hi.length
  have prom : ∀ H : Hp, Dv K H (fun _ => False) (.list (ns.map .int)) (.ref a) → spF K xr 1 (sem fns Wn k li) [.ref a] H (fun v _ => v = .bl true) fun _ _ _ => False := fun H d => by
    refine ⟨fun _ => False, [.val (.list (ns.map .int))], .val d .nil, rfl, List.nodup_nil, (fun _ h => h.elim), ?_⟩
    rw [hsem]
    intro v H' _ dv _
    exact dv.bool_inv
  cases hk : K.lookup a with
  | some o =>
    have e := KX a o hk
    rw [ha] at e
    have e := Option.some.inj e
    subst e
    refine call_at (H := fun _ => none) KX hns hb hbb hlim hgen ha hr hF hbind (fun _ => .inl rfl) (fun b z => absurd rfl z) (fun z => absurd rfl z) (fun b u z => by cases z) (prom _ (.lstK ⟨vs.toArray, _, hk, ?_, ?_⟩ (Dvs.ofInts ns))) hCX
    · rw [List.size_toArray, lv]; exact hl
    · exact rv
  | none =>
    refine call_at (H := fun b => if b = a then some (.frz { cls := .type "list", data := .seq vs.toArray } (.lst (ns.map V.int))) else none) KX hns hb hbb hlim hgen ha hr hF hbind (fun b => ?_) (fun b z => ?_) (fun _ => hk) (fun b u z => ?_) (prom _ (.lst (fun h => h) (.inr ⟨{ cls := .type "list", data := .seq vs.toArray }, if_pos rfl⟩) (Dvs.ofInts ns))) hCX
    · by_cases q : b = a
      · exact .inr ⟨_, _, if_pos q⟩
      · exact .inl (if_neg q)
    · by_cases q : b = a
      · exact q
      · simp only [q, if_false] at z; exact absurd rfl z
    · by_cases q : b = a
      · simp only [q, if_true, Option.some.injEq] at z
        subst z q
        exact ⟨ha, by rw [List.length_map]; exact hl, vs, _, rv, ha⟩
      · simp only [q, if_false] at z; cases z
end
theorem no_exc {P : Program} {w : World} {H : Hp} {s s' : Shared} {e : Value} (h : L2.CX P w [] H s (fun _ _ _ => False) e s') : False := by
  obtain ⟨_, _, _, _, _, _, _, _, _, _, _, _, z⟩ := h
  exact z
/-- the goal that k_head leaves -/
theorem walk_mn {l : PySem.W.OpenLaw} {n k : Nat} {q : Program} {loose : List Str} {XP : (Str → Option Value) → Heap → Prop} {YP : World → Heap → Prop} {d : DefRec} {K : Params → PySem.W.Frag} {fns : List Fn} {gls : List (Str × D)} {Wn li : Nat} {fn : Fn} {x : Str}
    (hn : l.most = some n) (hn2 : n ≤ sizeLine) (hdf : d.params.defaults = []) (hr : Room k callerA) (hY : ∀ (w : World) (h : Heap), YP w h → (K w.params).In h) (hf : fns[li]? = some fn) (hnm : fn.nm = d.name) (hps : fn.ps = [x])
    (G : ∀ (w : World) (mg : Str → Option Value) (h : Heap), (K w.params).In h → h.Ns mainGlobals mg → Prg l.prog w (K w.params) mg fns gls)
    (hsem : ∀ ns : List Int, ns.length ≤ n → sem fns Wn k li [.val (.list (ns.map .int))] = .ok (.bool true) []) :
    PySem.W.WalkO q loose XP YP l.row.toRowW d [] (fun f vs => PySem.call f vs) := by
  refine Att.attach_call hn hdf fun w s₀ s₁ mg mb fa o pm cd doc a vs ns T Y ho hd hcd hmg hobj hints hlen hgen => ?_
  have KX := hY w _ Y
  have pg := G w mg _ KX T.T.g
  obtain ⟨st, fa', fd, F, m, b, c⟩ := pg.fns li fn hf
  have e : fa' = fa := by rw [hnm, hmg] at m; cases m; rfl
  subst e
  have FG : ∀ base : Heap, FnG l.prog w (K w.params) mg base (L2.CX l.prog w) k fa' fd [x] (spF (K w.params) (xrG mg gls) 1 (sem fns Wn k li)) := fun base => by
    have := fn_level (base := base) (Wn := Wn) (xr := xrG mg gls) rfl pg k li fn st fa' fd hf F c
    rw [hps] at this
    exact this
  have bt : BindsTo s₁ fd ⟨[.ref a], []⟩ [(x, .ref a)] := by
    have := b s₁ [.ref a] KX (by rw [hps]; rfl)
    rwa [hps] at this
  exact law_run KX T.T.g T.T.b T.T.builtins T.T.nolimit hgen hobj hints (Nat.le_trans hlen hn2) hr FG bt (hsem ns hlen) fun H e s' => no_exc
end Mn
set_option Elab.async false
set_option linter.all false
set_option maxRecDepth 100000
set_option autoImplicit false
namespace Mn
open PySem PySem.Spec
/-! ## steps, as rules for simp -/
section
variable {F : Nat → List Sl → FR} {W : Nat}
@[simp] theorem ev_var (i : Nat) (μ : Mu) : ev F (.var i) μ = Rs.opt (look μ i) μ := rfl
@[simp] theorem ev_int (i : Int) (μ : Mu) : ev F (.int i) μ = .ok (.int i) μ := rfl
@[simp] theorem ev_bl (i : Bool) (μ : Mu) : ev F (.bl i) μ = .ok (.bool i) μ := rfl
@[simp] theorem ev_str (i : Str) (μ : Mu) : ev F (.str i) μ = .ok (.str i) μ := rfl
@[simp] theorem ev_non (μ : Mu) : ev F .non μ = .ok .none μ := rfl
@[simp] theorem ev_glob (x : Str) (d : D) (μ : Mu) : ev F (.glob x d) μ = .ok d μ := rfl
@[simp] theorem ev_bin (op : BOp) (a b : E) (μ : Mu) : ev F (.bin op a b) μ = (ev F a μ).bind fun x μ1 => (ev F b μ1).bind fun y μ2 => Rs.opt (binD op x y) μ2 := rfl
@[simp] theorem ev_neg (a : E) (μ : Mu) : ev F (.neg a) μ = (ev F a μ).bind fun x μ1 => Rs.opt ((toI x).map fun i => .int (-i)) μ1 := rfl
@[simp] theorem ev_cmp (op : COp) (a b : P) (μ : Mu) : ev F (.cmp op a b) μ = (evP F a μ).bind fun x μ1 => (evP F b μ1).bind fun y μ2 => Rs.opt ((look2 a x μ2).bind fun x' => (cmpD op x' y).map .bool) μ2 := rfl
@[simp] theorem ev_and (es : Es) (μ : Mu) : ev F (.and es) μ = evAnd F es μ := rfl
@[simp] theorem ev_or (es : Es) (μ : Mu) : ev F (.or es) μ = evOr F es μ := rfl
@[simp] theorem ev_not (a : E) (μ : Mu) : ev F (.not a) μ = (bitOf (ev F a μ)).bind fun b μ1 => .ok (.bool (!b)) μ1 := rfl
@[simp] theorem ev_tup (es : Es) (μ : Mu) : ev F (.tup es) μ = (evs F es μ).bind fun xs μ1 => .ok (.tuple xs) μ1 := rfl
@[simp] theorem ev_ix (a : P) (b : E) (μ : Mu) : ev F (.ix a b) μ = (evP F a μ).bind fun x μ1 => (ev F b μ1).bind fun y μ2 => Rs.opt ((look2 a x μ2).bind fun x' => ixD x' y) μ2 := rfl
@[simp] theorem ev_sl (a : P) (lo hi : O) (μ : Mu) : ev F (.sl a lo hi) μ = (evP F a μ).bind fun x μ1 => (evO F lo μ1).bind fun l μ2 => (evO F hi μ2).bind fun h μ3 => Rs.opt ((look2 a x μ3).bind fun x' => slD x' l h) μ3 := rfl
@[simp] theorem ev_fre (f : FE) (μ : Mu) : ev F (.fre f) μ = evF F f μ := rfl
@[simp] theorem ev_call (f : Nat) (as : As) (μ : Mu) : ev F (.call f as) μ = (evAs F as μ).bind fun xs μ1 => callG (F f) xs μ1 := rfl
@[simp] theorem ev_b1 (b : B1) (p : P) (μ : Mu) : ev F (.b1 b p) μ = (evP F p μ).bind fun x μ1 => Rs.opt (b1D b x) μ1 := rfl
@[simp] theorem ev_b2 (b : B2) (p q : E) (μ : Mu) : ev F (.b2 b p q) μ = (ev F p μ).bind fun x μ1 => (ev F q μ1).bind fun y μ2 => Rs.opt (b2D b x y) μ2 := rfl
@[simp] theorem ev_isi (a : E) (t : Ty) (μ : Mu) : ev F (.isi a t) μ = (ev F a μ).bind fun x μ1 => Rs.opt ((isiD x t).map .bool) μ1 := rfl
@[simp] theorem ev_pop (i : Nat) (b : E) (μ : Mu) : ev F (.pop i b) μ = if ownsL i μ then (ev F b μ).bind fun y μ1 => popE i y μ1 else .st := rfl
@[simp] theorem ev_slSt (a : E) (c : Int) (μ : Mu) : ev F (.slSt a c) μ = (ev F a μ).bind fun x μ1 => Rs.opt (slStD c x) μ1 := rfl
@[simp] theorem ev_dix (p : P) (k : E) (μ : Mu) : ev F (.dix p k) μ = (evP F p μ).bind fun x μ1 => (ev F k μ1).bind fun y μ2 => dixE p x y μ2 := rfl
@[simp] theorem ev_get (p : P) (k d : E) (μ : Mu) : ev F (.get p k d) μ = (evP F p μ).bind fun x μ1 => if isDict x then (ev F k μ1).bind fun y μ2 => (ev F d μ2).bind fun z μ3 => getE p x y z μ3 else .st := rfl
@[simp] theorem evs_nil (μ : Mu) : evs F .nil μ = .ok [] μ := rfl
@[simp] theorem evs_cons (e : E) (es : Es) (μ : Mu) : evs F (.cons e es) μ = (ev F e μ).bind fun x μ1 => (evs F es μ1).bind fun xs μ2 => .ok (x :: xs) μ2 := rfl
@[simp] theorem evAnd_one (e : E) (μ : Mu) : evAnd F (.cons e .nil) μ = (bitOf (ev F e μ)).bind fun b μ1 => .ok (.bool b) μ1 := rfl
@[simp] theorem evOr_one (e : E) (μ : Mu) : evOr F (.cons e .nil) μ = (bitOf (ev F e μ)).bind fun b μ1 => .ok (.bool b) μ1 := rfl
def andB (r : Mu → Rs D) (b : Bool) (μ : Mu) : Rs D := match b with
  | true => r μ
  | false => .ok (.bool false) μ
def orB (r : Mu → Rs D) (b : Bool) (μ : Mu) : Rs D := match b with
  | true => .ok (.bool true) μ
  | false => r μ
def ifB {α : Type} (r s : Mu → Rs α) (b : Bool) (μ : Mu) : Rs α := match b with
  | true => r μ
  | false => s μ
@[simp] theorem andB_t (r : Mu → Rs D) (μ : Mu) : andB r true μ = r μ := rfl
@[simp] theorem andB_f (r : Mu → Rs D) (μ : Mu) : andB r false μ = .ok (.bool false) μ := rfl
@[simp] theorem orB_t (r : Mu → Rs D) (μ : Mu) : orB r true μ = .ok (.bool true) μ := rfl
@[simp] theorem orB_f (r : Mu → Rs D) (μ : Mu) : orB r false μ = r μ := rfl
@[simp] theorem ifB_t {α : Type} (r s : Mu → Rs α) (μ : Mu) : ifB r s true μ = r μ := rfl
@[simp] theorem ifB_f {α : Type} (r s : Mu → Rs α) (μ : Mu) : ifB r s false μ = s μ := rfl
@[simp] theorem evAnd_cons (e e2 : E) (es : Es) (μ : Mu) : evAnd F (.cons e (.cons e2 es)) μ = (bitOf (ev F e μ)).bind (andB (evAnd F (.cons e2 es))) := rfl
@[simp] theorem evOr_cons (e e2 : E) (es : Es) (μ : Mu) : evOr F (.cons e (.cons e2 es)) μ = (bitOf (ev F e μ)).bind (orB (evOr F (.cons e2 es))) := rfl
@[simp] theorem ev_ife (c a b : E) (μ : Mu) : ev F (.ife c a b) μ = (bitOf (ev F c μ)).bind (ifB (ev F a) (ev F b)) := rfl
@[simp] theorem evP_e (e : E) (μ : Mu) : evP F (.e e) μ = ev F e μ := rfl
@[simp] theorem evP_pk (i : Nat) (μ : Mu) : evP F (.pk i) μ = Rs.opt (peek μ i) μ := rfl
@[simp] theorem look2_e (e : E) (x : D) (μ : Mu) : look2 (.e e) x μ = some x := rfl
@[simp] theorem look2_pk (i : Nat) (x : D) (μ : Mu) : look2 (.pk i) x μ = peek μ i := rfl
@[simp] theorem evO_none (μ : Mu) : evO F .none μ = .ok none μ := rfl
@[simp] theorem evO_some (e : E) (μ : Mu) : evO F (.some e) μ = (ev F e μ).bind fun x μ1 => Rs.opt ((toI x).map some) μ1 := rfl
@[simp] theorem evA_v (e : E) (μ : Mu) : evA F (.v e) μ = (ev F e μ).bind fun d μ1 => .ok (.v d) μ1 := rfl
def ioA1 (i : Nat) (μ : Mu) (o : Option D) : Rs Ag := match o with
  | some _ => .ok (.io i) μ
  | none => .st
@[simp] theorem ioA1_some (i : Nat) (μ : Mu) (d : D) : ioA1 i μ (some d) = .ok (.io i) μ := rfl
@[simp] theorem evA_io (i : Nat) (μ : Mu) : evA F (.io i) μ = ioA1 i μ (owned μ i) := rfl
@[simp] theorem evAs_nil (μ : Mu) : evAs F .nil μ = .ok [] μ := rfl
@[simp] theorem evAs_cons (a : A) (as : As) (μ : Mu) : evAs F (.cons a as) μ = (evA F a μ).bind fun x μ1 => (evAs F as μ1).bind fun xs μ2 => .ok (x :: xs) μ2 := rfl
@[simp] theorem evF_disp (es : Es) (μ : Mu) : evF F (.disp es) μ = (evs F es μ).bind fun xs μ1 => .ok (.list xs) μ1 := rfl
@[simp] theorem evF_comp (elt : E) (t : List Nat) (tup : Bool) (it : I) (c : O) (μ : Mu) : evF F (.comp elt t tup it c) μ = (evI F it μ).bind fun xs μ1 => (compL (turnR t tup (ev F elt) (rcOf F c)) xs [] (lockM (pks it) μ1)).bind fun ys μ2 => .ok (.list ys) (unlockM (pks it) μ1 μ2) := by cases c <;> rfl
@[simp] theorem evF_listOf (it : I) (μ : Mu) : evF F (.listOf it) μ = (evI F it μ).bind fun xs μ1 => .ok (.list xs) μ1 := rfl
@[simp] theorem evF_cat (a b : P) (μ : Mu) : evF F (.cat a b) μ = (evH F a μ).bind fun x μ1 => (evH F b μ1).bind fun y μ2 => catE a b x y μ2 := rfl
@[simp] theorem evF_rep (a : P) (b : E) (μ : Mu) : evF F (.rep a b) μ = (evH F a μ).bind fun x μ1 => (ev F b μ1).bind fun y μ2 => repE a x y μ2 := rfl
@[simp] theorem evF_sortedRev (p : P) (μ : Mu) : evF F (.sortedRev p) μ = (evP F p μ).bind fun x μ1 => Rs.opt (sortD x) μ1 := rfl
@[simp] theorem evF_dict0 (μ : Mu) : evF F .dict0 μ = .ok (.dict []) μ := rfl
@[simp] theorem evF_dict2 (a b c d : E) (μ : Mu) : evF F (.dict2 a b c d) μ = (ev F a μ).bind fun x μ1 => (ev F b μ1).bind fun y μ2 => (ev F c μ2).bind fun z μ3 => (ev F d μ3).bind fun w μ4 => dict2E x y z w μ4 := rfl
@[simp] theorem evF_dictOf (a : E) (μ : Mu) : evF F (.dictOf a) μ = (ev F a μ).bind fun x μ1 => Rs.opt (dictOfD x) μ1 := rfl
@[simp] theorem evF_call (f : Nat) (as : As) (μ : Mu) : evF F (.call f as) μ = (evAs F as μ).bind fun xs μ1 => callH (F f) xs μ1 := rfl
@[simp] theorem evH_fre (f : FE) (μ : Mu) : evH F (.e (.fre f)) μ = evF F f μ := rfl
@[simp] theorem evH_pk (i : Nat) (μ : Mu) : evH F (.pk i) μ = Rs.opt (heldD μ i) μ := rfl
@[simp] theorem evI_seq (p : P) (μ : Mu) : evI F (.seq p) μ = (evP F p μ).bind fun x μ1 => Rs.opt (seqD x) μ1 := rfl
def rng1D (x : D) (μ : Mu) : Rs (List D) := match x with
  | .int j => if smallI j && sizeOkN j.toNat then .ok (rangeD 0 j.toNat) μ else .st
  | _ => .st
def rng2D (x y : D) (μ : Mu) : Rs (List D) := match x, y with
  | .int i, .int j => if smallI i && smallI j && sizeOkN (j - i).toNat then .ok (rangeD i (j - i).toNat) μ else .st
  | _, _ => .st
def zip2D (x y : D) (μ : Mu) : Rs (List D) := match (if sameSeq x y then seqD x else none), seqD y with
  | some xs, some ys => .ok (zipD xs ys) μ
  | _, _ => .st
@[simp] theorem evI_rng1 (a : E) (μ : Mu) : evI F (.rng1 a) μ = (ev F a μ).bind rng1D := rfl
@[simp] theorem evI_rng2 (a b : E) (μ : Mu) : evI F (.rng2 a b) μ = (ev F a μ).bind fun x μ1 => (ev F b μ1).bind (rng2D x) := rfl
@[simp] theorem evI_zip (a b : E) (μ : Mu) : evI F (.zip a b) μ = (ev F a μ).bind fun x μ1 => (ev F b μ1).bind (zip2D x) := rfl
@[simp] theorem pks_seq (p : P) : pks (.seq p) = pksP p := rfl
@[simp] theorem pksP_e (e : E) : pksP (.e e) = none := rfl
@[simp] theorem pksP_pk (i : Nat) : pksP (.pk i) = some i := rfl
@[simp] theorem pks_rng1 (a : E) : pks (.rng1 a) = none := rfl
@[simp] theorem pks_rng2 (a b : E) : pks (.rng2 a b) = none := rfl
@[simp] theorem pks_zip (a b : E) : pks (.zip a b) = none := rfl
@[simp] theorem lockM_none (μ : Mu) : lockM none μ = μ := rfl
@[simp] theorem unlockM_none (μ0 μ : Mu) : unlockM none μ0 μ = μ := rfl
@[simp] theorem rcOf_none : rcOf F .none = none := rfl
@[simp] theorem isDict_dict (es : List (D × D)) : isDict (.dict es) = true := rfl
def dixD (o : Option D) (y : D) (μ2 : Mu) : Rs D := match o with
  | some (.dict es) => if isKey y then Rs.opt (dget es y) μ2 else .st
  | _ => .st
def getD2 (o : Option D) (y z : D) (μ3 : Mu) : Rs D := match o with
  | some (.dict es) => if isKey y then .ok ((dget es y).getD z) μ3 else .st
  | _ => .st
@[simp] theorem dixE_at (p : P) (x y : D) (μ : Mu) : dixE p x y μ = dixD (look2 p x μ) y μ := rfl
@[simp] theorem getE_at (p : P) (x y z : D) (μ : Mu) : getE p x y z μ = getD2 (look2 p x μ) y z μ := rfl
@[simp] theorem dixD_at (es : List (D × D)) (y : D) (μ : Mu) : dixD (some (.dict es)) y μ = if isKey y then Rs.opt (dget es y) μ else .st := rfl
@[simp] theorem getD2_at (es : List (D × D)) (y z : D) (μ : Mu) : getD2 (some (.dict es)) y z μ = if isKey y then .ok ((dget es y).getD z) μ else .st := rfl
/-! results -/
@[simp] theorem bind_ok {α β : Type} (a : α) (μ : Mu) (k : α → Mu → Rs β) : (Rs.ok a μ).bind k = k a μ := rfl
@[simp] theorem bind_st {α β : Type} (k : α → Mu → Rs β) : (Rs.st : Rs α).bind k = .st := rfl
@[simp] theorem opt_some {α : Type} (a : α) (μ : Mu) : Rs.opt (some a) μ = .ok a μ := rfl
@[simp] theorem opt_none {α : Type} (μ : Mu) : Rs.opt (none : Option α) μ = .st := rfl
@[simp] theorem bitOf_ok (b : Bool) (μ : Mu) : bitOf (.ok (.bool b) μ) = .ok b μ := rfl
@[simp] theorem toI_int (i : Int) : toI (.int i) = some i := rfl
@[simp] theorem nx_some (μ : Mu) : Rs.nx (some μ) = .ok .nx μ := rfl
@[simp] theorem mu_ok {α : Type} (g : Mu → Mu) (a : α) (μ : Mu) : Rs.mu g (.ok a μ) = .ok a (g μ) := rfl
/-! statements -/
/-- a test -/
def testB (F : Nat → List Sl → FR) (e : E) (m : Mu) : Rs Bool := bitOf (ev F e m)
@[simp] theorem testB_at (e : E) (m : Mu) : testB F e m = bitOf (ev F e m) := rfl
def asgB (i : Nat) (d : D) (μ : Mu) : Rs Fl := Rs.nx (setAll [i] [d] μ)
@[simp] theorem exec_asg (i : Nat) (e : E) (μ : Mu) : exec F W (.asg i e) μ = (ev F e μ).bind (asgB i) := by
  show (ev F e μ).bind _ = _
  congr 1
@[simp] theorem exec_own (i : Nat) (f : FE) (μ : Mu) : exec F W (.own i f) μ = (evF F f μ).bind fun d μ1 => if isLck μ1 i then .st else .ok .nx (μ1.set i (.own d)) := rfl
@[simp] theorem exec_par (i j : Nat) (a b : E) (μ : Mu) : exec F W (.par i j a b) μ = (ev F a μ).bind fun x μ1 => (ev F b μ1).bind fun y μ2 => Rs.nx (setAll [i, j] [x, y] μ2) := by
  show (ev F a μ).bind _ = _
  congr 1
@[simp] theorem exec_rse (c : Nat) (x : Str) (μ : Mu) : exec F W (.rse c x) μ = .ex ⟨c, []⟩ μ := rfl
@[simp] theorem exec_tryX (b : Ss) (h : Hd) (μ : Mu) : exec F W (.tryX b h) μ = catchR h (execs F W b μ) := rfl
@[simp] theorem exec_unpL (is : List Nat) (e : E) (μ : Mu) : exec F W (.unpL is e) μ = (ev F e μ).bind fun d μ1 => Rs.nx (setL is d μ1) := rfl
@[simp] theorem setL_list (is : List Nat) (xs : List D) (μ : Mu) : setL is (.list xs) μ = setAll is xs μ := rfl
@[simp] theorem exec_unp (is : List Nat) (e : E) (μ : Mu) : exec F W (.unp is e) μ = (ev F e μ).bind fun d μ1 => Rs.nx (setT is true d μ1) := by
  show (ev F e μ).bind _ = _
  congr 1
@[simp] theorem exec_seti (i : Nat) (k e : E) (μ : Mu) : exec F W (.seti i k e) μ = (ev F e μ).bind fun v μ1 => if ownsA i μ1 then (ev F k μ1).bind fun y μ2 => Rs.nx (setE i y v μ2) else .st := rfl
@[simp] theorem exec_app (i : Nat) (e : E) (μ : Mu) : exec F W (.app i e) μ = if ownsL i μ then (ev F e μ).bind fun v μ1 => Rs.nx (appE i v μ1) else .st := rfl
@[simp] theorem exec_dset (i : Nat) (k e : E) (μ : Mu) : exec F W (.dset i k e) μ = (ev F e μ).bind fun v μ1 => if ownsA i μ1 then (ev F k μ1).bind fun y μ2 => Rs.nx (dsetE i y v μ2) else .st := rfl
@[simp] theorem exec_ext (i : Nat) (e : E) (μ : Mu) : exec F W (.ext i e) μ = if ownsL i μ then (ev F e μ).bind fun v μ1 => Rs.nx (extE i v μ1) else .st := rfl
@[simp] theorem exec_ex (e : E) (μ : Mu) : exec F W (.ex e) μ = (ev F e μ).bind fun _ μ1 => .ok .nx μ1 := rfl
@[simp] theorem exec_ife (c : E) (a b : Ss) (μ : Mu) : exec F W (.ife c a b) μ = (bitOf (ev F c μ)).bind (ifB (execs F W a) (execs F W b)) := rfl
@[simp] theorem exec_whl (c : E) (b : Ss) (μ : Mu) : exec F W (.whl c b) μ = whlL (testB F c) (execs F W b) W μ := rfl
def turnS (t : List Nat) (tup : Bool) (r : Mu → Rs Fl) (d : D) (m : Mu) : Rs Fl := match setT t tup d m with
  | some m1 => r m1
  | none => .st
@[simp] theorem exec_for (t : List Nat) (tup : Bool) (it : I) (b : Ss) (μ : Mu) : exec F W (.for_ t tup it b) μ = (evI F it μ).bind fun xs μ1 => Rs.mu (unlockM (pks it) μ1) (forL (turnS t tup (execs F W b)) xs (lockM (pks it) μ1)) := rfl
@[simp] theorem exec_ret (e : E) (μ : Mu) : exec F W (.ret e) μ = (ev F e μ).bind fun d μ1 => .ok (.rt d) μ1 := rfl
@[simp] theorem exec_retF (f : FE) (μ : Mu) : exec F W (.retF f) μ = (evF F f μ).bind fun d μ1 => .ok (.rf d) μ1 := rfl
@[simp] theorem exec_pass (μ : Mu) : exec F W .pass μ = .ok .nx μ := rfl
@[simp] theorem execs_nil (μ : Mu) : execs F W .nil μ = .ok .nx μ := rfl
def thenB (r : Mu → Rs Fl) (fl : Fl) (μ : Mu) : Rs Fl := match fl with
  | .nx => r μ
  | fl => .ok fl μ
@[simp] theorem thenB_nx (r : Mu → Rs Fl) (μ : Mu) : thenB r .nx μ = r μ := rfl
@[simp] theorem thenB_rt (r : Mu → Rs Fl) (d : D) (μ : Mu) : thenB r (.rt d) μ = .ok (.rt d) μ := rfl
@[simp] theorem thenB_rf (r : Mu → Rs Fl) (d : D) (μ : Mu) : thenB r (.rf d) μ = .ok (.rf d) μ := rfl
@[simp] theorem execs_cons (s : S) (r : Ss) (μ : Mu) : execs F W (.cons s r) μ = (exec F W s μ).bind (thenB (execs F W r)) := rfl
end
/-! calls -/
theorem sem_at (P : List Fn) (W k f : Nat) (args : List Sl) {fn : Fn} (h : P[f]? = some fn) : sem P W (k + 1) f args = runFn (sem P W k) W fn args := by
  unfold sem; rw [h]
def outR (fl : Fl) (o : Option (List D)) : FR := match o with
  | some outs => (match fl with
    | .nx => .ok .none outs
    | .rt d => .ok d outs
    | .rf d => .fr d outs)
  | none => .st
def endR (io : List Nat) (r : Rs Fl) : FR := match r with
  | .ok fl μ => outR fl (outsOf io μ)
  | .ex x μ => (match outsOf io μ with
    | some outs => .ex x outs
    | none => .st)
  | .st => .st
theorem runFn_at {F : Nat → List Sl → FR} {W : Nat} {fn : Fn} {args : List Sl} (h1 : args.length = fn.ps.length) (h2 : fn.io = ownPos 0 args) : runFn F W fn args = endR fn.io (execs F W fn.body (args ++ List.replicate (fn.N.length - fn.ps.length) .no)) := by
  unfold runFn
  rw [if_pos (by rw [Bool.and_eq_true, decide_eq_true_eq, decide_eq_true_eq]; exact ⟨h1, h2⟩)]
  rfl
@[simp] theorem endR_ok (io : List Nat) (fl : Fl) (μ : Mu) : endR io (.ok fl μ) = outR fl (outsOf io μ) := rfl
@[simp] theorem outR_rt (d : D) (outs : List D) : outR (.rt d) (some outs) = .ok d outs := rfl
@[simp] theorem outR_rf (d : D) (outs : List D) : outR (.rf d) (some outs) = .fr d outs := rfl
@[simp] theorem outR_nx (outs : List D) : outR .nx (some outs) = .ok .none outs := rfl
/-! data -/
@[simp] theorem binD_add : binD .add = addD := rfl
@[simp] theorem binD_sub : binD .sub = subD := rfl
@[simp] theorem binD_mul : binD .mul = mulD := rfl
@[simp] theorem binD_fdiv : binD .fdiv = fdivD := rfl
@[simp] theorem binD_mod : binD .mod = modD := rfl
@[simp] theorem binD_pow : binD .pow = powD := rfl
@[simp] theorem addD_int (i j : Int) : addD (.int i) (.int j) = some (.int (i + j)) := rfl
@[simp] theorem subD_int (i j : Int) : subD (.int i) (.int j) = some (.int (i - j)) := rfl
theorem mulD_int {i j : Int} (h : mulOk i j = true) : mulD (.int i) (.int j) = some (.int (i * j)) := if_pos h
theorem fdivD_int {i j : Int} (h : divOk j = true) : fdivD (.int i) (.int j) = some (.int (i.fdiv j)) := if_pos h
theorem modD_int {i j : Int} (h : j ≠ 0) : modD (.int i) (.int j) = some (.int (i.fmod j)) := if_pos (decide_eq_true h)
@[simp] theorem eqD_int (i j : Int) : eqD (.int i) (.int j) = some (decide (i = j)) := by
  have : eqD (.int i) (.int j) = some (i == j) := by exact (if_pos rfl).trans (congrArg some (by rw [PyData.eqv]))
  rw [this]; rfl
@[simp] theorem eqD_bool (i j : Bool) : eqD (.bool i) (.bool j) = some (i == j) := by
  exact (if_pos rfl).trans (congrArg some (by rw [PyData.eqv]))
@[simp] theorem eqD_str (i j : Str) : eqD (.str i) (.str j) = some (i == j) := by
  exact (if_pos rfl).trans (congrArg some (by rw [PyData.eqv]))
@[simp] theorem ltD_int (i j : Int) : ltD (.int i) (.int j) = some (decide (i < j)) := by
  unfold ltD; rw [if_pos (show ltOk (.int i) (.int j) = true from rfl), PySem.W.dataLt_int]
@[simp] theorem gtD_int (i j : Int) : gtD (.int i) (.int j) = some (decide (j < i)) := by
  unfold gtD; rw [if_pos (show ltOk (.int i) (.int j) = true from rfl), PySem.W.dataLt_int]
@[simp] theorem leD_int (i j : Int) : leD (.int i) (.int j) = some (decide (i ≤ j)) := by
  unfold leD; rw [if_pos (show ltOk (.int i) (.int j) = true from rfl), PySem.W.dataLt_int]
  congr 1
  rw [← decide_not]; exact decide_eq_decide.mpr Int.not_lt
@[simp] theorem geD_int (i j : Int) : geD (.int i) (.int j) = some (decide (j ≤ i)) := by
  unfold geD; rw [if_pos (show ltOk (.int i) (.int j) = true from rfl), PySem.W.dataLt_int]
  congr 1
  rw [← decide_not]; exact decide_eq_decide.mpr Int.not_lt
@[simp] theorem cmpD_eq : cmpD .eq = eqD := rfl
@[simp] theorem cmpD_ne (x y : D) : cmpD .ne x y = (eqD x y).map (!·) := rfl
@[simp] theorem cmpD_lt : cmpD .lt = ltD := rfl
@[simp] theorem cmpD_gt : cmpD .gt = gtD := rfl
@[simp] theorem cmpD_le : cmpD .le = leD := rfl
@[simp] theorem cmpD_ge : cmpD .ge = geD := rfl
@[simp] theorem cmpD_isn : cmpD .isn = isD := rfl
@[simp] theorem cmpD_isnot (x y : D) : cmpD .isnot x y = (isD x y).map (!·) := rfl
@[simp] theorem cmpD_isin : cmpD .isin = inD := rfl
@[simp] theorem cmpD_notin (x y : D) : cmpD .notin x y = (inD x y).map (!·) := rfl
@[simp] theorem b1_len : b1D .len = lenD := rfl
@[simp] theorem b1_abs : b1D .abs = absD := rfl
@[simp] theorem b1_all : b1D .all = allD := rfl
@[simp] theorem b1_any : b1D .any = anyD := rfl
@[simp] theorem b1_sum : b1D .sum = sumD := rfl
@[simp] theorem b1_max : b1D .max = maxD := rfl
@[simp] theorem b1_min : b1D .min = minD := rfl
@[simp] theorem b1_tuple : b1D .tuple = tupD := rfl
@[simp] theorem b1_repr : b1D .repr = reprD := rfl
@[simp] theorem b1_str : b1D .str = strD := rfl
@[simp] theorem b1_int : b1D .int = intD := rfl
@[simp] theorem lenD_list (xs : List D) : lenD (.list xs) = some (.int xs.length) := rfl
@[simp] theorem lenD_tuple (xs : List D) : lenD (.tuple xs) = some (.int xs.length) := rfl
@[simp] theorem absD_int (i : Int) : absD (.int i) = some (.int i.natAbs) := rfl
@[simp] theorem tupD_list (xs : List D) : tupD (.list xs) = some (.tuple xs) := rfl
@[simp] theorem tupD_tuple (xs : List D) : tupD (.tuple xs) = some (.tuple xs) := rfl
@[simp] theorem seqD_list (xs : List D) : seqD (.list xs) = some xs := rfl
@[simp] theorem seqD_tuple (xs : List D) : seqD (.tuple xs) = some xs := rfl
@[simp] theorem ixD_list (xs : List D) (i : Int) : ixD (.list xs) (.int i) = L2.atI xs i := rfl
@[simp] theorem ixD_tuple (xs : List D) (i : Int) : ixD (.tuple xs) (.int i) = L2.atI xs i := rfl
@[simp] theorem boolsOf_map (bs : List Bool) : boolsOf (bs.map .bool) = some bs := by
  induction bs with
  | nil => rfl
  | cons b bs ih => show (boolsOf (bs.map .bool)).map (b :: ·) = _; rw [ih]; rfl
@[simp] theorem intsOf_map (bs : List Int) : intsOf (bs.map .int) = some bs := by
  induction bs with
  | nil => rfl
  | cons b bs ih => show (intsOf (bs.map .int)).map (b :: ·) = _; rw [ih]; rfl
@[simp] theorem allD_map (bs : List Bool) : allD (.list (bs.map .bool)) = some (.bool (bs.all id)) := by
  show (boolsOf (bs.map .bool)).map _ = _; rw [boolsOf_map]; rfl
@[simp] theorem sumD_map (bs : List Int) : sumD (.list (bs.map .int)) = some (.int bs.sum) := by
  show (intsOf (bs.map .int)).map _ = _; rw [intsOf_map]; rfl
theorem atI_nat {xs : List D} {i : Int} {d : D} (h0 : 0 ≤ i) (h : xs[i.toNat]? = some d) : L2.atI xs i = some d := by
  have hl : i.toNat < xs.length := (List.getElem?_eq_some_iff.mp h).1
  unfold L2.atI L2.ixN
  rw [if_pos h0, if_pos (by omega)]
  exact h
theorem plainInts (xs : List Int) : PyData.plainAll (xs.map .int) = true := by
  induction xs with
  | nil => rfl
  | cons x xs ih => show (PyData.plain (.int x) && PyData.plainAll (xs.map .int)) = true; rw [ih]; rfl
theorem depthInts (xs : List Int) : PyData.depthAll (xs.map .int) = 0 := by
  induction xs with
  | nil => rfl
  | cons x xs ih => show max (PyData.depth (.int x)) (PyData.depthAll (xs.map .int)) = 0; rw [ih]; rfl
theorem eqvInts : ∀ (xs ys : List Int), PyData.eqvAll (xs.map .int) (ys.map .int) = decide (xs = ys)
  | [], [] => rfl
  | x :: xs, y :: ys => by
    show (PyData.eqv (.int x) (.int y) && PyData.eqvAll (xs.map .int) (ys.map .int)) = _
    rw [eqvInts xs ys, PyData.eqv]
    by_cases h : x = y
    · subst h; simp
    · simp [h]
  | [], _ :: _ => by simp [PyData.eqvAll]
  | _ :: _, [] => by simp [PyData.eqvAll]
theorem alikeInts : ∀ (xs ys : List Int), PySem.W.alikeAll (xs.map .int) (ys.map .int) = true
  | [], _ => by simp [PySem.W.alikeAll]
  | x :: xs, [] => by simp [PySem.W.alikeAll]
  | x :: xs, y :: ys => by
    show (PySem.W.alike (.int x) (.int y) && PySem.W.alikeAll (xs.map .int) (ys.map .int)) = true
    rw [alikeInts xs ys]; rfl
@[simp] theorem eqD_tupI (xs ys : List Int) : eqD (.tuple (xs.map .int)) (.tuple (ys.map .int)) = some (decide (xs = ys)) := by
  unfold eqD
  rw [if_pos]
  · rw [PyData.eqv, eqvInts]
  · simp [PyData.plain, plainInts, PyData.depth, depthInts]
@[simp] theorem eqD_listI (xs ys : List Int) : eqD (.list (xs.map .int)) (.list (ys.map .int)) = some (decide (xs = ys)) := by
  unfold eqD
  rw [if_pos]
  · rw [PyData.eqv, eqvInts]
  · simp [PyData.plain, plainInts, PyData.depth, depthInts]
theorem ltOkL (xs ys : List Int) : ltOk (.list (xs.map .int)) (.list (ys.map .int)) = true := by
  simp [ltOk, PyData.plain, plainInts, PyData.depth, depthInts, PySem.W.alike, alikeInts, isNone]
theorem ltOkT (xs ys : List Int) : ltOk (.tuple (xs.map .int)) (.tuple (ys.map .int)) = true := by
  simp [ltOk, PyData.plain, plainInts, PyData.depth, depthInts, PySem.W.alike, alikeInts, isNone]
@[simp] theorem gtD_listI (xs ys : List Int) : gtD (.list (xs.map .int)) (.list (ys.map .int)) = some (decide (ys < xs)) := by
  unfold gtD; rw [if_pos (ltOkL xs ys), PySem.W.dataLt_list]; exact congrArg some (PySem.W.dataLt_ints ys xs)
@[simp] theorem gtD_tupI (xs ys : List Int) : gtD (.tuple (xs.map .int)) (.tuple (ys.map .int)) = some (decide (ys < xs)) := by
  unfold gtD; rw [if_pos (ltOkT xs ys), PySem.W.dataLt_tuple]; exact congrArg some (PySem.W.dataLt_ints ys xs)
/-! loops -/
theorem compL_pure {f : D → Mu → Rs (Option D)} {μ : Mu} (g : D → Option D) : ∀ (ds acc : List D), (∀ d ∈ ds, f d μ = .ok (g d) μ) → compL f ds acc μ = .ok (acc ++ ds.filterMap g) μ
  | [], acc, _ => by rw [List.filterMap_nil, List.append_nil]; rfl
  | d :: ds, acc, h => by
    have ih := fun acc => compL_pure (μ := μ) g ds acc fun e he => h e (List.mem_cons_of_mem _ he)
    show (f d μ).bind _ = _
    rw [h d List.mem_cons_self, List.filterMap_cons]
    cases g d with
    | none => exact ih acc
    | some x =>
      show compL f ds (acc ++ [x]) μ = _
      rw [ih, List.append_assoc]; rfl
theorem compL_map {f : D → Mu → Rs (Option D)} {μ : Mu} (g : D → D) (ds acc : List D) (h : ∀ d ∈ ds, f d μ = .ok (some (g d)) μ) : compL f ds acc μ = .ok (acc ++ ds.map g) μ := by
  rw [compL_pure (fun d => some (g d)) ds acc h]
  congr 2
  exact congrFun List.filterMap_eq_map ds
end Mn
set_option Elab.async false
set_option linter.all false
set_option maxRecDepth 100000
set_option autoImplicit false
set_option maxHeartbeats 1000000
namespace Mn
open PySem PySem.Spec
/-! ## the tape -/
def fDraw : Fn := ⟨"_law_draw", ["_law_tape_here", "_law_many"], ["_law_tape_here", "_law_many", "_law_script", "_law_spot", "_law_cell", "_law_mixed", "_law_left"], [0],
(.cons (.asg 2 (.ix (.pk 0) (.int 0)))
(.cons (.asg 3 (.ix (.pk 0) (.int 1)))
(.cons (.seti 0 (.int 1) (.bin .add (.var 3) (.int 1)))
(.cons (.whl (.and (.cons (.cmp .eq (.e (.ix (.pk 0) (.int 2))) (.e (.int 0))) (.cons (.cmp .lt (.e (.ix (.pk 0) (.int 3))) (.e (.b1 .len (.e (.var 2))))) .nil)))
(.cons (.ife (.cmp .ge (.e (.b1 .abs (.e (.ix (.e (.var 2)) (.ix (.pk 0) (.int 3)))))) (.e (.bin .pow (.int 10) (.int 18))))
(.cons (.seti 0 (.int 2) (.b1 .abs (.e (.ix (.e (.var 2)) (.ix (.pk 0) (.int 3))))))
.nil)
.nil)
(.cons (.seti 0 (.int 3) (.bin .add (.ix (.pk 0) (.int 3)) (.int 1)))
.nil)))
(.cons (.ife (.cmp .gt (.e (.ix (.pk 0) (.int 2))) (.e (.int 0)))
(.cons (.asg 6 (.ix (.pk 0) (.int 2)))
(.cons (.seti 0 (.int 2) (.bin .fdiv (.var 6) (.var 1)))
(.cons (.ret (.bin .mod (.var 6) (.var 1)))
.nil)))
.nil)
(.cons (.asg 4 (.int 0))
(.cons (.ife (.cmp .gt (.e (.b1 .len (.e (.var 2)))) (.e (.int 0)))
(.cons (.asg 4 (.ix (.e (.var 2)) (.bin .mod (.var 3) (.b1 .len (.e (.var 2))))))
.nil)
.nil)
(.cons (.asg 5 (.bin .mod (.bin .mul (.bin .add (.bin .mod (.var 4) (.int 1000003)) (.int 1)) (.bin .add (.bin .add (.bin .mul (.bin .mod (.var 3) (.int 997)) (.int 7919)) (.int 104729)) (.var 3))) (.int 1000033)))
(.cons (.asg 5 (.bin .mod (.bin .add (.bin .add (.bin .mul (.var 5) (.var 5)) (.bin .mul (.int 3) (.var 5))) (.var 3)) (.int 999983)))
(.cons (.ret (.bin .mod (.bin .mod (.bin .mul (.var 5) (.int 48271)) (.int 65537)) (.var 1)))
.nil))))))))))⟩

def fTape : Fn := ⟨"_law_tape", ["_law_script"], ["_law_script"], [],
(.cons (.retF (.disp (.cons (.sl (.e (.var 0)) .none (.some (.int 63))) (.cons (.int 0) (.cons (.int 0) (.cons (.int 0) .nil))))))
.nil)⟩

def tapeD (s : List Int) (spot left at_ : Int) : D := .list [.list (s.map .int), .int spot, .int left, .int at_]
def TapeB (n : Nat) (T : D) : Prop := ∃ (s : List Int) (spot left at_ : Int), T = tapeD s spot left at_ ∧ s.length ≤ 63 ∧ 0 ≤ spot ∧ spot ≤ n ∧ 0 ≤ left ∧ 0 ≤ at_
theorem TapeB.mono {n m : Nat} {T : D} (h : TapeB n T) (l : n ≤ m) : TapeB m T := by
  obtain ⟨s, p, f, a, h1, h2, h3, h4, h5, h6⟩ := h
  exact ⟨s, p, f, a, h1, h2, h3, by omega, h5, h6⟩
/-- the frame of a draw -/
def mD (s : List Int) (many spot left at_ : Int) : Mu := [.own (tapeD s (spot + 1) left at_), .val (.int many), .val (.list (s.map .int)), .val (.int spot), .no, .no, .no]
theorem tape_ix2 {s : List Int} {spot left at_ : Int} : L2.atI [PyData.list (s.map .int), .int spot, .int left, .int at_] 2 = some (.int left) := rfl
theorem tape_ix3 {s : List Int} {spot left at_ : Int} : L2.atI [PyData.list (s.map .int), .int spot, .int left, .int at_] 3 = some (.int at_) := rfl
theorem draw_whl (F : Nat → List Sl → FR) (W : Nat) (c : E) (b : Ss) (hc : c = (.and (.cons (.cmp .eq (.e (.ix (.pk 0) (.int 2))) (.e (.int 0))) (.cons (.cmp .lt (.e (.ix (.pk 0) (.int 3))) (.e (.b1 .len (.e (.var 2))))) .nil))))
    (hb : b = (.cons (.ife (.cmp .ge (.e (.b1 .abs (.e (.ix (.e (.var 2)) (.ix (.pk 0) (.int 3)))))) (.e (.bin .pow (.int 10) (.int 18))))
      (.cons (.seti 0 (.int 2) (.b1 .abs (.e (.ix (.e (.var 2)) (.ix (.pk 0) (.int 3)))))) .nil) .nil)
      (.cons (.seti 0 (.int 3) (.bin .add (.ix (.pk 0) (.int 3)) (.int 1))) .nil)))
    (s : List Int) (many spot : Int) : ∀ (m n : Nat) (left at_ : Int), m < n → (s.length : Int) - at_ ≤ m → 0 ≤ left → 0 ≤ at_ →
    ∃ left' at', whlL (fun m => bitOf (ev F c m)) (fun m => execs F W b m) n (mD s many spot left at_) = .ok .nx (mD s many spot left' at') ∧ 0 ≤ left' ∧ 0 ≤ at' := by
  intro m
  induction m with
  | zero =>
    intro n left at_ hn hm hl ha
    obtain ⟨n, rfl⟩ : ∃ k, n = k + 1 := ⟨n - 1, by omega⟩
    refine ⟨left, at_, ?_, hl, ha⟩
    unfold whlL
    have : ev F c (mD s many spot left at_) = .ok (.bool false) (mD s many spot left at_) := by
      subst hc
      by_cases h0 : left = 0
      · simp [mD, peek, tapeD, tape_ix2, tape_ix3, look, h0]; omega
      · simp [mD, peek, tapeD, tape_ix2, tape_ix3, look, h0]
    rw [this]; rfl
  | succ m ih =>
    intro n left at_ hn hm hl ha
    obtain ⟨n, rfl⟩ : ∃ k, n = k + 1 := ⟨n - 1, by omega⟩
    unfold whlL
    by_cases h0 : left = 0
    · by_cases h1 : at_ < s.length
      · have e1 : ev F c (mD s many spot left at_) = .ok (.bool true) (mD s many spot left at_) := by
          subst hc
          simp [mD, peek, tapeD, tape_ix2, tape_ix3, look, h0, h1]
        have hx : ∃ v, s[at_.toNat]? = some v := ⟨_, List.getElem?_eq_getElem (by omega)⟩
        obtain ⟨v, hv⟩ := hx
        have e2 : ∃ left', execs F W b (mD s many spot left at_) = .ok .nx (mD s many spot left' (at_ + 1)) ∧ 0 ≤ left' := by
          subst hb
          have hat : L2.atI (s.map PyData.int) at_ = some (.int v) := atI_nat ha (by rw [List.getElem?_map, hv]; rfl)
          have hpow : powD (.int 10) (.int 18) = some (.int (10 ^ 18)) := by rfl
          by_cases hbig : (1000000000000000000 : Int) ≤ (v.natAbs : Int)
          · refine ⟨v.natAbs, ?_, by omega⟩
            simp only [execs_cons, exec_ife, ev_cmp, evP_e, ev_b1, ev_ix, evP_pk, ev_int, ev_var, ev_bin, mD, peek, tapeD, look]
            simp [tape_ix2, tape_ix3, hat, hpow, hbig, peek, look, ownsA, owned, setE, L2.ixN]
          · refine ⟨left, ?_, hl⟩
            simp only [execs_cons, exec_ife, ev_cmp, evP_e, ev_b1, ev_ix, evP_pk, ev_int, ev_var, ev_bin, mD, peek, tapeD, look]
            simp [tape_ix2, tape_ix3, hat, hpow, hbig, peek, look, ownsA, owned, setE, L2.ixN]
        obtain ⟨left', e2, hl'⟩ := e2
        obtain ⟨l2, a2, e3, h3, h4⟩ := ih n left' (at_ + 1) (by omega) (by omega) hl' (by omega)
        refine ⟨l2, a2, ?_, h3, h4⟩
        rw [e1]
        simp only [bitOf_ok, bind_ok, e2]
        exact e3
      · refine ⟨left, at_, ?_, hl, ha⟩
        have : ev F c (mD s many spot left at_) = .ok (.bool false) (mD s many spot left at_) := by
          subst hc
          simp [mD, peek, tapeD, tape_ix2, tape_ix3, look, h0]; omega
        rw [this]; rfl
    · refine ⟨left, at_, ?_, hl, ha⟩
      have : ev F c (mD s many spot left at_) = .ok (.bool false) (mD s many spot left at_) := by
        subst hc
        simp [mD, peek, tapeD, tape_ix2, tape_ix3, look, h0]
      rw [this]; rfl
theorem mulOk_small {i j : Int} (hi : i.natAbs < 2 ^ 400000) (hj : j.natAbs < 2 ^ 400000) : mulOk i j = true := by
  have log : ∀ {n : Nat}, n < 2 ^ 400000 → n.log2 < 400001 := fun {n} h => by
    by_cases z : n = 0
    · subst z; decide
    · exact Nat.lt_succ_of_lt ((Nat.log2_lt z).mpr h)
  unfold mulOk
  have := log hi
  have := log hj
  exact decide_eq_true (by omega)
theorem pow_big {n : Nat} (h : n < 2 ^ 200) : n < 2 ^ 400000 := Nat.lt_of_lt_of_le h (Nat.pow_le_pow_right (by decide) (by decide))
theorem mulOk_200 {i j : Int} (hi : i.natAbs < 2 ^ 200) (hj : j.natAbs < 2 ^ 200) : mulOk i j = true := mulOk_small (pow_big hi) (pow_big hj)
theorem divOk_64 {j : Int} (h0 : 0 < j) (h : j < 2 ^ 64) : divOk j = true := by
  unfold divOk
  have : j.natAbs.log2 < 64 := (Nat.log2_lt (by omega)).mpr (by omega)
  rw [Bool.and_eq_true, decide_eq_true_eq, decide_eq_true_eq]
  exact ⟨by omega, by omega⟩
theorem fmod_lo {a b : Int} (h : 0 < b) : 0 ≤ a.fmod b := Int.fmod_nonneg_of_pos a h
theorem fmod_hi {a b : Int} (h : 0 < b) : a.fmod b < b := Int.fmod_lt_of_pos a h
theorem draw_ok (F : Nat → List Sl → FR) (W : Nat) (hW : 64 < W) {n : Nat} {T : D} {many : Int} (h : TapeB n T) (hn : n ≤ 1000000000000) (hm : 0 < many) (hm2 : many < 2 ^ 64) :
    ∃ r T', runFn F W fDraw [.own T, .val (.int many)] = .ok (.int r) [T'] ∧ 0 ≤ r ∧ r < many ∧ TapeB (n + 1) T' := by
  obtain ⟨s, spot, left, at_, rfl, hs, h1, h2, h3, h4⟩ := h
  rw [runFn_at rfl rfl]
  obtain ⟨l2, a2, ew, hl2, ha2⟩ := draw_whl F W _ _ rfl rfl s many spot 64 W left at_ hW (by omega) h3 h4
  have head : execs F W fDraw.body ([.own (tapeD s spot left at_), .val (.int many)] ++ List.replicate (fDraw.N.length - fDraw.ps.length) .no) =
      (whlL (fun m => bitOf (ev F _ m)) (fun m => execs F W _ m) W (mD s many spot left at_)).bind (thenB (execs F W _)) := rfl
  rw [head, ew]
  clear head ew
  simp only [bind_ok, thenB_nx]
  have io : fDraw.io = [0] := rfl
  rw [io]
  by_cases hpos : 0 < l2
  · refine ⟨l2.fmod many, tapeD s (spot + 1) (l2.fdiv many) a2, ?_, fmod_lo hm, fmod_hi hm, s, spot + 1, l2.fdiv many, a2, rfl, hs, by omega, by omega, ?_, ha2⟩
    · simp only [execs_cons, exec_ife, ev_cmp, evP_e, ev_b1, ev_ix, evP_pk, ev_int, ev_var, ev_bin, mD, peek, tapeD, look]
      simp [tape_ix2, tape_ix3, hpos, peek, look, ownsA, owned, setE, L2.ixN, asgB, setAll, isLck, setN, fdivD_int (divOk_64 hm hm2), modD_int (show many ≠ 0 by omega), outsOf]
    · exact Int.fdiv_nonneg hl2 (by omega)
  · -- the number in the cell
    have cell : ∃ c : Int, ∀ (r : Mu → Rs Fl), (exec F W (.asg 4 (.int 0)) (mD s many spot l2 a2)).bind (thenB fun μ => (exec F W (.ife (.cmp .gt (.e (.b1 .len (.e (.var 2)))) (.e (.int 0))) (.cons (.asg 4 (.ix (.e (.var 2)) (.bin .mod (.var 3) (.b1 .len (.e (.var 2)))))) .nil) .nil) μ).bind (thenB r)) =
        r [.own (tapeD s (spot + 1) l2 a2), .val (.int many), .val (.list (s.map .int)), .val (.int spot), .val (.int c), .no, .no] := by
      by_cases hz : s.length = 0
      · exact ⟨0, fun r => by
          obtain rfl := List.length_eq_zero_iff.mp hz
          simp [mD, look, asgB, setAll, isLck, setN]⟩
      · have hp : (0 : Int) < s.length := by omega
        have lo := fmod_lo (a := spot) hp
        have hi := fmod_hi (a := spot) hp
        obtain ⟨v, hv⟩ : ∃ v, s[(spot.fmod s.length).toNat]? = some v := ⟨_, List.getElem?_eq_getElem (by omega)⟩
        have hat : L2.atI (s.map PyData.int) (spot.fmod s.length) = some (.int v) := atI_nat lo (by rw [List.getElem?_map, hv]; rfl)
        refine ⟨v, fun r => ?_⟩
        have hm0 : modD (.int spot) (.int s.length) = some (.int (spot.fmod s.length)) := modD_int (by omega)
        have hgt : (0 : Int) < s.length := hp
        have hpn : 0 < s.length := by omega
        simp [mD, look, asgB, setAll, isLck, setN, hm0, hat, hpn]
    obtain ⟨c, hc⟩ := cell
    have e1 := fmod_lo (a := c) (b := 1000003) (by decide)
    have e2 := fmod_hi (a := c) (b := 1000003) (by decide)
    have e3 := fmod_lo (a := spot) (b := 997) (by decide)
    have e4 := fmod_hi (a := spot) (b := 997) (by decide)
    obtain ⟨u, hu⟩ : ∃ u, u = ((c.fmod 1000003 + 1) * (spot.fmod 997 * 7919 + 104729 + spot)).fmod 1000033 := ⟨_, rfl⟩
    obtain ⟨u2, hu2⟩ : ∃ u2, u2 = (u * u + 3 * u + spot).fmod 999983 := ⟨_, rfl⟩
    have u0 : 0 ≤ u := by rw [hu]; exact fmod_lo (by decide)
    have u1 : u < 1000033 := by rw [hu]; exact fmod_hi (by decide)
    have v0 : 0 ≤ u2 := by rw [hu2]; exact fmod_lo (by decide)
    have v1 : u2 < 999983 := by rw [hu2]; exact fmod_hi (by decide)
    have m1 : modD (.int c) (.int 1000003) = some (.int (c.fmod 1000003)) := modD_int (by decide)
    have m2 : modD (.int spot) (.int 997) = some (.int (spot.fmod 997)) := modD_int (by decide)
    have m3 : mulD (.int (spot.fmod 997)) (.int 7919) = some (.int (spot.fmod 997 * 7919)) := mulD_int (mulOk_200 (by omega) (by omega))
    have m4 : mulD (.int (c.fmod 1000003 + 1)) (.int (spot.fmod 997 * 7919 + 104729 + spot)) = some (.int ((c.fmod 1000003 + 1) * (spot.fmod 997 * 7919 + 104729 + spot))) := mulD_int (mulOk_200 (by omega) (by omega))
    have m5 : modD (.int ((c.fmod 1000003 + 1) * (spot.fmod 997 * 7919 + 104729 + spot))) (.int 1000033) = some (.int u) := by rw [hu]; exact modD_int (by decide)
    have m6 : mulD (.int u) (.int u) = some (.int (u * u)) := mulD_int (mulOk_200 (by omega) (by omega))
    have m7 : mulD (.int 3) (.int u) = some (.int (3 * u)) := mulD_int (mulOk_200 (by omega) (by omega))
    have m8 : modD (.int (u * u + 3 * u + spot)) (.int 999983) = some (.int u2) := by rw [hu2]; exact modD_int (by decide)
    have m9 : mulD (.int u2) (.int 48271) = some (.int (u2 * 48271)) := mulD_int (mulOk_200 (by omega) (by omega))
    have m10 : modD (.int (u2 * 48271)) (.int 65537) = some (.int ((u2 * 48271).fmod 65537)) := modD_int (by decide)
    have m11 : modD (.int ((u2 * 48271).fmod 65537)) (.int many) = some (.int (((u2 * 48271).fmod 65537).fmod many)) := modD_int (by omega)
    refine ⟨((u2 * 48271).fmod 65537).fmod many, tapeD s (spot + 1) l2 a2, ?_, fmod_lo hm, fmod_hi hm, s, spot + 1, l2, a2, rfl, hs, by omega, by omega, hl2, ha2⟩
    have skip : exec F W (.ife (.cmp .gt (.e (.ix (.pk 0) (.int 2))) (.e (.int 0))) (.cons (.asg 6 (.ix (.pk 0) (.int 2))) (.cons (.seti 0 (.int 2) (.bin .fdiv (.var 6) (.var 1))) (.cons (.ret (.bin .mod (.var 6) (.var 1))) .nil))) .nil) (mD s many spot l2 a2) = .ok .nx (mD s many spot l2 a2) := by
      simp [mD, peek, tapeD, tape_ix2, look, hpos]
    rw [execs_cons, skip, bind_ok, thenB_nx, execs_cons]
    have hc' := hc (execs F W (.cons (.asg 5 (.bin .mod (.bin .mul (.bin .add (.bin .mod (.var 4) (.int 1000003)) (.int 1)) (.bin .add (.bin .add (.bin .mul (.bin .mod (.var 3) (.int 997)) (.int 7919)) (.int 104729)) (.var 3))) (.int 1000033)))
      (.cons (.asg 5 (.bin .mod (.bin .add (.bin .add (.bin .mul (.var 5) (.var 5)) (.bin .mul (.int 3) (.var 5))) (.var 3)) (.int 999983)))
      (.cons (.ret (.bin .mod (.bin .mod (.bin .mul (.var 5) (.int 48271)) (.int 65537)) (.var 1))) .nil))))
    refine (congrArg (endR [0]) hc').trans ?_
    simp [look, asgB, setAll, isLck, setN, m1, m2, m3, m4, m5, m6, m7, m8, m9, m10, m11, outsOf, owned]
end Mn
set_option Elab.async false
set_option linter.all false
set_option maxRecDepth 100000
set_option autoImplicit false
set_option maxHeartbeats 1000000
namespace Mn
open PySem PySem.Spec
/-! ## powers and orders -/
def fJoined : Fn := ⟨"joined_powers", ["one", "other"], ["one", "other", "here", "there"], [],
(.cons (.ret (.b1 .tuple (.e (.fre (.comp (.bin .add (.var 2) (.var 3)) [2, 3] true (.zip (.var 0) (.var 1)) .none)))))
.nil)⟩
def fOver : Fn := ⟨"over_powers", ["one", "other"], ["one", "other", "here", "there"], [],
(.cons (.ret (.b1 .tuple (.e (.fre (.comp (.bin .sub (.var 2) (.var 3)) [2, 3] true (.zip (.var 0) (.var 1)) .none)))))
.nil)⟩
def fJoint : Fn := ⟨"joint", ["one", "other"], ["one", "other", "here", "there"], [],
(.cons (.ret (.b1 .tuple (.e (.fre (.comp (.b2 .max (.var 2) (.var 3)) [2, 3] true (.zip (.var 0) (.var 1)) .none)))))
.nil)⟩
def fDivides : Fn := ⟨"divides", ["one", "other"], ["one", "other", "here", "there"], [],
(.cons (.ret (.b1 .all (.e (.fre (.comp (.cmp .le (.e (.var 2)) (.e (.var 3))) [2, 3] true (.zip (.var 0) (.var 1)) .none)))))
.nil)⟩
def fAhead : Fn := ⟨"is_ahead", ["order", "one", "other"], ["order", "one", "other", "first", "second", "letter"], [],
(.cons (.asg 3 (.fre (.comp (.ix (.e (.var 1)) (.var 5)) [5] false (.seq (.e (.ix (.e (.var 0)) (.int 1)))) .none)))
(.cons (.asg 4 (.fre (.comp (.ix (.e (.var 2)) (.var 5)) [5] false (.seq (.e (.ix (.e (.var 0)) (.int 1)))) .none)))
(.cons (.ife (.and (.cons (.cmp .eq (.e (.ix (.e (.var 0)) (.int 0))) (.e (.str "total"))) (.cons (.cmp .ne (.e (.b1 .sum (.e (.var 3)))) (.e (.b1 .sum (.e (.var 4))))) .nil)))
(.cons (.ret (.cmp .gt (.e (.b1 .sum (.e (.var 3)))) (.e (.b1 .sum (.e (.var 4))))))
.nil)
.nil)
(.cons (.ret (.cmp .gt (.e (.var 3)) (.e (.var 4))))
.nil))))⟩
theorem compL_on {β : Type} {f : D → Mu → Rs (Option D)} {μ : Mu} (h g : β → D) (l : List β) (acc : List D) (hf : ∀ b ∈ l, f (h b) μ = .ok (some (g b)) μ) : compL f (l.map h) acc μ = .ok (acc ++ l.map g) μ := by
  induction l generalizing acc with
  | nil => simp [compL]
  | cons b l ih =>
    rw [List.map_cons]
    show (f (h b) μ).bind _ = _
    rw [hf b List.mem_cons_self]
    show compL f (l.map h) (acc ++ [g b]) μ = _
    rw [ih _ fun c hc => hf c (List.mem_cons_of_mem _ hc), List.append_assoc]; rfl
theorem zip_ints : ∀ (xs ys : List Int), zipD (xs.map .int) (ys.map .int) = (xs.zip ys).map fun p => pairD (.int p.1) (.int p.2)
  | [], _ => rfl
  | _ :: _, [] => rfl
  | x :: xs, y :: ys => by
    have := zip_ints xs ys
    unfold zipD at this ⊢
    simp only [List.map_cons, List.zip_cons_cons]
    rw [this]
theorem zip2_tup (xs ys : List D) (μ : Mu) : zip2D (.tuple xs) (.tuple ys) μ = .ok (zipD xs ys) μ := rfl
section
variable (F : Nat → List Sl → FR) (W : Nat)
def tupI (xs : List Int) : D := .tuple (xs.map .int)
def joinP (xs ys : List Int) : List Int := (xs.zip ys).map fun p => p.1 + p.2
def overP (xs ys : List Int) : List Int := (xs.zip ys).map fun p => p.1 - p.2
def jointP (xs ys : List Int) : List Int := (xs.zip ys).map fun p => if p.1 < p.2 then p.2 else p.1
def divP (xs ys : List Int) : Bool := (xs.zip ys).all fun p => decide (p.1 ≤ p.2)
theorem map_ints {α : Type} (l : List α) (g : α → Int) : l.map (fun p => PyData.int (g p)) = (l.map g).map .int := by rw [List.map_map]; rfl
theorem map_bools {α : Type} (l : List α) (g : α → Bool) : l.map (fun p => PyData.bool (g p)) = (l.map g).map .bool := by rw [List.map_map]; rfl
theorem joined_ok (xs ys : List Int) : runFn F W fJoined [.val (tupI xs), .val (tupI ys)] = .ok (tupI (joinP xs ys)) [] := by
  rw [runFn_at rfl rfl]
  have e : compL (turnR [2, 3] true (ev F (.bin .add (.var 2) (.var 3))) none) ((xs.zip ys).map fun p => pairD (.int p.1) (.int p.2)) [] [.val (tupI xs), .val (tupI ys), .no, .no] = .ok ([] ++ (xs.zip ys).map fun p => .int (p.1 + p.2)) [.val (tupI xs), .val (tupI ys), .no, .no] := by
    refine compL_on _ _ _ _ fun p hp => ?_
    simp [turnR, wipeM, freeAll, wipeL, setT, pairD, isPair, setAll, isLck, setN, look, Sl.held, backL, Rs.nox]
  simp only [tupI] at e
  simp [fJoined, tupI, look, zip2_tup, zip_ints, e, outsOf, joinP]
theorem over_ok (xs ys : List Int) : runFn F W fOver [.val (tupI xs), .val (tupI ys)] = .ok (tupI (overP xs ys)) [] := by
  rw [runFn_at rfl rfl]
  have e : compL (turnR [2, 3] true (ev F (.bin .sub (.var 2) (.var 3))) none) ((xs.zip ys).map fun p => pairD (.int p.1) (.int p.2)) [] [.val (tupI xs), .val (tupI ys), .no, .no] = .ok ([] ++ (xs.zip ys).map fun p => .int (p.1 - p.2)) [.val (tupI xs), .val (tupI ys), .no, .no] := by
    refine compL_on _ _ _ _ fun p hp => ?_
    simp [turnR, wipeM, freeAll, wipeL, setT, pairD, isPair, setAll, isLck, setN, look, Sl.held, backL, Rs.nox]
  simp only [tupI] at e
  simp [fOver, tupI, look, zip2_tup, zip_ints, e, outsOf, overP]
theorem joint_ok (xs ys : List Int) : runFn F W fJoint [.val (tupI xs), .val (tupI ys)] = .ok (tupI (jointP xs ys)) [] := by
  rw [runFn_at rfl rfl]
  have e : compL (turnR [2, 3] true (ev F (.b2 .max (.var 2) (.var 3))) none) ((xs.zip ys).map fun p => pairD (.int p.1) (.int p.2)) [] [.val (tupI xs), .val (tupI ys), .no, .no] = .ok ([] ++ (xs.zip ys).map fun p => .int (if p.1 < p.2 then p.2 else p.1)) [.val (tupI xs), .val (tupI ys), .no, .no] := by
    refine compL_on _ _ _ _ fun p hp => ?_
    simp [turnR, wipeM, freeAll, wipeL, setT, pairD, isPair, setAll, isLck, setN, look, Sl.held, backL, Rs.nox, b2D]
  simp only [tupI] at e
  simp [fJoint, tupI, look, zip2_tup, zip_ints, e, outsOf, jointP]
theorem divides_ok (xs ys : List Int) : runFn F W fDivides [.val (tupI xs), .val (tupI ys)] = .ok (.bool (divP xs ys)) [] := by
  rw [runFn_at rfl rfl]
  have e : compL (turnR [2, 3] true (ev F (.cmp .le (.e (.var 2)) (.e (.var 3)))) none) ((xs.zip ys).map fun p => pairD (.int p.1) (.int p.2)) [] [.val (tupI xs), .val (tupI ys), .no, .no] = .ok ([] ++ (xs.zip ys).map fun p => .bool (decide (p.1 ≤ p.2))) [.val (tupI xs), .val (tupI ys), .no, .no] := by
    refine compL_on _ _ _ _ fun p hp => ?_
    simp [turnR, wipeM, freeAll, wipeL, setT, pairD, isPair, setAll, isLck, setN, look, Sl.held, backL, Rs.nox]
  simp only [tupI] at e
  rw [map_bools] at e
  simp only [fDivides, execs_cons, exec_ret, ev_b1, evP_e, ev_fre, evF_comp, evI_zip, ev_var]
  simp [tupI, look, zip2_tup, zip_ints, e, outsOf, -List.map_map, divP]
/-- the powers in an order's letters -/
def pickP (ls xs : List Int) : List Int := ls.map fun l => xs.getD l.toNat 0
def ordD (kind : Str) (ls : List Int) : D := .tuple [.str kind, tupI ls]
def aheadB (kind : Str) (ls xs ys : List Int) : Bool := if kind = "total" ∧ (pickP ls xs).sum ≠ (pickP ls ys).sum then decide ((pickP ls ys).sum < (pickP ls xs).sum) else decide (pickP ls ys < pickP ls xs)
theorem ahead_ok (kind : Str) (ls xs ys : List Int) (hx : ∀ l ∈ ls, 0 ≤ l ∧ l < xs.length) (hy : ∀ l ∈ ls, 0 ≤ l ∧ l < ys.length) : runFn F W fAhead [.val (ordD kind ls), .val (tupI xs), .val (tupI ys)] = .ok (.bool (aheadB kind ls xs ys)) [] := by
  rw [runFn_at rfl rfl]
  have e1 : compL (turnR [5] false (ev F (.ix (.e (.var 1)) (.var 5))) none) (ls.map .int) [] [.val (ordD kind ls), .val (tupI xs), .val (tupI ys), .no, .no, .no] = .ok ([] ++ ls.map fun l => .int (xs.getD l.toNat 0)) [.val (ordD kind ls), .val (tupI xs), .val (tupI ys), .no, .no, .no] := by
    refine compL_on _ _ _ _ fun l hl => ?_
    have hat : L2.atI (xs.map PyData.int) l = some (.int (xs.getD l.toNat 0)) := by
      obtain ⟨h1, h2⟩ := hx l hl
      refine atI_nat h1 ?_
      rw [List.getElem?_map, List.getElem?_eq_getElem (by omega)]
      simp [List.getD, List.getElem?_eq_getElem (show l.toNat < xs.length by omega)]
    simp [turnR, wipeM, freeAll, wipeL, setT, pairD, isPair, setAll, isLck, setN, look, Sl.held, backL, Rs.nox, tupI, hat]
  have e2 : compL (turnR [5] false (ev F (.ix (.e (.var 2)) (.var 5))) none) (ls.map .int) [] [.val (ordD kind ls), .val (tupI xs), .val (tupI ys), .val (.list ((pickP ls xs).map .int)), .no, .no] = .ok ([] ++ ls.map fun l => .int (ys.getD l.toNat 0)) [.val (ordD kind ls), .val (tupI xs), .val (tupI ys), .val (.list ((pickP ls xs).map .int)), .no, .no] := by
    refine compL_on _ _ _ _ fun l hl => ?_
    have hat : L2.atI (ys.map PyData.int) l = some (.int (ys.getD l.toNat 0)) := by
      obtain ⟨h1, h2⟩ := hy l hl
      refine atI_nat h1 ?_
      rw [List.getElem?_map, List.getElem?_eq_getElem (by omega)]
      simp [List.getD, List.getElem?_eq_getElem (show l.toNat < ys.length by omega)]
    simp [turnR, wipeM, freeAll, wipeL, setT, pairD, isPair, setAll, isLck, setN, look, Sl.held, backL, Rs.nox, tupI, hat]
  rw [map_ints ls fun l => xs.getD l.toNat 0] at e1
  rw [map_ints ls fun l => ys.getD l.toNat 0] at e2
  have e1 : compL (turnR [5] false (ev F (.ix (.e (.var 1)) (.var 5))) none) (ls.map .int) [] [.val (ordD kind ls), .val (tupI xs), .val (tupI ys), .no, .no, .no] = .ok ((pickP ls xs).map .int) [.val (ordD kind ls), .val (tupI xs), .val (tupI ys), .no, .no, .no] := e1
  have e2 : compL (turnR [5] false (ev F (.ix (.e (.var 2)) (.var 5))) none) (ls.map .int) [] [.val (ordD kind ls), .val (tupI xs), .val (tupI ys), .val (.list ((pickP ls xs).map .int)), .no, .no] = .ok ((pickP ls ys).map .int) [.val (ordD kind ls), .val (tupI xs), .val (tupI ys), .val (.list ((pickP ls xs).map .int)), .no, .no] := e2
  have i1 : L2.atI [PyData.str kind, tupI ls] 1 = some (tupI ls) := rfl
  have i0 : L2.atI [PyData.str kind, tupI ls] 0 = some (.str kind) := rfl
  generalize hA : pickP ls xs = A at *
  generalize hB : pickP ls ys = B at *
  simp only [fAhead, execs_cons, exec_asg, ev_fre, evF_comp, evI_seq, evP_e, ev_ix, ev_var, ev_int, ordD, tupI] at *
  simp [look, i1, e1, e2, asgB, setAll, isLck, setN]
  unfold aheadB
  rw [hA, hB]
  by_cases hk : kind = "total"
  · subst hk
    by_cases hs : A.sum = B.sum
    · simp [i0, hs, look, outsOf]
    · simp [i0, hs, look, outsOf]
  · have hk' : (kind == ("total" : Str)) = false := by rw [Bool.eq_false_iff]; intro z; exact hk (eq_of_beq z)
    simp [i0, hk', hk, look, outsOf]
end
end Mn
set_option Elab.async false
set_option linter.all false
set_option autoImplicit false
namespace Mn
open PySem PySem.Spec
/-! ## the order of lists of numbers -/
theorem lex_irr : ∀ xs : List Int, ¬ xs < xs
  | [] => by simp
  | x :: xs => by
    rw [List.cons_lt_cons_iff]
    have := lex_irr xs
    rintro (h | ⟨_, h⟩)
    · omega
    · exact this h
theorem lex_tri : ∀ xs ys : List Int, xs < ys ∨ xs = ys ∨ ys < xs
  | [], [] => .inr (.inl rfl)
  | [], _ :: _ => .inl (List.nil_lt_cons _ _)
  | _ :: _, [] => .inr (.inr (List.nil_lt_cons _ _))
  | x :: xs, y :: ys => by
    rw [List.cons_lt_cons_iff, List.cons_lt_cons_iff]
    rcases lex_tri xs ys with h | h | h
    · by_cases e : x = y
      · exact .inl (.inr ⟨e, h⟩)
      · rcases Int.lt_or_gt_of_ne e with q | q
        · exact .inl (.inl q)
        · exact .inr (.inr (.inl q))
    · subst h
      by_cases e : x = y
      · subst e; exact .inr (.inl rfl)
      · rcases Int.lt_or_gt_of_ne e with q | q
        · exact .inl (.inl q)
        · exact .inr (.inr (.inl q))
    · by_cases e : x = y
      · exact .inr (.inr (.inr ⟨e.symm, h⟩))
      · rcases Int.lt_or_gt_of_ne e with q | q
        · exact .inl (.inl q)
        · exact .inr (.inr (.inl q))
theorem lex_trans : ∀ {xs ys zs : List Int}, xs < ys → ys < zs → xs < zs
  | xs, ys, [], h1, h2 => by simp at h2
  | [], ys, z :: zs, h1, h2 => List.nil_lt_cons _ _
  | x :: xs, [], z :: zs, h1, h2 => by simp at h1
  | x :: xs, y :: ys, z :: zs, h1, h2 => by
    rw [List.cons_lt_cons_iff] at *
    rcases h1 with h1 | ⟨e1, h1⟩
    · rcases h2 with h2 | ⟨e2, h2⟩
      · exact .inl (by omega)
      · exact .inl (by omega)
    · rcases h2 with h2 | ⟨e2, h2⟩
      · exact .inl (by omega)
      · exact .inr ⟨by omega, lex_trans h1 h2⟩
theorem lex_asym {xs ys : List Int} (h1 : xs < ys) (h2 : ys < xs) : False := lex_irr xs (lex_trans h1 h2)
/-- place by place sums -/
def addL : List Int → List Int → List Int
  | x :: xs, y :: ys => (x + y) :: addL xs ys
  | _, _ => []
theorem lex_add : ∀ {xs ys zs : List Int}, xs.length = ys.length → ys.length = zs.length → (addL xs zs < addL ys zs ↔ xs < ys)
  | [], [], [], _, _ => by simp [addL]
  | x :: xs, y :: ys, z :: zs, h1, h2 => by
    have ih := lex_add (xs := xs) (ys := ys) (zs := zs) (by simpa using h1) (by simpa using h2)
    show (x + z) :: addL xs zs < (y + z) :: addL ys zs ↔ _
    rw [List.cons_lt_cons_iff, List.cons_lt_cons_iff, ih]
    constructor
    · rintro (h | ⟨h, q⟩)
      · exact .inl (by omega)
      · exact .inr ⟨by omega, q⟩
    · rintro (h | ⟨h, q⟩)
      · exact .inl (by omega)
      · exact .inr ⟨by omega, q⟩
  | [], _ :: _, _, h, _ => by simp at h
  | _ :: _, [], _, h, _ => by simp at h
  | [], [], _ :: _, _, h => by simp at h
  | _ :: _, _ :: _, [], _, h => by simp at h
/-- place by place not above -/
theorem lex_le : ∀ {xs ys : List Int}, xs.length = ys.length → (∀ i : Nat, xs.getD i 0 ≤ ys.getD i 0) → ¬ ys < xs
  | [], [], _, _ => by simp
  | x :: xs, y :: ys, h, hp => by
    have ih := lex_le (xs := xs) (ys := ys) (by simpa using h) fun i => by simpa using hp (i + 1)
    have h0 : x ≤ y := by simpa using hp 0
    rw [List.cons_lt_cons_iff]
    rintro (q | ⟨_, q⟩)
    · omega
    · exact ih q
  | [], _ :: _, h, _ => by simp at h
  | _ :: _, [], h, _ => by simp at h
def keyL (kind : Str) (p : List Int) : List Int := if kind = "total" then p.sum :: p else p
theorem ahead_key (kind : Str) (ls xs ys : List Int) : aheadB kind ls xs ys = decide (keyL kind (pickP ls ys) < keyL kind (pickP ls xs)) := by
  unfold aheadB keyL
  by_cases hk : kind = "total"
  · simp only [hk, true_and, if_true]
    by_cases hs : (pickP ls xs).sum = (pickP ls ys).sum
    · rw [if_neg (by simpa using hs)]
      apply decide_eq_decide.mpr
      rw [List.cons_lt_cons_iff, hs]
      constructor
      · exact fun h => .inr ⟨rfl, h⟩
      · rintro (h | ⟨_, h⟩)
        · omega
        · exact h
    · rw [if_pos hs]
      apply decide_eq_decide.mpr
      rw [List.cons_lt_cons_iff]
      constructor
      · exact fun h => .inl h
      · rintro (h | ⟨h, _⟩)
        · exact h
        · exact absurd h.symm hs
  · simp only [hk, false_and, if_false]
end Mn
set_option Elab.async false
set_option linter.all false
set_option autoImplicit false
namespace Mn
open PySem PySem.Spec
/-- the letters are all of 0 .. n - 1 -/
structure OrdOk (n : Nat) (ls : List Int) : Prop where
  lo : ∀ l ∈ ls, 0 ≤ l ∧ l < n
  all : ∀ i : Nat, i < n → (i : Int) ∈ ls
section
variable {n : Nat} {ls xs ys zs : List Int} {kind : Str}
theorem pick_len (ls xs : List Int) : (pickP ls xs).length = ls.length := by unfold pickP; rw [List.length_map]
theorem pick_inj (o : OrdOk n ls) (hx : xs.length = n) (hy : ys.length = n) (h : pickP ls xs = pickP ls ys) : xs = ys := by
  apply List.ext_getElem (by rw [hx, hy])
  intro i h1 h2
  have hm := o.all i (by omega)
  unfold pickP at h
  have := (List.map_inj_left.mp h) (i : Int) hm
  simpa [List.getD, h1, h2] using this
theorem join_len (hx : xs.length = n) (hy : ys.length = n) : (joinP xs ys).length = n := by unfold joinP; rw [List.length_map, List.length_zip, hx, hy, Nat.min_self]
theorem pick_join (o : ∀ l ∈ ls, 0 ≤ l ∧ l < (n : Int)) (hx : xs.length = n) (hy : ys.length = n) : pickP ls (joinP xs ys) = addL (pickP ls xs) (pickP ls ys) := by
  induction ls with
  | nil => rfl
  | cons l ls ih =>
    have ih := ih fun m hm => o m (List.mem_cons_of_mem _ hm)
    obtain ⟨h0, h1⟩ := o l List.mem_cons_self
    show (joinP xs ys).getD l.toNat 0 :: pickP ls (joinP xs ys) = (xs.getD l.toNat 0 + ys.getD l.toNat 0) :: addL (pickP ls xs) (pickP ls ys)
    rw [ih]
    congr 1
    have a1 : l.toNat < xs.length := by omega
    have a2 : l.toNat < ys.length := by omega
    have a3 : l.toNat < (joinP xs ys).length := by rw [join_len hx hy]; omega
    simp [List.getD, a1, a2, joinP, List.getElem?_zip_eq_some]
    simp [List.zip, List.getElem?_zipWith, a1, a2]
theorem sum_add : ∀ {a b : List Int}, a.length = b.length → (addL a b).sum = a.sum + b.sum
  | [], [], _ => rfl
  | x :: a, y :: b, h => by
    show ((x + y) :: addL a b).sum = _
    rw [List.sum_cons, List.sum_cons, List.sum_cons, sum_add (by simpa using h)]; omega
  | [], _ :: _, h => by simp at h
  | _ :: _, [], h => by simp at h
theorem key_add {a b : List Int} (h : a.length = b.length) : keyL kind (addL a b) = addL (keyL kind a) (keyL kind b) := by
  unfold keyL
  split
  · rw [sum_add h]; rfl
  · rfl
theorem key_len {a b : List Int} (h : a.length = b.length) : (keyL kind a).length = (keyL kind b).length := by
  unfold keyL
  split
  · simp [h]
  · exact h
theorem ahead_asym : (aheadB kind ls xs ys && aheadB kind ls ys xs) = false := by
  rw [ahead_key, ahead_key, Bool.and_eq_false_iff]
  by_cases h : keyL kind (pickP ls ys) < keyL kind (pickP ls xs)
  · exact .inr (decide_eq_false fun q => lex_asym h q)
  · exact .inl (decide_eq_false h)
theorem key_inj {a b : List Int} (h : keyL kind a = keyL kind b) : a = b := by
  unfold keyL at h
  split at h
  · exact (List.cons.inj h).2
  · exact h
theorem ahead_total (o : OrdOk n ls) (hx : xs.length = n) (hy : ys.length = n) : (decide (xs = ys) == (aheadB kind ls xs ys || aheadB kind ls ys xs)) = false := by
  rw [ahead_key, ahead_key]
  rcases lex_tri (keyL kind (pickP ls xs)) (keyL kind (pickP ls ys)) with h | h | h
  · have : xs ≠ ys := fun z => by subst z; exact lex_irr _ h
    simp [h, this]
  · have : xs = ys := pick_inj o hx hy (key_inj h)
    subst this
    simp [lex_irr]
  · have : xs ≠ ys := fun z => by subst z; exact lex_irr _ h
    simp [h, this]
theorem ahead_trans (h1 : aheadB kind ls xs ys = true) (h2 : aheadB kind ls ys zs = true) : aheadB kind ls xs zs = true := by
  rw [ahead_key, decide_eq_true_eq] at *
  exact lex_trans h2 h1
theorem ahead_add (o : OrdOk n ls) (hx : xs.length = n) (hy : ys.length = n) (hz : zs.length = n) : aheadB kind ls (joinP xs zs) (joinP ys zs) = aheadB kind ls xs ys := by
  rw [ahead_key, ahead_key, pick_join o.lo hx hz, pick_join o.lo hy hz, key_add (by rw [pick_len, pick_len]), key_add (by rw [pick_len, pick_len])]
  apply decide_eq_decide.mpr
  exact lex_add (key_len (by rw [pick_len, pick_len])) (key_len (by rw [pick_len, pick_len]))
theorem sum_le : ∀ {a b : List Int}, a.length = b.length → (∀ i : Nat, a.getD i 0 ≤ b.getD i 0) → a.sum ≤ b.sum
  | [], [], _, _ => Int.le_refl _
  | x :: a, y :: b, h, hp => by
    have := sum_le (a := a) (b := b) (by simpa using h) fun i => by simpa using hp (i + 1)
    have h0 : x ≤ y := by simpa using hp 0
    rw [List.sum_cons, List.sum_cons]; omega
  | [], _ :: _, h, _ => by simp at h
  | _ :: _, [], h, _ => by simp at h
theorem ahead_le (hp : ∀ i : Nat, (pickP ls xs).getD i 0 ≤ (pickP ls ys).getD i 0) : aheadB kind ls xs ys = false := by
  rw [ahead_key]
  apply decide_eq_false
  have hl : (pickP ls xs).length = (pickP ls ys).length := by rw [pick_len, pick_len]
  refine lex_le (key_len hl) fun i => ?_
  unfold keyL
  split
  · cases i with
    | zero => simpa using sum_le hl hp
    | succ i => simpa using hp i
  · exact hp i
theorem pick_get (ls xs : List Int) (i : Nat) : (pickP ls xs).getD i 0 = match ls[i]? with
    | some l => xs.getD l.toNat 0
    | none => 0 := by
  unfold pickP
  rw [List.getD, List.getElem?_map]
  cases ls[i]? <;> rfl
theorem div_get (hx : xs.length = n) (hy : ys.length = n) (h : divP xs ys = true) (i : Nat) : xs.getD i 0 ≤ ys.getD i 0 := by
  unfold divP at h
  rw [List.all_eq_true] at h
  by_cases hi : i < n
  · have h1 : i < xs.length := by omega
    have h2 : i < ys.length := by omega
    have := h (xs[i], ys[i]) (by
      rw [List.mem_iff_getElem?]
      exact ⟨i, by simp [List.zip, List.getElem?_zipWith, h1, h2]⟩)
    simpa [List.getD, h1, h2] using this
  · simp [List.getD, List.getElem?_eq_none (show xs.length ≤ i by omega), List.getElem?_eq_none (show ys.length ≤ i by omega)]
theorem ahead_div (hx : xs.length = n) (hy : ys.length = n) (h : divP xs ys = true) : aheadB kind ls xs ys = false := by
  refine ahead_le fun i => ?_
  rw [pick_get, pick_get]
  cases ls[i]? with
  | none => exact Int.le_refl _
  | some l => exact div_get hx hy h _
theorem ahead_zero (hy : ∀ y ∈ ys, 0 ≤ y) : aheadB kind ls (List.replicate n 0) ys = false := by
  refine ahead_le fun i => ?_
  rw [pick_get, pick_get]
  cases ls[i]? with
  | none => exact Int.le_refl _
  | some l =>
    have e : (List.replicate n (0 : Int)).getD l.toNat 0 = 0 := by
      rw [List.getD, List.getElem?_replicate]; split <;> rfl
    show (List.replicate n (0 : Int)).getD l.toNat 0 ≤ ys.getD l.toNat 0
    rw [e]
    rw [List.getD]
    cases q : ys[l.toNat]? with
    | none => exact Int.le_refl _
    | some y => exact hy y (List.mem_of_getElem? q)
end
end Mn
set_option Elab.async false
set_option linter.all false
set_option autoImplicit false
namespace Mn
open PySem PySem.Spec
/-! ## loops by an invariant -/
theorem forL_inv {f : D → Mu → Rs Fl} (I : Nat → Mu → Prop) : ∀ (ds : List D) (j : Nat) (μ : Mu), (∀ i d μ, ds[i]? = some d → I (j + i) μ → ∃ μ', f d μ = .ok .nx μ' ∧ I (j + i + 1) μ') → I j μ → ∃ μ', forL f ds μ = .ok .nx μ' ∧ I (j + ds.length) μ'
  | [], j, μ, _, h => ⟨μ, rfl, h⟩
  | d :: ds, j, μ, hs, h => by
    obtain ⟨μ1, e1, h1⟩ := hs 0 d μ rfl h
    obtain ⟨μ2, e2, h2⟩ := forL_inv I ds (j + 1) μ1 (fun i d' μ' hd hi => by
      have := hs (i + 1) d' μ' (by simpa using hd) (by rw [show j + (i + 1) = j + 1 + i by omega]; exact hi)
      rw [show j + (i + 1) + 1 = j + 1 + i + 1 by omega] at this
      exact this) h1
    refine ⟨μ2, ?_, by rw [List.length_cons, show j + (ds.length + 1) = j + 1 + ds.length by omega]; exact h2⟩
    show (f d μ).bind _ = _
    rw [e1]
    exact e2
theorem compL_inv {f : D → Mu → Rs (Option D)} (I : Nat → List D → Mu → Prop) : ∀ (ds : List D) (j : Nat) (acc : List D) (μ : Mu), (∀ i d acc μ, ds[i]? = some d → I (j + i) acc μ → ∃ y μ', f d μ = .ok (some y) μ' ∧ I (j + i + 1) (acc ++ [y]) μ') → I j acc μ → ∃ ys μ', compL f ds acc μ = .ok ys μ' ∧ I (j + ds.length) ys μ'
  | [], j, acc, μ, _, h => ⟨acc, μ, rfl, h⟩
  | d :: ds, j, acc, μ, hs, h => by
    obtain ⟨y, μ1, e1, h1⟩ := hs 0 d acc μ rfl h
    obtain ⟨ys, μ2, e2, h2⟩ := compL_inv I ds (j + 1) (acc ++ [y]) μ1 (fun i d' a' μ' hd hi => by
      have := hs (i + 1) d' a' μ' (by simpa using hd) (by rw [show j + (i + 1) = j + 1 + i by omega]; exact hi)
      rw [show j + (i + 1) + 1 = j + 1 + i + 1 by omega] at this
      exact this) h1
    refine ⟨ys, μ2, ?_, by rw [List.length_cons, show j + (ds.length + 1) = j + 1 + ds.length by omega]; exact h2⟩
    show (f d μ).bind _ = _
    rw [e1]
    exact e2
theorem rangeD_len (lo : Int) (n : Nat) : (rangeD lo n).length = n := by unfold rangeD; rw [List.length_map, List.length_range]
theorem rng1_ok {j : Int} {μ : Mu} (h0 : 0 ≤ j) (h1 : j ≤ 1000) : rng1D (.int j) μ = .ok (rangeD 0 j.toNat) μ := by
  refine if_pos ?_
  unfold smallI sizeOkN
  simp only [Bool.and_eq_true, decide_eq_true_eq]
  omega
/-- a draw within a frame -/
theorem call_draw {G : List Sl → FR} {W : Nat} {F : Nat → List Sl → FR} (hG : G = runFn F W fDraw) (hW : 64 < W) {n : Nat} {T : D} {many : Int} {i : Nat} {μ : Mu} (ho : owned μ i = some T) (h : TapeB n T) (hn : n ≤ 1000000000000) (hm : 0 < many) (hm2 : many < 2 ^ 64) :
    ∃ r T', callG G [.io i, .v (.int many)] μ = .ok (.int r) (μ.set i (.own T')) ∧ 0 ≤ r ∧ r < many ∧ TapeB (n + 1) T' := by
  obtain ⟨r, T', e, h1, h2, h3⟩ := draw_ok F W hW h hn hm hm2
  refine ⟨r, T', ?_, h1, h2, h3⟩
  simp [callG, ioNd, argSl, ho, hG, e, outM]
end Mn
set_option Elab.async false
set_option linter.all false
set_option maxRecDepth 100000
set_option autoImplicit false
namespace Mn
open PySem PySem.Spec
/-! ## what a run promises -/
inductive Rs.wp {α : Type} : Rs α → (α → Mu → Prop) → Prop
  | mk {a : α} {μ : Mu} {Q : α → Mu → Prop} (h : Q a μ) : Rs.wp (.ok a μ) Q
inductive FR.wp : FR → (D → List D → Prop) → Prop
  | mk {d : D} {o : List D} {Q : D → List D → Prop} (h : Q d o) : FR.wp (.ok d o) Q
theorem Rs.bind_cong {α β : Type} {r r' : Rs α} {k : α → Mu → Rs β} (h : r = r') : r.bind k = r'.bind k := by rw [h]
theorem Rs.wp_cong {α : Type} {r r' : Rs α} {Q : α → Mu → Prop} (h : r = r') : r.wp Q = r'.wp Q := by rw [h]
theorem FR.wp_cong {r r' : FR} {Q : D → List D → Prop} (h : r = r') : r.wp Q = r'.wp Q := by rw [h]
theorem bitOf_cong {r r' : Rs D} (h : r = r') : bitOf r = bitOf r' := by rw [h]
@[simp] theorem wp_ok {α : Type} (a : α) (μ : Mu) (Q : α → Mu → Prop) : (Rs.ok a μ).wp Q = Q a μ := propext ⟨fun ⟨h⟩ => h, .mk⟩
@[simp] theorem fwp_ok (d : D) (o : List D) (Q : D → List D → Prop) : (FR.ok d o).wp Q = Q d o := propext ⟨fun ⟨h⟩ => h, .mk⟩
theorem wp_ex {α : Type} (x : Xc) (μ : Mu) (Q : α → Mu → Prop) : (Rs.ex x μ).wp Q = False := propext ⟨fun h => (nomatch h), False.elim⟩
theorem wp_st {α : Type} (Q : α → Mu → Prop) : (Rs.st : Rs α).wp Q = False := propext ⟨fun h => (nomatch h), False.elim⟩
theorem fwp_ex (x : Xc) (o : List D) (Q : D → List D → Prop) : (FR.ex x o).wp Q = False := propext ⟨fun h => (nomatch h), False.elim⟩
theorem fwp_st (Q : D → List D → Prop) : FR.st.wp Q = False := propext ⟨fun h => (nomatch h), False.elim⟩
theorem fwp_fr (d : D) (o : List D) (Q : D → List D → Prop) : (FR.fr d o).wp Q = False := propext ⟨fun h => (nomatch h), False.elim⟩
@[simp] theorem wp_bind {α β : Type} (r : Rs α) (k : α → Mu → Rs β) (Q : β → Mu → Prop) : (r.bind k).wp Q = r.wp fun a μ => (k a μ).wp Q := by
  cases r with
  | ok a μ => rw [bind_ok, wp_ok]
  | ex x μ => rw [wp_ex]; exact wp_ex x μ Q
  | st => rw [wp_st]; exact wp_st Q
@[simp] theorem bind_bind {α β γ : Type} (r : Rs α) (k : α → Mu → Rs β) (l : β → Mu → Rs γ) : (r.bind k).bind l = r.bind fun a μ => (k a μ).bind l := by
  cases r <;> rfl
@[simp] theorem wp_mu {α : Type} (g : Mu → Mu) (r : Rs α) (Q : α → Mu → Prop) : (Rs.mu g r).wp Q = r.wp fun a μ => Q a (g μ) := by
  cases r with
  | ok a μ => rw [mu_ok, wp_ok, wp_ok]
  | ex x μ => rw [wp_ex]; exact wp_ex x (g μ) Q
  | st => rw [wp_st]; exact wp_st Q
@[simp] theorem bitOf_bind {α : Type} (r : Rs α) (k : α → Mu → Rs D) : bitOf (r.bind k) = r.bind fun a μ => bitOf (k a μ) := by
  cases r <;> rfl
def outQ (io : List Nat) (Q : D → List D → Prop) (fl : Fl) (μ : Mu) : Prop := (outR fl (outsOf io μ)).wp Q
@[simp] theorem wp_endR (io : List Nat) (r : Rs Fl) (Q : D → List D → Prop) : (endR io r).wp Q = r.wp (outQ io Q) := by
  cases r with
  | ok a μ => rw [wp_ok]; rfl
  | ex x μ =>
    rw [wp_ex]
    show (match outsOf io μ with | some outs => FR.ex x outs | none => FR.st).wp Q = False
    cases outsOf io μ with
    | none => exact fwp_st Q
    | some o => exact fwp_ex x o Q
  | st => rw [wp_st]; exact fwp_st Q
@[simp] theorem outQ_at (io : List Nat) (Q : D → List D → Prop) (fl : Fl) (μ : Mu) : outQ io Q fl μ = (outR fl (outsOf io μ)).wp Q := rfl
theorem Rs.wp_mono {α : Type} {r : Rs α} {Q Q' : α → Mu → Prop} (h : r.wp Q) (q : ∀ a μ, Q a μ → Q' a μ) : r.wp Q' := by
  cases h with
  | mk h => exact .mk (q _ _ h)
theorem FR.wp_mono {r : FR} {Q Q' : D → List D → Prop} (h : r.wp Q) (q : ∀ a μ, Q a μ → Q' a μ) : r.wp Q' := by
  cases h with
  | mk h => exact .mk (q _ _ h)
theorem Rs.wp_elim {α : Type} {r : Rs α} {Q : α → Mu → Prop} (h : r.wp Q) : ∃ a μ, r = .ok a μ ∧ Q a μ := by
  cases h with
  | mk h => exact ⟨_, _, rfl, h⟩
theorem FR.wp_elim {r : FR} {Q : D → List D → Prop} (h : r.wp Q) : ∃ a μ, r = .ok a μ ∧ Q a μ := by
  cases h with
  | mk h => exact ⟨_, _, rfl, h⟩
/-- by what is so in between -/
theorem Rs.wp_mid {α : Type} {r : Rs α} {K : α → Mu → Prop} (R : α → Mu → Prop) (h1 : ∀ Q' : α → Mu → Prop, (∀ a μ, R a μ → Q' a μ) → r.wp Q') (h2 : ∀ a μ, R a μ → K a μ) : r.wp K := h1 K h2
theorem wp_run {F : Nat → List Sl → FR} {W : Nat} {fn : Fn} {args : List Sl} {Q : D → List D → Prop} (h1 : args.length = fn.ps.length) (h2 : fn.io = ownPos 0 args)
    (h : (execs F W fn.body (args ++ List.replicate (fn.N.length - fn.ps.length) .no)).wp (outQ fn.io Q)) : (runFn F W fn args).wp Q := by
  rw [runFn_at h1 h2, wp_endR]; exact h
/-! calls -/
def pureR (r : FR) (μ : Mu) : Rs D := match r with
  | .ok d [] => .ok d μ
  | .ex x [] => .ex x μ
  | _ => .st
@[simp] theorem pureR_ok (d : D) (μ : Mu) : pureR (.ok d []) μ = .ok d μ := rfl
theorem pureR_cong {r r' : FR} {μ : Mu} (h : r = r') : pureR r μ = pureR r' μ := by rw [h]
theorem callG_pure (G : List Sl → FR) (ds : List D) (μ : Mu) : callG G (ds.map .v) μ = pureR (G (ds.map .val)) μ := by
  have h1 : ioNd (ds.map .v) = [] := by
    induction ds with
    | nil => rfl
    | cons d ds ih => exact ih
  have h2 : argSl μ (ds.map .v) = some (ds.map .val) := by
    clear h1
    induction ds with
    | nil => rfl
    | cons d ds ih => show (argSl μ (ds.map .v)).map _ = _; rw [ih]; rfl
  unfold callG
  rw [if_pos (by rw [h1]; exact List.nodup_nil), h2, h1]
  show (match G (ds.map .val) with | .ok d outs => _ | .ex x outs => _ | _ => _) = pureR (G (ds.map .val)) μ
  cases G (ds.map .val) with
  | ok d o => cases o <;> rfl
  | fr d o => rfl
  | ex x o => cases o <;> rfl
  | st => rfl
@[simp] theorem callG_v1 (G : List Sl → FR) (a : D) (μ : Mu) : callG G [.v a] μ = pureR (G [.val a]) μ := callG_pure G [a] μ
@[simp] theorem callG_v2 (G : List Sl → FR) (a b : D) (μ : Mu) : callG G [.v a, .v b] μ = pureR (G [.val a, .val b]) μ := callG_pure G [a, b] μ
@[simp] theorem callG_v3 (G : List Sl → FR) (a b c : D) (μ : Mu) : callG G [.v a, .v b, .v c] μ = pureR (G [.val a, .val b, .val c]) μ := callG_pure G [a, b, c] μ
@[simp] theorem callG_v4 (G : List Sl → FR) (a b c d : D) (μ : Mu) : callG G [.v a, .v b, .v c, .v d] μ = pureR (G [.val a, .val b, .val c, .val d]) μ := callG_pure G [a, b, c, d] μ
@[simp] theorem callG_v5 (G : List Sl → FR) (a b c d e : D) (μ : Mu) : callG G [.v a, .v b, .v c, .v d, .v e] μ = pureR (G [.val a, .val b, .val c, .val d, .val e]) μ := callG_pure G [a, b, c, d, e] μ
/-- one object lent, the first argument -/
def ioR (i : Nat) (r : FR) (μ : Mu) : Rs D := match r with
  | .ok d [T] => .ok d (μ.set i (.own T))
  | .ex x [T] => .ex x (μ.set i (.own T))
  | _ => .st
@[simp] theorem ioR_ok (i : Nat) (d T : D) (μ : Mu) : ioR i (.ok d [T]) μ = .ok d (μ.set i (.own T)) := rfl
theorem ioR_cong {i : Nat} {r r' : FR} {μ : Mu} (h : r = r') : ioR i r μ = ioR i r' μ := by rw [h]
def ioC (G : List Sl → FR) (i : Nat) (o : Option D) (as : List Sl) (μ : Mu) : Rs D := match o with
  | some T => ioR i (G (.own T :: as)) μ
  | none => .st
@[simp] theorem ioC_some (G : List Sl → FR) (i : Nat) (T : D) (as : List Sl) (μ : Mu) : ioC G i (some T) as μ = ioR i (G (.own T :: as)) μ := rfl
theorem callG_io (G : List Sl → FR) (i : Nat) (ds : List D) (μ : Mu) : callG G (.io i :: ds.map .v) μ = ioC G i (owned μ i) (ds.map .val) μ := by
  have h1 : ioNd (ds.map .v) = [] := by
    induction ds with
    | nil => rfl
    | cons d ds ih => exact ih
  have h1' : ioNd (.io i :: ds.map .v) = [i] := by show i :: ioNd _ = _; rw [h1]
  have h2 : argSl μ (ds.map .v) = some (ds.map .val) := by
    clear h1 h1'
    induction ds with
    | nil => rfl
    | cons d ds ih => show (argSl μ (ds.map .v)).map _ = _; rw [ih]; rfl
  have h3 : argSl μ (.io i :: ds.map .v) = (owned μ i).map fun d => Sl.own d :: ds.map .val := by
    unfold argSl
    cases owned μ i with
    | none => rfl
    | some T => show (argSl μ (ds.map .v)).map _ = _; rw [h2]; rfl
  unfold callG
  rw [if_pos (by rw [h1']; simp), h1', h3]
  cases owned μ i with
  | none => rfl
  | some T =>
    show (match G (Sl.own T :: ds.map .val) with | .ok d outs => _ | .ex x outs => _ | _ => _) = ioR i (G (Sl.own T :: ds.map .val)) μ
    cases G (Sl.own T :: ds.map .val) with
    | ok d o => cases o with
      | nil => rfl
      | cons a o => cases o <;> rfl
    | fr d o => rfl
    | ex x o => cases o with
      | nil => rfl
      | cons a o => cases o <;> rfl
    | st => rfl
@[simp] theorem callG_io0 (G : List Sl → FR) (i : Nat) (μ : Mu) : callG G [.io i] μ = ioC G i (owned μ i) [] μ := callG_io G i [] μ
@[simp] theorem callG_io1 (G : List Sl → FR) (i : Nat) (a : D) (μ : Mu) : callG G [.io i, .v a] μ = ioC G i (owned μ i) [.val a] μ := callG_io G i [a] μ
@[simp] theorem callG_io2 (G : List Sl → FR) (i : Nat) (a b : D) (μ : Mu) : callG G [.io i, .v a, .v b] μ = ioC G i (owned μ i) [.val a, .val b] μ := callG_io G i [a, b] μ
@[simp] theorem callG_io3 (G : List Sl → FR) (i : Nat) (a b c : D) (μ : Mu) : callG G [.io i, .v a, .v b, .v c] μ = ioC G i (owned μ i) [.val a, .val b, .val c] μ := callG_io G i [a, b, c] μ
@[simp] theorem callG_io4 (G : List Sl → FR) (i : Nat) (a b c d : D) (μ : Mu) : callG G [.io i, .v a, .v b, .v c, .v d] μ = ioC G i (owned μ i) [.val a, .val b, .val c, .val d] μ := callG_io G i [a, b, c, d] μ
/-- a call that gives a new object -/
def freshR (r : FR) (μ : Mu) : Rs D := match r with
  | .fr d [] => .ok d μ
  | .ex x [] => .ex x μ
  | _ => .st
@[simp] theorem freshR_fr (d : D) (μ : Mu) : freshR (.fr d []) μ = .ok d μ := rfl
theorem freshR_cong {r r' : FR} {μ : Mu} (h : r = r') : freshR r μ = freshR r' μ := by rw [h]
theorem callH_pure (G : List Sl → FR) (ds : List D) (μ : Mu) : callH G (ds.map .v) μ = freshR (G (ds.map .val)) μ := by
  have h1 : ioNd (ds.map .v) = [] := by
    induction ds with
    | nil => rfl
    | cons d ds ih => exact ih
  have h2 : argSl μ (ds.map .v) = some (ds.map .val) := by
    clear h1
    induction ds with
    | nil => rfl
    | cons d ds ih => show (argSl μ (ds.map .v)).map _ = _; rw [ih]; rfl
  unfold callH
  rw [if_pos (by rw [h1]; exact List.nodup_nil), h2, h1]
  show (match G (ds.map .val) with | .fr d outs => _ | .ex x outs => _ | _ => _) = freshR (G (ds.map .val)) μ
  cases G (ds.map .val) with
  | fr d o => cases o <;> rfl
  | ok d o => rfl
  | ex x o => cases o <;> rfl
  | st => rfl
@[simp] theorem callH_v1 (G : List Sl → FR) (a : D) (μ : Mu) : callH G [.v a] μ = freshR (G [.val a]) μ := callH_pure G [a] μ
@[simp] theorem callH_v2 (G : List Sl → FR) (a b : D) (μ : Mu) : callH G [.v a, .v b] μ = freshR (G [.val a, .val b]) μ := callH_pure G [a, b] μ
@[simp] theorem callH_v3 (G : List Sl → FR) (a b c : D) (μ : Mu) : callH G [.v a, .v b, .v c] μ = freshR (G [.val a, .val b, .val c]) μ := callH_pure G [a, b, c] μ
/-! slots -/
@[simp] theorem look_s (s : Sl) (μ : Mu) (i : Nat) : look (s :: μ) (i + 1) = look μ i := rfl
@[simp] theorem look_v (d : D) (μ : Mu) : look (.val d :: μ) 0 = some d := rfl
@[simp] theorem peek_s (s : Sl) (μ : Mu) (i : Nat) : peek (s :: μ) (i + 1) = peek μ i := rfl
@[simp] theorem peek_v (d : D) (μ : Mu) : peek (.val d :: μ) 0 = some d := rfl
@[simp] theorem peek_o (d : D) (μ : Mu) : peek (.own d :: μ) 0 = some d := rfl
@[simp] theorem peek_l (d : D) (μ : Mu) : peek (.lck d :: μ) 0 = some d := rfl
@[simp] theorem owned_s (s : Sl) (μ : Mu) (i : Nat) : owned (s :: μ) (i + 1) = owned μ i := rfl
@[simp] theorem owned_o (d : D) (μ : Mu) : owned (.own d :: μ) 0 = some d := rfl
@[simp] theorem heldD_s (s : Sl) (μ : Mu) (i : Nat) : heldD (s :: μ) (i + 1) = heldD μ i := rfl
@[simp] theorem heldD_o (d : D) (μ : Mu) : heldD (.own d :: μ) 0 = some d := rfl
@[simp] theorem heldD_l (d : D) (μ : Mu) : heldD (.lck d :: μ) 0 = some d := rfl
@[simp] theorem isLck_s (s : Sl) (μ : Mu) (i : Nat) : isLck (s :: μ) (i + 1) = isLck μ i := rfl
@[simp] theorem isLck_v (d : D) (μ : Mu) : isLck (.val d :: μ) 0 = false := rfl
@[simp] theorem isLck_o (d : D) (μ : Mu) : isLck (.own d :: μ) 0 = false := rfl
@[simp] theorem isLck_n (μ : Mu) : isLck (.no :: μ) 0 = false := rfl
/-- a slot that may be written -/
def FrS (s : Sl) : Prop := s.held = false
@[simp] theorem frS_no : FrS .no := rfl
@[simp] theorem frS_val (d : D) : FrS (.val d) := rfl
theorem isLck_f {s : Sl} (h : FrS s) (μ : Mu) : isLck (s :: μ) 0 = false := by
  cases s with
  | lck _ => cases h
  | _ => rfl
@[simp] theorem ownsL_s (s : Sl) (μ : Mu) (i : Nat) : ownsL (i + 1) (s :: μ) = ownsL i μ := rfl
@[simp] theorem ownsL_o (xs : List D) (μ : Mu) : ownsL 0 (.own (.list xs) :: μ) = true := rfl
@[simp] theorem ownsA_s (s : Sl) (μ : Mu) (i : Nat) : ownsA (i + 1) (s :: μ) = ownsA i μ := rfl
@[simp] theorem ownsA_o (d : D) (μ : Mu) : ownsA 0 (.own d :: μ) = true := rfl
@[simp] theorem setAll_nil (μ : Mu) : setAll [] [] μ = some μ := rfl
def setOne (b : Bool) (r : Option Mu) : Option Mu := if b then none else r
@[simp] theorem setOne_f (r : Option Mu) : setOne false r = r := rfl
theorem setOne_cong {b b' : Bool} {r : Option Mu} (h : b = b') : setOne b r = setOne b' r := by rw [h]
@[simp] theorem setAll_cons (i : Nat) (is : List Nat) (d : D) (ds : List D) (μ : Mu) : setAll (i :: is) (d :: ds) μ = setOne (isLck μ i) (setAll is ds (μ.set i (.val d))) := rfl
def setF (b : Bool) (r : Option Mu) : Option Mu := if b then none else r
@[simp] theorem setF_f (r : Option Mu) : setF false r = r := rfl
@[simp] theorem setT_f (i : Nat) (d : D) (μ : Mu) : setT [i] false d μ = setF (isPair d) (setAll [i] [d] μ) := rfl
@[simp] theorem isPair_int (i : Int) : isPair (.int i) = false := rfl
@[simp] theorem isPair_tuple (xs : List D) : isPair (.tuple xs) = false := rfl
@[simp] theorem isPair_list (xs : List D) : isPair (.list xs) = false := rfl
@[simp] theorem isPair_str (x : Str) : isPair (.str x) = false := rfl
@[simp] theorem isPair_tupI (xs : List Int) : isPair (tupI xs) = false := rfl
@[simp] theorem setT_p (is : List Nat) (x y : D) (μ : Mu) : setT is true (pairD x y) μ = setAll is [x, y] μ := rfl
@[simp] theorem setT_t (is : List Nat) (ds : List D) (μ : Mu) : setT is true (.tuple ds) μ = setAll is ds μ := rfl
@[simp] theorem asgB_at (i : Nat) (d : D) (μ : Mu) : asgB i d μ = Rs.nx (setAll [i] [d] μ) := rfl
def turnS1 (r : Mu → Rs Fl) (o : Option Mu) : Rs Fl := match o with
  | some m1 => r m1
  | none => .st
@[simp] theorem turnS1_some (r : Mu → Rs Fl) (m : Mu) : turnS1 r (some m) = r m := rfl
@[simp] theorem turnS_at (t : List Nat) (tup : Bool) (r : Mu → Rs Fl) (d : D) (m : Mu) : turnS t tup r d m = turnS1 r (setT t tup d m) := rfl
/-- one turn of a comprehension -/
def turnR1 (t : List Nat) (re : Mu → Rs D) (rc : Option (Mu → Rs Bool)) (m : Mu) (o : Option Mu) : Rs (Option D) := Rs.nox (match o with
  | none => .st
  | some m1 => match rc with
    | none => (re m1).bind fun y m2 => .ok (some y) (backL m m2 t)
    | some r => (r m1).bind (ifB (fun m2 => (re m2).bind fun y m3 => .ok (some y) (backL m m3 t)) (fun m2 => .ok none (backL m m2 t))))
@[simp] theorem turnR_at (t : List Nat) (tup : Bool) (re : Mu → Rs D) (rc : Option (Mu → Rs Bool)) (d : D) (m : Mu) : turnR t tup re rc d m = turnR1 t re rc m ((wipeM t m).bind (setT t tup d)) := by
  unfold turnR turnR1
  cases (wipeM t m).bind (setT t tup d) with
  | none => rfl
  | some m1 => cases rc with
    | none => rfl
    | some r =>
      show Rs.nox ((r m1).bind _) = Rs.nox ((r m1).bind _)
      congr 2
@[simp] theorem turnR1_n (t : List Nat) (re : Mu → Rs D) (m m1 : Mu) : turnR1 t re none m (some m1) = Rs.nox ((re m1).bind fun y m2 => .ok (some y) (backL m m2 t)) := rfl
@[simp] theorem turnR1_c (t : List Nat) (re : Mu → Rs D) (r : Mu → Rs Bool) (m m1 : Mu) : turnR1 t re (some r) m (some m1) = Rs.nox ((r m1).bind (ifB (fun m2 => (re m2).bind fun y m3 => .ok (some y) (backL m m3 t)) (fun m2 => .ok none (backL m m2 t)))) := rfl
@[simp] theorem nox_ok {α : Type} (a : α) (μ : Mu) : Rs.nox (.ok a μ) = .ok a μ := rfl
@[simp] theorem wp_nox {α : Type} (r : Rs α) (Q : α → Mu → Prop) : (Rs.nox r).wp Q = r.wp Q := by
  cases r with
  | ok a μ => rfl
  | ex x μ => rw [wp_ex]; exact wp_st Q
  | st => rfl
theorem nox_cong {α : Type} {r r' : Rs α} (h : r = r') : Rs.nox r = Rs.nox r' := by rw [h]
@[simp] theorem rcOf_some {F : Nat → List Sl → FR} (e : E) : rcOf F (.some e) = some (testB F e) := rfl
@[simp] theorem backL_nil (m m1 : Mu) : backL m m1 [] = m1 := rfl
@[simp] theorem backL_cons (m m1 : Mu) (v : Nat) (vs : List Nat) : backL m m1 (v :: vs) = (backL m m1 vs).set v (m.getD v .no) := rfl
def freeS (s : Option Sl) : Bool := match s with
  | some s => !s.held
  | none => false
@[simp] theorem freeS_no : freeS (some .no) = true := rfl
@[simp] theorem freeS_val (d : D) : freeS (some (.val d)) = true := rfl
theorem freeS_f {s : Sl} (h : FrS s) : freeS (some s) = true := by show (!s.held) = true; rw [show s.held = false from h]; rfl
def wipe1 (b : Bool) (m : Mu) : Option Mu := if b then some m else none
@[simp] theorem wipe1_t (m : Mu) : wipe1 true m = some m := rfl
@[simp] theorem wipeM_1 (i : Nat) (μ : Mu) : wipeM [i] μ = wipe1 (freeS μ[i]?) (μ.set i .no) := by
  unfold wipeM freeAll wipe1 wipeL wipeL freeS
  first
    | (simp only [List.all_cons, List.all_nil, Bool.and_true]; done)
    | (simp only [List.all_cons, List.all_nil, Bool.and_true]; rfl)
@[simp] theorem wipeM_2 (i j : Nat) (μ : Mu) : wipeM [i, j] μ = wipe1 (freeS μ[i]? && freeS μ[j]?) ((μ.set j .no).set i .no) := by
  unfold wipeM freeAll wipe1 wipeL wipeL wipeL freeS
  first
    | (simp only [List.all_cons, List.all_nil, Bool.and_true]; done)
    | (simp only [List.all_cons, List.all_nil, Bool.and_true]; rfl)
@[simp] theorem wipeM_3 (i j k : Nat) (μ : Mu) : wipeM [i, j, k] μ = wipe1 (freeS μ[i]? && (freeS μ[j]? && freeS μ[k]?)) (((μ.set k .no).set j .no).set i .no) := by
  unfold wipeM freeAll wipe1 wipeL wipeL wipeL wipeL freeS
  first
    | (simp only [List.all_cons, List.all_nil, Bool.and_true]; done)
    | (simp only [List.all_cons, List.all_nil, Bool.and_true]; rfl)
/-! loops -/
theorem wp_forL {f : D → Mu → Rs Fl} {Q : Fl → Mu → Prop} (I : Nat → Mu → Prop) (ds : List D) (μ : Mu) (h0 : I 0 μ)
    (hs : ∀ i d μ (Q' : Fl → Mu → Prop), ds[i]? = some d → I i μ → (∀ μ', I (i + 1) μ' → Q' .nx μ') → (f d μ).wp Q') (hq : ∀ μ', I ds.length μ' → Q .nx μ') : (forL f ds μ).wp Q := by
  obtain ⟨μ', e, h⟩ := forL_inv I ds 0 μ (fun i d μ hd hi => by
    rw [Nat.zero_add] at *
    obtain ⟨a, μ', e, rfl, h⟩ := Rs.wp_elim (hs i d μ (fun fl μ' => fl = .nx ∧ I (i + 1) μ') hd hi fun μ' h => ⟨rfl, h⟩)
    exact ⟨μ', e, h⟩) h0
  rw [e]
  rw [Nat.zero_add] at h
  exact .mk (hq _ h)
/-- with filter -/
theorem wp_compLj {f : D → Mu → Rs (Option D)} {Q : List D → Mu → Prop} (I : Nat → List D → Mu → Prop) : ∀ (ds : List D) (j : Nat) (acc : List D) (μ : Mu), I j acc μ →
    (∀ i d acc μ (Q' : Option D → Mu → Prop), ds[i]? = some d → I (j + i) acc μ → (∀ o μ', I (j + i + 1) (acc ++ o.toList) μ' → Q' o μ') → (f d μ).wp Q') → (∀ acc μ', I (j + ds.length) acc μ' → Q acc μ') → (compL f ds acc μ).wp Q
  | [], j, acc, μ, h, _, hq => .mk (hq acc μ h)
  | d :: ds, j, acc, μ, h, hs, hq => by
    show ((f d μ).bind _).wp Q
    rw [wp_bind]
    refine hs 0 d acc μ _ rfl h fun o μ1 h1 => ?_
    have next : ∀ acc', I (j + 1) acc' μ1 → (compL f ds acc' μ1).wp Q := fun acc' h1 => wp_compLj I ds (j + 1) acc' μ1 h1 (fun i d' a' μ' Q' hd hi hk => by
      refine hs (i + 1) d' a' μ' Q' (by simpa using hd) (by rw [show j + (i + 1) = j + 1 + i by omega]; exact hi) fun o μ2 h2 => hk o μ2 ?_
      rw [show j + (i + 1) + 1 = j + 1 + i + 1 by omega] at h2
      exact h2) fun acc μ' h => hq acc μ' (by rw [List.length_cons, show j + (ds.length + 1) = j + 1 + ds.length by omega]; exact h)
    cases o with
    | none => exact next acc (by simpa using h1)
    | some x => exact next (acc ++ [x]) (by simpa using h1)
theorem wp_compL {f : D → Mu → Rs (Option D)} {Q : List D → Mu → Prop} (I : Nat → List D → Mu → Prop) (ds : List D) (μ : Mu) (h0 : I 0 [] μ)
    (hs : ∀ i d acc μ (Q' : Option D → Mu → Prop), ds[i]? = some d → I i acc μ → (∀ o μ', I (i + 1) (acc ++ o.toList) μ' → Q' o μ') → (f d μ).wp Q') (hq : ∀ acc μ', I ds.length acc μ' → Q acc μ') : (compL f ds [] μ).wp Q :=
  wp_compLj I ds 0 [] μ h0 (fun i d acc μ Q' hd hi hk => by rw [Nat.zero_add] at hi hk; exact hs i d acc μ Q' hd hi hk) fun acc μ' h => by rw [Nat.zero_add] at h; exact hq acc μ' h
theorem wp_whlL {c : Mu → Rs Bool} {f : Mu → Rs Fl} {Q : Fl → Mu → Prop} (I : Mu → Prop) (m : Mu → Nat)
    (hs : ∀ μ (Q' : Bool → Mu → Prop), I μ → (∀ μ1, Q .nx μ1 → Q' false μ1) → (∀ μ1, (∀ Q2 : Fl → Mu → Prop, (∀ μ2, I μ2 → m μ2 < m μ → Q2 .nx μ2) → (f μ1).wp Q2) → Q' true μ1) → (c μ).wp Q') : ∀ (n : Nat) (μ : Mu), I μ → m μ < n → (whlL c f n μ).wp Q
  | 0, _, _, h => absurd h (Nat.not_lt_zero _)
  | n + 1, μ, h, hn => by
    show ((c μ).bind _).wp Q
    rw [wp_bind]
    refine hs μ _ h (fun μ1 h1 => .mk h1) fun μ1 h1 => ?_
    show ((f μ1).bind _).wp Q
    rw [wp_bind]
    exact h1 _ fun μ2 h2 h3 => wp_whlL I m hs n μ2 h2 (by omega)
/-! a draw -/
theorem draw_wp {F : Nat → List Sl → FR} {W : Nat} (hW : 64 < W) {n : Nat} {T : D} {many : Int} (h : TapeB n T) (hn : n ≤ 1000000000000) (hm : 0 < many) (hm2 : many < 2 ^ 64) :
    ∃ r T', runFn F W fDraw [.own T, .val (.int many)] = .ok (.int r) [T'] ∧ 0 ≤ r ∧ r < many ∧ TapeB (n + 1) T' := draw_ok F W hW h hn hm hm2
/-- an item of a list by a draw -/
theorem atI_pick {P : D → Prop} {l : List D} {r : Int} (h0 : 0 ≤ r) (h1 : r < l.length) (hP : ∀ d ∈ l, P d) : ∃ d, L2.atI l r = some d ∧ P d := by
  have hl : r.toNat < l.length := by omega
  refine ⟨l[r.toNat], atI_nat h0 (List.getElem?_eq_getElem hl), hP _ (List.getElem_mem hl)⟩
@[simp] theorem rangeD_len' (lo : Int) (n : Nat) : (rangeD lo n).length = n := rangeD_len lo n
theorem rangeD_get {lo : Int} {n i : Nat} {d : D} (h : (rangeD lo n)[i]? = some d) : i < n ∧ d = .int (lo + i) := by
  unfold rangeD at h
  rw [List.getElem?_map] at h
  by_cases hi : i < n
  · rw [List.getElem?_range hi] at h
    exact ⟨hi, (Option.some.inj h).symm⟩
  · rw [List.getElem?_eq_none (by simp; omega)] at h
    cases h
@[simp] theorem heldP_e (e : E) (x : D) (μ : Mu) : heldP (.e e) x μ = some x := rfl
@[simp] theorem heldP_pk (i : Nat) (x : D) (μ : Mu) : heldP (.pk i) x μ = heldD μ i := rfl
theorem catE_list {a b : P} {x y : D} {μ : Mu} {xs ys : List D} (hx : heldP a x μ = some (.list xs)) (hy : heldP b y μ = some (.list ys)) (h : xs.length + ys.length ≤ 1000000) : catE a b x y μ = .ok (.list (xs ++ ys)) μ := by
  unfold catE
  rw [hx, hy]
  exact if_pos (decide_eq_true (by omega))
theorem repl_flat {α : Type} (a : α) (n : Nat) : (List.replicate n [a]).flatten = List.replicate n a := by
  induction n with
  | zero => rfl
  | succ n ih => rw [List.replicate_succ, List.flatten_cons, ih]; rfl
theorem mulD_nought {n : Int} (h0 : 0 ≤ n) (h1 : n ≤ 1000) (i : Int) : mulD (.tuple [.int i]) (.int n) = some (tupI (List.replicate n.toNat i)) := by
  refine (if_pos ?_).trans ?_
  · simp [h0, h1]
  · rw [repl_flat, tupI, List.map_replicate]
@[simp] theorem catE_ee (e1 e2 : E) (xs ys : List D) (μ : Mu) : catE (.e e1) (.e e2) (.list xs) (.list ys) μ = if sizeOkN (xs.length + ys.length) then .ok (.list (xs ++ ys)) μ else .st := rfl
@[simp] theorem sizeOkN_at (n : Nat) : sizeOkN n = decide (n ≤ 16777216) := rfl
end Mn
set_option Elab.async false
set_option linter.all false
set_option maxRecDepth 100000
set_option autoImplicit false
set_option maxHeartbeats 1000000
namespace Mn
open PySem PySem.Spec Lb
/-- what a draw gives -/
def DrawS (G : List Sl → FR) : Prop := ∀ (n : Nat) (T : D) (many : Int), TapeB n T → n ≤ 1000000000000 → 0 < many → many < 2 ^ 64 → ∃ r T', G [.own T, .val (.int many)] = .ok (.int r) [T'] ∧ 0 ≤ r ∧ r < many ∧ TapeB (n + 1) T'
theorem drawS (F : Nat → List Sl → FR) (W : Nat) (hW : 64 < W) : DrawS (runFn F W f_l_draw) := fun n T many h hn h1 h2 => draw_ok F W hW h hn h1 h2
def OrderS (G : List Sl → FR) : Prop := ∀ (m : Nat) (T : D) (n : Nat), TapeB m T → m ≤ 100000000000 → 1 ≤ n → n ≤ 4 → ∃ kind ls T', G [.own T, .val (.int n)] = .ok (ordD kind ls) [T'] ∧ (kind = "plain" ∨ kind = "total") ∧ OrdOk n ls ∧ ls.length = n ∧ TapeB (m + 8) T'
theorem eraseIdx_ints : ∀ (left : List Int) (k : Nat), (left.map PyData.int).eraseIdx k = (left.eraseIdx k).map PyData.int
  | [], _ => by simp
  | _ :: _, 0 => rfl
  | x :: xs, k + 1 => by simp [eraseIdx_ints xs k]
theorem orderS (F : Nat → List Sl → FR) (W c : Nat) (hd : DrawS (F c)) : OrderS (runFn F W (f_l_order c)) := by
  intro m T n h hm h0 h1
  suffices hw : ∀ Q : D → List D → Prop, (∀ (kind : Str) ls T', (kind = "plain" ∨ kind = "total") ∧ OrdOk n ls ∧ ls.length = n ∧ TapeB (m + 8) T' → Q (ordD kind ls) [T']) → (runFn F W (f_l_order c) [.own T, .val (.int n)]).wp Q by
    obtain ⟨d, o, e, kind, ls, T', rfl, rfl, r⟩ := FR.wp_elim (hw (fun d o => ∃ (kind : Str) (ls : List Int) (T' : D), d = ordD kind ls ∧ o = [T'] ∧ (kind = "plain" ∨ kind = "total") ∧ OrdOk n ls ∧ ls.length = n ∧ TapeB (m + 8) T') fun kind ls T' r => ⟨kind, ls, T', rfl, rfl, r⟩)
    exact ⟨kind, ls, T', e, r⟩
  intro Q hQ
  have n0 : (0 : Int) ≤ n := by omega
  have n1 : (n : Int) ≤ 1000 := by omega
  refine wp_run rfl rfl ?_
  simp -implicitDefEqProofs [f_l_order, rng1_ok n0 n1]
  refine wp_forL (fun i μ => ∃ (T' : D) (left found : List Int) (s : Sl), μ = [.own T', .val (.int n), .own (.list (left.map PyData.int)), .own (.list (found.map PyData.int)), s] ∧ FrS s ∧ TapeB (m + i) T' ∧ left.length + i = n ∧ found.length = i ∧ (∀ l ∈ left ++ found, 0 ≤ l ∧ l < (n : Int)) ∧ ∀ j : Nat, j < n → (j : Int) ∈ left ++ found) _ _ ?_ ?_ ?_
  · refine ⟨T, (List.range n).map fun (j : Nat) => (0 : Int) + (j : Int), [], .no, by rw [List.map_map]; rfl, rfl, by simpa using h, by simp, rfl, fun l hl => ?_, fun j hj => by simp; exact ⟨j, hj, rfl⟩⟩
    simp at hl
    obtain ⟨a, ha, rfl⟩ := hl
    omega
  · rintro i d μ Q' hd' ⟨T1, left, found, s, rfl, hs, t1, hl, hf, lo, all⟩ hk
    obtain ⟨hi, rfl⟩ := rangeD_get hd'
    have hlp : 0 < left.length := by omega
    obtain ⟨r, T2, e2, a1, a2, t2⟩ := hd _ T1 left.length t1 (by omega) (by omega) (by omega)
    have hr : r.toNat < left.length := by omega
    obtain ⟨v, hv⟩ : ∃ v, left[r.toNat]? = some v := ⟨_, List.getElem?_eq_getElem hr⟩
    have ixn : L2.ixN left.length r = some r.toNat := by unfold L2.ixN; rw [if_pos a1, if_pos a2]
    have lenE : (left.eraseIdx r.toNat).length = left.length - 1 := List.length_eraseIdx_of_lt hr
    have hvm : v ∈ left := List.mem_of_getElem? hv
    have hsz : found.length ≤ 16777215 := by omega
    simp -implicitDefEqProofs [isLck_f hs, e2, popE, ixn, hv, appE, sizeOkN, hsz, eraseIdx_ints]
    refine hk _ ⟨T2, left.eraseIdx r.toNat, found ++ [v], .val (.int i), by simp, rfl, t2, ?_, ?_, ?_, ?_⟩
    · rw [lenE]; omega
    · rw [List.length_append, hf]; simp
    · intro l hl
      rcases List.mem_append.mp hl with q | q
      · exact lo l (List.mem_append_left _ (List.mem_of_mem_eraseIdx q))
      · rcases List.mem_append.mp q with q | q
        · exact lo l (List.mem_append_right _ q)
        · rw [List.mem_singleton] at q; subst q; exact lo _ (List.mem_append_left _ hvm)
    · intro j hj
      rcases List.mem_append.mp (all j hj) with q | q
      · by_cases z : (j : Int) = v
        · rw [z]; exact List.mem_append_right _ (List.mem_append_right _ (List.mem_singleton.mpr rfl))
        · refine List.mem_append_left _ ?_
          obtain ⟨p, hp⟩ := List.mem_iff_getElem?.mp q
          have hpr : p ≠ r.toNat := fun e => by rw [e, hv] at hp; exact z (Option.some.inj hp).symm
          exact List.mem_eraseIdx_iff_getElem?.mpr ⟨p, hpr, hp⟩
      · exact List.mem_append_right _ (List.mem_append_left _ q)
  · rintro μ' ⟨T', left, found, s, rfl, hs, t, hl, hf, lo, all⟩
    rw [rangeD_len] at hl hf t
    have l0 : left = [] := List.length_eq_zero_iff.mp (by omega)
    subst l0
    obtain ⟨r, T2, e2, a1, a2, t2⟩ := hd _ T' 2 t (by omega) (by decide) (by decide)
    obtain ⟨d, hk, kind, rfl, hkind⟩ := atI_pick (P := fun d => ∃ kind : Str, d = .str kind ∧ (kind = "plain" ∨ kind = "total")) (l := [PyData.str "plain", .str "total"]) a1 a2 (by simp)
    simp -implicitDefEqProofs [e2, hk, outsOf]
    exact hQ kind found T2 ⟨hkind, ⟨fun l hl => lo l (by simpa using hl), fun i hi => by simpa using all i hi⟩, hf, t2.mono (by omega)⟩
end Mn
set_option Elab.async false
set_option linter.all false
set_option maxRecDepth 100000
set_option autoImplicit false
set_option maxHeartbeats 1000000
namespace Mn
open PySem PySem.Spec Lb
@[simp] theorem eqD_tupI' (xs ys : List Int) : eqD (tupI xs) (tupI ys) = some (decide (xs = ys)) := eqD_tupI xs ys
@[simp] theorem gtD_tupI' (xs ys : List Int) : gtD (tupI xs) (tupI ys) = some (decide (ys < xs)) := gtD_tupI xs ys
def TapeS (G : List Sl → FR) : Prop := ∀ ns : List Int, ns.length ≤ 63 → G [.val (.list (ns.map .int))] = .fr (tapeD ns 0 0 0) []
theorem tapeS (F : Nat → List Sl → FR) (W : Nat) : TapeS (runFn F W f_l_tape) := by
  intro ns hn
  rw [runFn_at rfl rfl]
  have e : slD (.list (ns.map .int)) none (some 63) = some (.list (ns.map PyData.int)) := by
    have : cutD (ns.map PyData.int) none (some 63) = ns.map PyData.int := by
      unfold cutD
      rw [HT.sIx_none, List.drop_zero, show ((63 : Int)) = ((63 : Nat) : Int) from rfl, HT.sIx_nat]
      apply List.take_of_length_le
      rw [List.length_map]; omega
    show some (PyData.list (cutD _ _ _)) = _
    rw [this]
  simp -implicitDefEqProofs [f_l_tape, e, outsOf, tapeD]
theorem tapeB0 {ns : List Int} (h : ns.length ≤ 63) : TapeB 0 (tapeD ns 0 0 0) := ⟨ns, 0, 0, 0, rfl, h, by omega, by omega, by omega, by omega⟩
def Pure2 (G : List Sl → FR) (g : List Int → List Int → D) : Prop := ∀ xs ys, G [.val (tupI xs), .val (tupI ys)] = .ok (g xs ys) []
theorem joinedS (F : Nat → List Sl → FR) (W : Nat) : Pure2 (runFn F W f_joined_powers) fun xs ys => tupI (joinP xs ys) := joined_ok F W
theorem overPS (F : Nat → List Sl → FR) (W : Nat) : Pure2 (runFn F W f_over_powers) fun xs ys => tupI (overP xs ys) := over_ok F W
theorem jointS (F : Nat → List Sl → FR) (W : Nat) : Pure2 (runFn F W f_joint) fun xs ys => tupI (jointP xs ys) := joint_ok F W
theorem dividesS (F : Nat → List Sl → FR) (W : Nat) : Pure2 (runFn F W f_divides) fun xs ys => .bool (divP xs ys) := divides_ok F W
def AheadS (G : List Sl → FR) : Prop := ∀ (kind : Str) (ls xs ys : List Int), (∀ l ∈ ls, 0 ≤ l ∧ l < xs.length) → (∀ l ∈ ls, 0 ≤ l ∧ l < ys.length) → G [.val (ordD kind ls), .val (tupI xs), .val (tupI ys)] = .ok (.bool (aheadB kind ls xs ys)) []
theorem aheadS (F : Nat → List Sl → FR) (W : Nat) : AheadS (runFn F W f_is_ahead) := ahead_ok F W
/-- powers by draws -/
def PowersS (most : Int) (G : List Sl → FR) : Prop := ∀ (m : Nat) (T : D) (n : Nat), TapeB m T → m ≤ 100000000000 → n ≤ 4 → ∃ ps T', G [.own T, .val (.int n)] = .ok (tupI ps) [T'] ∧ ps.length = n ∧ (∀ p ∈ ps, 0 ≤ p ∧ p ≤ most) ∧ TapeB (m + 8) T'
theorem powersS2 (F : Nat → List Sl → FR) (W c : Nat) (hd : DrawS (F c)) : PowersS 3 (runFn F W (f_l_powers_2 c)) := by
  intro m T n h hm h1
  suffices hw : ∀ Q : D → List D → Prop, (∀ ps T', ps.length = n ∧ (∀ p ∈ ps, 0 ≤ p ∧ p ≤ 3) ∧ TapeB (m + 8) T' → Q (tupI ps) [T']) → (runFn F W (f_l_powers_2 c) [.own T, .val (.int n)]).wp Q by
    obtain ⟨d, o, e, ps, T', rfl, rfl, r⟩ := FR.wp_elim (hw (fun d o => ∃ ps T', d = tupI ps ∧ o = [T'] ∧ ps.length = n ∧ (∀ p ∈ ps, 0 ≤ p ∧ p ≤ 3) ∧ TapeB (m + 8) T') fun ps T' r => ⟨ps, T', rfl, rfl, r⟩)
    exact ⟨ps, T', e, r⟩
  intro Q hQ
  have n0 : (0 : Int) ≤ n := by omega
  have n1 : (n : Int) ≤ 1000 := by omega
  refine wp_run rfl rfl ?_
  simp -implicitDefEqProofs [f_l_powers_2, rng1_ok n0 n1]
  refine wp_compL (fun i acc μ => ∃ (T' : D) (ps : List Int), μ = [.own T', .val (.int n), .no] ∧ TapeB (m + 2 * i) T' ∧ acc = ps.map PyData.int ∧ ps.length = i ∧ ∀ p ∈ ps, 0 ≤ p ∧ p ≤ 3) _ _ ?_ ?_ ?_
  · exact ⟨T, [], rfl, h, rfl, rfl, by simp⟩
  · rintro i d acc μ Q' hd' ⟨T1, ps, rfl, t1, rfl, hl, hp⟩ hk
    obtain ⟨hi, rfl⟩ := rangeD_get hd'
    obtain ⟨r1, T2, e2, a1, a2, t2⟩ := hd _ T1 4 t1 (by omega) (by decide) (by decide)
    obtain ⟨r2, T3, e3, b1, b2, t3⟩ := hd _ T2 4 t2 (by omega) (by decide) (by decide)
    obtain ⟨d, hv, v, rfl, v0⟩ := atI_pick (P := fun d => ∃ v : Int, d = .int v ∧ 0 ≤ v ∧ v ≤ 3) (l := [PyData.int 0, .int 1, .int 2, .int r1]) b1 b2 (by simp; omega)
    simp -implicitDefEqProofs [e2, e3, hv]
    refine hk _ _ ⟨T3, ps ++ [v], rfl, ?_, by simp, by simp [hl], ?_⟩
    · rw [show m + 2 * (i + 1) = m + 2 * i + 1 + 1 by omega]; exact t3
    · intro p hq
      rcases List.mem_append.mp hq with hq | hq
      · exact hp p hq
      · rw [List.mem_singleton] at hq; subst hq; exact v0
  · rintro acc μ' ⟨T', ps, rfl, t, rfl, hl, hp⟩
    simp -implicitDefEqProofs [outsOf]
    rw [rangeD_len] at *
    exact hQ ps T' ⟨by omega, hp, t.mono (by omega)⟩
end Mn
set_option Elab.async false
set_option linter.all false
set_option maxRecDepth 100000
set_option autoImplicit false
set_option maxHeartbeats 1000000
namespace Mn
open PySem PySem.Spec
/-! ## what repr shows -/
/-- at most L signs, at most k deep -/
structure Shw (L k : Nat) (d : D) : Prop where
  pl : d.plain = true
  sh : d.showable = true
  dp : d.depth ≤ k
  ln : d.shown.length ≤ L
theorem Shw.mono {L k L' k' : Nat} {d : D} (h : Shw L k d) (h1 : L ≤ L') (h2 : k ≤ k') : Shw L' k' d := ⟨h.pl, h.sh, Nat.le_trans h.dp h2, Nat.le_trans h.ln h1⟩
theorem reprD_ok {L k : Nat} {d : D} (h : Shw L k d) (h1 : L ≤ 16777216) (h2 : k ≤ 60) : reprD d = some (.str d.shown) := by
  unfold reprD
  refine if_pos ?_
  have := h.ln
  have := h.dp
  rw [h.pl, h.sh, decide_eq_true (show d.shown.length ≤ 16777216 by omega), decide_eq_true (show d.depth ≤ 60 by omega)]
  rfl
theorem shown_int {i : Int} {b : Nat} (hb : 0 < b) (h : i.natAbs < 2 ^ b) : (PyData.shown (.int i)).length ≤ b + 1 := by
  have e : PyData.shown (.int i) = Str.ofString (toString i) := by unfold PyData.shown; rfl
  have h10 : i.natAbs < 10 ^ b := Nat.lt_of_lt_of_le h (Nat.pow_le_pow_left (by decide) b)
  rw [e]
  by_cases h0 : 0 ≤ i
  · have := PyProof.Rows.toString_length_le h0 hb (show i < 10 ^ b by
      have : ((i.natAbs : Nat) : Int) < ((10 ^ b : Nat) : Int) := by exact_mod_cast h10
      rw [show ((i.natAbs : Nat) : Int) = i by omega] at this
      simpa using this)
    omega
  · rw [PyProof.Rows.len_text_neg (by omega)]
    have := PyProof.Rows.toString_length_le (v := 0 - i) (by omega) hb (show 0 - i < 10 ^ b by
      have : ((i.natAbs : Nat) : Int) < ((10 ^ b : Nat) : Int) := by exact_mod_cast h10
      rw [show ((i.natAbs : Nat) : Int) = 0 - i by omega] at this
      simpa using this)
    omega
theorem shw_int {i : Int} {b : Nat} (hb : 0 < b) (h9 : b ≤ 1900) (h : i.natAbs < 2 ^ b) : Shw (b + 1) 0 (.int i) := by
  refine ⟨rfl, ?_, Nat.le_refl _, shown_int hb h⟩
  unfold PyData.showable
  refine decide_eq_true ?_
  by_cases z : i.natAbs = 0
  · rw [z]; decide
  · have := (Nat.log2_lt z).mpr h
    omega
theorem shw_bool (b : Bool) : Shw 5 0 (.bool b) := by cases b <;> exact ⟨rfl, rfl, Nat.le_refl _, by decide⟩
theorem shw_none : Shw 4 0 .none := ⟨rfl, rfl, Nat.le_refl _, by decide⟩
theorem plainAll_of {xs : List D} (h : ∀ d ∈ xs, d.plain = true) : PyData.plainAll xs = true := by
  induction xs with
  | nil => rfl
  | cons x xs ih =>
    show (PyData.plain x && PyData.plainAll xs) = true
    rw [h x List.mem_cons_self, ih fun d hd => h d (List.mem_cons_of_mem _ hd)]; rfl
theorem showableAll_of {xs : List D} (h : ∀ d ∈ xs, d.showable = true) : PyData.showableAll xs = true := by
  induction xs with
  | nil => rfl
  | cons x xs ih =>
    show (PyData.showable x && PyData.showableAll xs) = true
    rw [h x List.mem_cons_self, ih fun d hd => h d (List.mem_cons_of_mem _ hd)]; rfl
theorem depthAll_of {xs : List D} {k : Nat} (h : ∀ d ∈ xs, d.depth ≤ k) : PyData.depthAll xs ≤ k := by
  induction xs with
  | nil => exact Nat.zero_le _
  | cons x xs ih =>
    show max (PyData.depth x) (PyData.depthAll xs) ≤ k
    exact Nat.max_le.mpr ⟨h x List.mem_cons_self, ih fun d hd => h d (List.mem_cons_of_mem _ hd)⟩
theorem sum_of {xs : List D} {L : Nat} (h : ∀ d ∈ xs, d.shown.length ≤ L) : ((PyData.shownAll xs).map (·.length)).sum ≤ xs.length * L ∧ (PyData.shownAll xs).length = xs.length := by
  induction xs with
  | nil => exact ⟨by simp [PyData.shownAll], rfl⟩
  | cons x xs ih =>
    obtain ⟨h1, h2⟩ := ih fun d hd => h d (List.mem_cons_of_mem _ hd)
    have h0 := h x List.mem_cons_self
    simp only [PyData.shownAll, List.map_cons, List.sum_cons, List.length_cons, Nat.add_mul, h2]
    exact ⟨by omega, trivial⟩
theorem shw_tuple {xs : List D} {L k n : Nat} (hn : xs.length ≤ n) (h : ∀ d ∈ xs, Shw L k d) : Shw (n * (L + 2) + 3) (k + 1) (.tuple xs) := by
  refine ⟨?_, ?_, ?_, ?_⟩
  · unfold PyData.plain; exact plainAll_of fun d hd => (h d hd).pl
  · unfold PyData.showable; exact showableAll_of fun d hd => (h d hd).sh
  · unfold PyData.depth; exact Nat.succ_le_succ (depthAll_of fun d hd => (h d hd).dp)
  · obtain ⟨h1, h2⟩ := sum_of fun d hd => (h d hd).ln
    have h3 := tupleText_len_le (PyData.shownAll xs)
    have h4 : xs.length * (L + 2) ≤ n * (L + 2) := Nat.mul_le_mul_right _ hn
    rw [Nat.mul_add] at h4
    unfold PyData.shown
    omega
theorem shw_list {xs : List D} {L k n : Nat} (hn : xs.length ≤ n) (h : ∀ d ∈ xs, Shw L k d) : Shw (n * (L + 2) + 3) (k + 1) (.list xs) := by
  refine ⟨?_, ?_, ?_, ?_⟩
  · unfold PyData.plain; exact plainAll_of fun d hd => (h d hd).pl
  · unfold PyData.showable; exact showableAll_of fun d hd => (h d hd).sh
  · unfold PyData.depth; exact Nat.succ_le_succ (depthAll_of fun d hd => (h d hd).dp)
  · obtain ⟨h1, h2⟩ := sum_of fun d hd => (h d hd).ln
    have h3 := listText_len_le (PyData.shownAll xs)
    have h4 : xs.length * (L + 2) ≤ n * (L + 2) := Nat.mul_le_mul_right _ hn
    rw [Nat.mul_add] at h4
    unfold PyData.shown
    omega
theorem shw_tupI {xs : List Int} {n b : Nat} (hn : xs.length ≤ n) (hb : 0 < b) (h9 : b ≤ 1900) (h : ∀ x ∈ xs, x.natAbs < 2 ^ b) : Shw (n * (b + 3) + 3) 1 (tupI xs) := by
  refine shw_tuple (by rw [List.length_map]; exact hn) fun d hd => ?_
  obtain ⟨x, hx, rfl⟩ := List.mem_map.mp hd
  exact shw_int hb h9 (h x hx)
@[simp] theorem eqD_str_self (x : Str) : eqD (.str x) (.str x) = some true := by rw [eqD_str]; simp
end Mn
set_option Elab.async false
set_option linter.all false
set_option maxRecDepth 100000
set_option autoImplicit false
set_option maxHeartbeats 1000000
namespace Mn
open PySem PySem.Spec Lb
theorem powersS1 (F : Nat → List Sl → FR) (W c : Nat) (hd : DrawS (F c)) : PowersS 499 (runFn F W (f_l_powers c)) := by
  intro m T n h hm h1
  suffices hw : ∀ Q : D → List D → Prop, (∀ ps T', ps.length = n ∧ (∀ p ∈ ps, 0 ≤ p ∧ p ≤ 499) ∧ TapeB (m + 8) T' → Q (tupI ps) [T']) → (runFn F W (f_l_powers c) [.own T, .val (.int n)]).wp Q by
    obtain ⟨d, o, e, ps, T', rfl, rfl, r⟩ := FR.wp_elim (hw (fun d o => ∃ ps T', d = tupI ps ∧ o = [T'] ∧ ps.length = n ∧ (∀ p ∈ ps, 0 ≤ p ∧ p ≤ 499) ∧ TapeB (m + 8) T') fun ps T' r => ⟨ps, T', rfl, rfl, r⟩)
    exact ⟨ps, T', e, r⟩
  intro Q hQ
  have n0 : (0 : Int) ≤ n := by omega
  have n1 : (n : Int) ≤ 1000 := by omega
  refine wp_run rfl rfl ?_
  simp -implicitDefEqProofs [f_l_powers, rng1_ok n0 n1]
  refine wp_compL (fun i acc μ => ∃ (T' : D) (ps : List Int), μ = [.own T', .val (.int n), .no] ∧ TapeB (m + 2 * i) T' ∧ acc = ps.map PyData.int ∧ ps.length = i ∧ ∀ p ∈ ps, 0 ≤ p ∧ p ≤ 499) _ _ ?_ ?_ ?_
  · exact ⟨T, [], rfl, h, rfl, rfl, by simp⟩
  · rintro i d acc μ Q' hd' ⟨T1, ps, rfl, t1, rfl, hl, hp⟩ hk
    obtain ⟨hi, rfl⟩ := rangeD_get hd'
    obtain ⟨r1, T2, e2, a1, a2, t2⟩ := hd _ T1 500 t1 (by omega) (by decide) (by decide)
    obtain ⟨r2, T3, e3, b1, b2, t3⟩ := hd _ T2 7 t2 (by omega) (by decide) (by decide)
    obtain ⟨d, hv, v, rfl, v0⟩ := atI_pick (P := fun d => ∃ v : Int, d = .int v ∧ 0 ≤ v ∧ v ≤ 499) (l := [PyData.int 0, .int 0, .int 1, .int 2, .int 3, .int 499, .int r1]) b1 b2 (by simp; omega)
    simp -implicitDefEqProofs [e2, e3, hv]
    refine hk _ _ ⟨T3, ps ++ [v], rfl, ?_, by simp, by simp [hl], ?_⟩
    · rw [show m + 2 * (i + 1) = m + 2 * i + 1 + 1 by omega]; exact t3
    · intro p hq
      rcases List.mem_append.mp hq with hq | hq
      · exact hp p hq
      · rw [List.mem_singleton] at hq; subst hq; exact v0
  · rintro acc μ' ⟨T', ps, rfl, t, rfl, hl, hp⟩
    simp -implicitDefEqProofs [outsOf]
    rw [rangeD_len] at *
    exact hQ ps T' ⟨by omega, hp, t.mono (by omega)⟩
theorem compL_filter {β : Type} {f : D → Mu → Rs (Option D)} {μ : Mu} (h g : β → D) (p : β → Bool) (l : List β) (acc : List D) (hf : ∀ b ∈ l, f (h b) μ = .ok (if p b then some (g b) else none) μ) : compL f (l.map h) acc μ = .ok (acc ++ (l.filter p).map g) μ := by
  induction l generalizing acc with
  | nil => simp [compL]
  | cons b l ih =>
    rw [List.map_cons]
    show (f (h b) μ).bind _ = _
    rw [hf b List.mem_cons_self]
    have ih := fun acc => ih acc fun c hc => hf c (List.mem_cons_of_mem _ hc)
    cases q : p b with
    | true =>
      show compL f (l.map h) (acc ++ [g b]) μ = _
      rw [ih, List.filter_cons_of_pos q, List.append_assoc]; rfl
    | false =>
      show compL f (l.map h) acc μ = _
      rw [ih, List.filter_cons_of_neg (by rw [q]; exact Bool.false_ne_true)]
theorem getD_ints {xs : List Int} {j : Nat} (h : j < xs.length) : (xs.map PyData.int)[j]? = some (.int (xs.getD j 0)) := by
  rw [List.getElem?_map, List.getElem?_eq_getElem h]
  simp [List.getD, h]
theorem atI_ints {xs : List Int} {j : Nat} (h : j < xs.length) : L2.atI (xs.map PyData.int) (j : Int) = some (.int (xs.getD j 0)) := atI_nat (by omega) (by rw [Int.toNat_natCast]; exact getD_ints h)
/-- place by place, by places -/
theorem places (g : Int → Int → Int) (xs ys : List Int) (h : xs.length = ys.length) : ((List.range xs.length).map fun j => g (xs.getD j 0) (ys.getD j 0)) = (xs.zip ys).map fun p => g p.1 p.2 := by
  apply List.ext_getElem?
  intro j
  rw [List.getElem?_map, List.getElem?_map]
  by_cases hj : j < xs.length
  · have hj' : j < ys.length := by omega
    rw [List.getElem?_range hj, List.getElem?_eq_getElem (by rw [List.length_zip]; omega)]
    simp [List.getD, hj, hj']
  · rw [List.getElem?_eq_none (by simpa using hj), List.getElem?_eq_none (by rw [List.length_zip]; omega)]
    rfl
theorem rangeD_map (n : Nat) : rangeD 0 n = (List.range n).map fun (j : Nat) => PyData.int (j : Int) := by
  unfold rangeD
  apply List.map_congr_left
  intro j _
  simp
theorem lessByS (F : Nat → List Sl → FR) (W : Nat) (xs ys : List Int) (h : xs.length = ys.length) (h1 : xs.length ≤ 1000) : runFn F W f_l_less_by [.val (tupI xs), .val (tupI ys)] = .ok (tupI (overP xs ys)) [] := by
  rw [runFn_at rfl rfl]
  have e : compL (turnR [2] false (ev F (.bin .sub (.ix (.e (.var 0)) (.var 2)) (.ix (.e (.var 1)) (.var 2)))) none) ((List.range xs.length).map fun (j : Nat) => PyData.int (j : Int)) [] [.val (.tuple (xs.map .int)), .val (.tuple (ys.map .int)), .no] = .ok ([] ++ (List.range xs.length).map fun j => PyData.int (xs.getD j 0 - ys.getD j 0)) [.val (.tuple (xs.map .int)), .val (.tuple (ys.map .int)), .no] := by
    refine compL_on _ _ _ _ fun j hj => ?_
    have hj := List.mem_range.mp hj
    simp -implicitDefEqProofs [atI_ints hj, atI_ints (show j < ys.length by omega)]
  rw [map_ints _ fun j => xs.getD j 0 - ys.getD j 0, places (· - ·) xs ys h] at e
  have r0 : rng1D (.int (xs.length : Int)) [.val (.tuple (xs.map .int)), .val (.tuple (ys.map .int)), .no] = .ok ((List.range xs.length).map fun (j : Nat) => PyData.int (j : Int)) [.val (.tuple (xs.map .int)), .val (.tuple (ys.map .int)), .no] := by
    rw [rng1_ok (by omega) (by omega), Int.toNat_natCast, rangeD_map]
  simp only [List.nil_append] at e
  simp -implicitDefEqProofs [f_l_less_by, tupI, r0, e, outsOf, overP]
def KeyS (G : List Sl → FR) : Prop := ∀ (kind : Str) (ls xs : List Int), (∀ l ∈ ls, 0 ≤ l ∧ l < xs.length) → ls.length ≤ 1000 → G [.val (ordD kind ls), .val (tupI xs)] = .ok (.list ((keyL kind (pickP ls xs)).map .int)) []
theorem keyS (F : Nat → List Sl → FR) (W : Nat) : KeyS (runFn F W f_l_key) := by
  intro kind ls xs hx hlen
  rw [runFn_at rfl rfl]
  have e1 : compL (turnR [3] false (ev F (.ix (.e (.var 1)) (.var 3))) none) (ls.map .int) [] [.val (ordD kind ls), .val (tupI xs), .no, .no] = .ok ([] ++ ls.map fun l => PyData.int (xs.getD l.toNat 0)) [.val (ordD kind ls), .val (tupI xs), .no, .no] := by
    refine compL_on _ _ _ _ fun l hl => ?_
    obtain ⟨h1, h2⟩ := hx l hl
    have hat : L2.atI (xs.map PyData.int) l = some (.int (xs.getD l.toNat 0)) := atI_nat h1 (getD_ints (by omega))
    simp -implicitDefEqProofs [tupI, hat]
  rw [map_ints ls fun l => xs.getD l.toNat 0] at e1
  have e1 : compL (turnR [3] false (ev F (.ix (.e (.var 1)) (.var 3))) none) (ls.map .int) [] [.val (ordD kind ls), .val (tupI xs), .no, .no] = .ok ((pickP ls xs).map .int) [.val (ordD kind ls), .val (tupI xs), .no, .no] := e1
  have i1 : L2.atI [PyData.str kind, tupI ls] 1 = some (tupI ls) := rfl
  have i0 : L2.atI [PyData.str kind, tupI ls] 0 = some (.str kind) := rfl
  have sq : seqD (tupI ls) = some (ls.map .int) := rfl
  have hl : (pickP ls xs).length = ls.length := pick_len ls xs
  generalize pickP ls xs = A at *
  have sh : sumD (.list (A.map .int)) = some (.int A.sum) := sumD_map A
  unfold keyL
  have hA : ((A.map PyData.int).length + 1 ≤ 16777216) := by rw [List.length_map]; omega
  simp only [ordD] at *
  by_cases hk : kind = "total"
  · subst hk
    have cat : addD (.list [.int A.sum]) (.list (A.map .int)) = some (.list ((A.sum :: A).map .int)) := by
      show (if sizeOkN ([PyData.int A.sum].length + (A.map PyData.int).length) then _ else _) = _
      refine if_pos (decide_eq_true ?_)
      simp at hA ⊢; omega
    simp -implicitDefEqProofs [f_l_key, i1, i0, sq, e1, sh, cat, outsOf, -List.map_cons]
  · have hk' : (kind == ("total" : Str)) = false := by rw [Bool.eq_false_iff]; intro z; exact hk (eq_of_beq z)
    simp -implicitDefEqProofs [f_l_key, i1, i0, sq, e1, sh, outsOf, hk', hk]
end Mn
set_option Elab.async false
set_option linter.all false
set_option maxRecDepth 100000
set_option autoImplicit false
set_option maxHeartbeats 1000000
namespace Mn
open PySem PySem.Spec Lb
open scoped Rat
/-! ## ratios -/
def ratD (q : Rat) : D := .tuple [.int q.num, .int (q.den : Int)]
@[simp] theorem ix_rat0 (q : Rat) : ixD (ratD q) (.int 0) = some (.int q.num) := rfl
@[simp] theorem ix_rat1 (q : Rat) : ixD (ratD q) (.int 1) = some (.int (q.den : Int)) := rfl
@[simp] theorem isPair_rat (q : Rat) : isPair (ratD q) = false := rfl
/-- small enough to be reckoned with -/
def RB (q : Rat) : Prop := q.num.natAbs < 2 ^ 4000 ∧ q.den < 2 ^ 4000
theorem pow_up {n a b : Nat} (h : n < 2 ^ a) (hab : a ≤ b) : n < 2 ^ b := Nat.lt_of_lt_of_le h (Nat.pow_le_pow_right (by decide) hab)
theorem mulOk_pow {i j : Int} {a b : Nat} (hi : i.natAbs < 2 ^ a) (hj : j.natAbs < 2 ^ b) (ha : a ≤ 400000) (hb : b ≤ 400000) : mulOk i j = true := mulOk_small (pow_up hi ha) (pow_up hj hb)
theorem mul_abs {i j : Int} {a b : Nat} (hi : i.natAbs < 2 ^ a) (hj : j.natAbs < 2 ^ b) : (i * j).natAbs < 2 ^ (a + b) := by
  rw [Int.natAbs_mul, Nat.pow_add]
  exact Nat.mul_lt_mul'' hi hj
theorem add_abs {i j : Int} {a : Nat} (hi : i.natAbs < 2 ^ a) (hj : j.natAbs < 2 ^ a) : (i + j).natAbs < 2 ^ (a + 1) := by
  rw [Nat.pow_succ]
  have := Int.natAbs_add_le i j
  omega
theorem divOk_pow {j : Int} {a : Nat} (h0 : j ≠ 0) (h : j.natAbs < 2 ^ a) (ha : a ≤ 8900) : divOk j = true := by
  unfold divOk
  have : j.natAbs.log2 < a := (Nat.log2_lt (by omega)).mpr h
  rw [Bool.and_eq_true, decide_eq_true_eq, decide_eq_true_eq]
  exact ⟨h0, by omega⟩
/-- the greatest common divisor -/
def GcdS (G : List Sl → FR) : Prop := ∀ a b : Nat, b < 2 ^ 8900 → G [.val (.int a), .val (.int b)] = .ok (.int (Nat.gcd a b)) []
def slotI (i : Nat) (μ : Mu) : Nat := match look μ i with
  | some (.int j) => j.toNat
  | _ => 0
theorem fmod_nat {a b : Nat} (h : 0 < b) : (a : Int).fmod (b : Int) = ((a % b : Nat) : Int) := by
  rw [Int.fmod_eq_emod_of_nonneg _ (by omega)]; rfl
theorem gcd_loop (F : Nat → List Sl → FR) (W : Nat) (c : E) (b : Ss) (hc : ∀ x y : Nat, bitOf (ev F c [.val (.int x), .val (.int y)]) = .ok (decide (0 < y)) [.val (.int x), .val (.int y)])
    (hb : ∀ x y : Nat, 0 < y → execs F W b [.val (.int x), .val (.int y)] = .ok .nx [.val (.int y), .val (.int ((x % y : Nat) : Int))]) (x y n : Nat) (hn : y < n) (Q : Fl → Mu → Prop) (hQ : Q .nx [.val (.int (Nat.gcd x y : Nat)), .val (.int 0)]) : (whlL (testB F c) (execs F W b) n [.val (.int x), .val (.int y)]).wp Q := by
  refine wp_whlL (fun μ => ∃ a c : Nat, μ = [.val (.int a), .val (.int c)] ∧ Nat.gcd a c = Nat.gcd x y) (slotI 1) ?_ n _ ⟨x, y, rfl, rfl⟩ hn
  rintro μ Q' ⟨a, c', rfl, hg⟩ k1 k2
  have e := hc a c'
  rw [testB_at, e, wp_ok]
  by_cases h : 0 < c'
  · rw [decide_eq_true h]
    refine k2 _ fun Q2 k3 => ?_
    rw [hb a c' h, wp_ok]
    refine k3 _ ⟨c', a % c', rfl, ?_⟩ ?_
    · rw [← hg, Nat.gcd_comm c', Nat.gcd_comm a, ← Nat.gcd_rec]
    · show ((a % c' : Nat) : Int).toNat < (c' : Int).toNat
      rw [Int.toNat_natCast, Int.toNat_natCast]
      exact Nat.mod_lt _ h
  · rw [decide_eq_false h]
    have z : c' = 0 := by omega
    subst z
    rw [Nat.gcd_zero_right] at hg
    subst hg
    exact k1 _ hQ
theorem gcdS1 (F : Nat → List Sl → FR) (W : Nat) (hW : 2 ^ 9000 ≤ W) : GcdS (runFn F W f_shared) := by
  intro a b hb
  suffices hw : (runFn F W f_shared [.val (.int a), .val (.int b)]).wp fun d o => d = .int (Nat.gcd a b : Nat) ∧ o = [] by
    obtain ⟨_, _, e, rfl, rfl⟩ := FR.wp_elim hw
    exact e
  refine wp_run rfl rfl ?_
  simp -implicitDefEqProofs [f_shared]
  refine gcd_loop F W _ _ (fun x y => ?_) (fun x y h => ?_) a b W (Nat.lt_of_lt_of_le hb (Nat.le_trans (Nat.pow_le_pow_right (by decide) (by decide)) hW)) _ ?_
  · simp -implicitDefEqProofs
  · have e : modD (.int (x : Int)) (.int (y : Int)) = some (.int ((x % y : Nat) : Int)) := by rw [modD_int (by omega), fmod_nat h]
    simp -implicitDefEqProofs [e]
  · simp -implicitDefEqProofs [f_shared, outsOf]
theorem gcdS2 (F : Nat → List Sl → FR) (W : Nat) (hW : 2 ^ 9000 ≤ W) : GcdS (runFn F W f_l_gcd) := by
  intro a b hb
  suffices hw : (runFn F W f_l_gcd [.val (.int a), .val (.int b)]).wp fun d o => d = .int (Nat.gcd a b : Nat) ∧ o = [] by
    obtain ⟨_, _, e, rfl, rfl⟩ := FR.wp_elim hw
    exact e
  refine wp_run rfl rfl ?_
  simp -implicitDefEqProofs [f_l_gcd]
  refine gcd_loop F W _ _ (fun x y => ?_) (fun x y h => ?_) a b W (Nat.lt_of_lt_of_le hb (Nat.le_trans (Nat.pow_le_pow_right (by decide) (by decide)) hW)) _ ?_
  · simp -implicitDefEqProofs
    by_cases z : y = 0
    · subst z; rfl
    · rw [decide_eq_false z, decide_eq_true (show 0 < y by omega)]; rfl
  · have e : modD (.int (x : Int)) (.int (y : Int)) = some (.int ((x % y : Nat) : Int)) := by rw [modD_int (by omega), fmod_nat h]
    simp -implicitDefEqProofs [e]
  · simp -implicitDefEqProofs [f_l_gcd, outsOf]
/-- a ratio -/
def RatioS (G : List Sl → FR) : Prop := ∀ a b : Int, b ≠ 0 → a.natAbs < 2 ^ 8800 → b.natAbs < 2 ^ 8800 → G [.val (.int a), .val (.int b)] = .ok (ratD (a /. b)) []
theorem div_parts {a b : Int} (hb : b ≠ 0) : a.fdiv (b.sign * (Nat.gcd a.natAbs b.natAbs : Nat)) = (a /. b).num ∧ b.fdiv (b.sign * (Nat.gcd a.natAbs b.natAbs : Nat)) = ((a /. b).den : Int) := by
  have hg : (0 : Int) < (Nat.gcd a.natAbs b.natAbs : Nat) := by
    have := Nat.gcd_pos_of_pos_right a.natAbs (show 0 < b.natAbs by omega)
    omega
  have eg : (b.gcd a : Nat) = Nat.gcd a.natAbs b.natAbs := by
    rw [Int.gcd_comm]; rfl
  rw [Rat.num_divInt, Rat.den_divInt, if_neg hb, eg]
  generalize hgv : Nat.gcd a.natAbs b.natAbs = g at *
  have da : (g : Int) ∣ a := by rw [← hgv]; exact Int.dvd_natAbs.mp (Int.natCast_dvd_natCast.mpr (Nat.gcd_dvd_left _ _))
  have db : (g : Int) ∣ b := by rw [← hgv]; exact Int.dvd_natAbs.mp (Int.natCast_dvd_natCast.mpr (Nat.gcd_dvd_right _ _))
  obtain ⟨x, rfl⟩ := da
  obtain ⟨y, rfl⟩ := db
  have g0 : (g : Int) ≠ 0 := by omega
  have sy : ((g : Int) * y).sign = y.sign := by rw [Int.sign_mul, Int.sign_eq_one_of_pos hg, Int.one_mul]
  have y0 : y ≠ 0 := fun z => hb (by rw [z, Int.mul_zero])
  rw [sy]
  have e1 : y.sign * (↑g * x) / (g : Int) = y.sign * x := by
    rw [show y.sign * ((g : Int) * x) = (g : Int) * (y.sign * x) by rw [← Int.mul_assoc, Int.mul_comm y.sign, Int.mul_assoc], Int.mul_ediv_cancel_left _ g0]
  rw [e1]
  have e2 : ((((g : Int) * y).natAbs / g : Nat) : Int) = y.natAbs := by
    rw [Int.natAbs_mul, Int.natAbs_natCast, Nat.mul_div_cancel_left _ (by omega)]
  rw [e2]
  rcases Int.lt_or_gt_of_ne y0 with h | h
  · rw [Int.sign_eq_neg_one_of_neg h]
    constructor
    · rw [show (-1 : Int) * (g : Int) = -(g : Int) by omega, show (g : Int) * x = (-(g : Int)) * (-x) by rw [Int.neg_mul_neg], Int.mul_fdiv_cancel_left _ (by omega)]; omega
    · rw [show (-1 : Int) * (g : Int) = -(g : Int) by omega, show (g : Int) * y = (-(g : Int)) * (-y) by rw [Int.neg_mul_neg], Int.mul_fdiv_cancel_left _ (by omega)]; omega
  · rw [Int.sign_eq_one_of_pos h, Int.one_mul, Int.one_mul]
    constructor
    · rw [Int.mul_fdiv_cancel_left _ g0]
    · rw [Int.mul_fdiv_cancel_left _ g0]; omega
theorem gcd_abs {a b : Int} (hb : b ≠ 0) (h : b.natAbs < 2 ^ 8800) : divOk (Nat.gcd a.natAbs b.natAbs : Nat) = true ∧ divOk (-((Nat.gcd a.natAbs b.natAbs : Nat) : Int)) = true := by
  have hp := Nat.gcd_pos_of_pos_right a.natAbs (show 0 < b.natAbs by omega)
  have hl : Nat.gcd a.natAbs b.natAbs ≤ b.natAbs := Nat.gcd_le_right _ (by omega)
  generalize Nat.gcd a.natAbs b.natAbs = g at *
  have : g < 2 ^ 8800 := Nat.lt_of_le_of_lt hl h
  exact ⟨divOk_pow (a := 8800) (by omega) (by rw [Int.natAbs_natCast]; exact this) (by decide), divOk_pow (a := 8800) (by omega) (by rw [Int.natAbs_neg, Int.natAbs_natCast]; exact this) (by decide)⟩
theorem ratioS1 (F : Nat → List Sl → FR) (W c : Nat) (hg : GcdS (F c)) : RatioS (runFn F W (f_ratio c)) := by
  intro a b hb ha hb2
  rw [runFn_at rfl rfl]
  obtain ⟨p1, p2⟩ := div_parts (a := a) hb
  obtain ⟨d1, d2⟩ := gcd_abs (a := a) hb hb2
  have e := hg a.natAbs b.natAbs (pow_up hb2 (by decide))
  generalize Nat.gcd a.natAbs b.natAbs = g at *
  rcases Int.lt_or_gt_of_ne hb with h | h
  · rw [Int.sign_eq_neg_one_of_neg h, show (-1 : Int) * (g : Int) = -(g : Int) by omega] at p1 p2
    have f1 := fdivD_int (i := a) d2
    have f2 := fdivD_int (i := b) d2
    rw [p1] at f1
    rw [p2] at f2
    simp -implicitDefEqProofs [f_ratio, hb, e, h, f1, f2, outsOf, ratD]
  · rw [Int.sign_eq_one_of_pos h, Int.one_mul] at p1 p2
    have f1 := fdivD_int (i := a) d1
    have f2 := fdivD_int (i := b) d1
    rw [p1] at f1
    rw [p2] at f2
    have h' : ¬ b < 0 := by omega
    simp -implicitDefEqProofs [f_ratio, hb, e, h', f1, f2, outsOf, ratD]
theorem ratioS2 (F : Nat → List Sl → FR) (W c : Nat) (hg : GcdS (F c)) : RatioS (runFn F W (f_l_ratio c)) := by
  intro a b hb ha hb2
  rw [runFn_at rfl rfl]
  obtain ⟨p1, p2⟩ := div_parts (a := a) hb
  obtain ⟨d1, d2⟩ := gcd_abs (a := a) hb hb2
  have e := hg a.natAbs b.natAbs (pow_up hb2 (by decide))
  generalize Nat.gcd a.natAbs b.natAbs = g at *
  rcases Int.lt_or_gt_of_ne hb with h | h
  · rw [Int.sign_eq_neg_one_of_neg h, show (-1 : Int) * (g : Int) = -(g : Int) by omega] at p1 p2
    have f1 := fdivD_int (i := a) d2
    have f2 := fdivD_int (i := b) d2
    rw [p1] at f1
    rw [p2] at f2
    simp -implicitDefEqProofs [f_l_ratio, hb, e, h, f1, f2, outsOf, ratD]
  · rw [Int.sign_eq_one_of_pos h, Int.one_mul] at p1 p2
    have f1 := fdivD_int (i := a) d1
    have f2 := fdivD_int (i := b) d1
    rw [p1] at f1
    rw [p2] at f2
    have h' : ¬ b < 0 := by omega
    simp -implicitDefEqProofs [f_l_ratio, hb, e, h', f1, f2, outsOf, ratD]
/-! sums, differences, products -/
def Rat2 (G : List Sl → FR) (g : Rat → Rat → Rat) : Prop := ∀ a b : Rat, RB a → RB b → G [.val (ratD a), .val (ratD b)] = .ok (ratD (g a b)) []
section
variable {a b : Rat}
theorem RB.dn (h : RB a) : ((a.den : Int)).natAbs < 2 ^ 4000 := by rw [Int.natAbs_natCast]; exact h.2
theorem den_ne (a : Rat) : (a.den : Int) ≠ 0 := by have := a.den_nz; omega
theorem den_mul_ne (a b : Rat) : (a.den : Int) * b.den ≠ 0 := Int.mul_ne_zero (den_ne a) (den_ne b)
theorem add_rat (a b : Rat) : (a.num * b.den + b.num * a.den) /. ((a.den : Int) * b.den) = a + b := by
  rw [Rat.add_def', ← Rat.divInt_ofNat]; rw [Int.natCast_mul]
theorem sub_rat (a b : Rat) : (a.num * b.den - b.num * a.den) /. ((a.den : Int) * b.den) = a - b := by
  rw [Rat.sub_def', ← Rat.divInt_ofNat]; rw [Int.natCast_mul]
theorem mul_rat (a b : Rat) : (a.num * b.num) /. ((a.den : Int) * b.den) = a * b := by
  rw [Rat.mul_def', ← Rat.divInt_ofNat]; rw [Int.natCast_mul]
theorem RB.neg (h : RB a) : RB (-a) := ⟨by rw [Rat.neg_num, Int.natAbs_neg]; exact h.1, by rw [Rat.neg_den]; exact h.2⟩
end
theorem plusS1 (F : Nat → List Sl → FR) (W c : Nat) (hr : RatioS (F c)) : Rat2 (runFn F W (f_plus c)) (· + ·) := by
  intro a b ha hb
  rw [runFn_at rfl rfl]
  have m1 := mulD_int (mulOk_pow ha.1 hb.dn (by decide) (by decide))
  have m2 := mulD_int (mulOk_pow hb.1 ha.dn (by decide) (by decide))
  have m3 := mulD_int (mulOk_pow ha.dn hb.dn (by decide) (by decide))
  have e := hr (a.num * b.den + b.num * a.den) ((a.den : Int) * b.den) (den_mul_ne a b) (pow_up (add_abs (mul_abs ha.1 hb.dn) (mul_abs hb.1 ha.dn)) (by decide)) (pow_up (mul_abs ha.dn hb.dn) (by decide))
  rw [add_rat] at e
  simp -implicitDefEqProofs [f_plus, m1, m2, m3, e, outsOf]
theorem plusS2 (F : Nat → List Sl → FR) (W c : Nat) (hr : RatioS (F c)) : Rat2 (runFn F W (f_l_plus c)) (· + ·) := by
  intro a b ha hb
  rw [runFn_at rfl rfl]
  have m1 := mulD_int (mulOk_pow ha.1 hb.dn (by decide) (by decide))
  have m2 := mulD_int (mulOk_pow hb.1 ha.dn (by decide) (by decide))
  have m3 := mulD_int (mulOk_pow ha.dn hb.dn (by decide) (by decide))
  have e := hr (a.num * b.den + b.num * a.den) ((a.den : Int) * b.den) (den_mul_ne a b) (pow_up (add_abs (mul_abs ha.1 hb.dn) (mul_abs hb.1 ha.dn)) (by decide)) (pow_up (mul_abs ha.dn hb.dn) (by decide))
  rw [add_rat] at e
  simp -implicitDefEqProofs [f_l_plus, m1, m2, m3, e, outsOf]
theorem timesS1 (F : Nat → List Sl → FR) (W c : Nat) (hr : RatioS (F c)) : Rat2 (runFn F W (f_times c)) (· * ·) := by
  intro a b ha hb
  rw [runFn_at rfl rfl]
  have m1 := mulD_int (mulOk_pow ha.1 hb.1 (by decide) (by decide))
  have m3 := mulD_int (mulOk_pow ha.dn hb.dn (by decide) (by decide))
  have e := hr (a.num * b.num) ((a.den : Int) * b.den) (den_mul_ne a b) (pow_up (mul_abs ha.1 hb.1) (by decide)) (pow_up (mul_abs ha.dn hb.dn) (by decide))
  rw [mul_rat] at e
  simp -implicitDefEqProofs [f_times, m1, m3, e, outsOf]
theorem timesS2 (F : Nat → List Sl → FR) (W c : Nat) (hr : RatioS (F c)) : Rat2 (runFn F W (f_l_times c)) (· * ·) := by
  intro a b ha hb
  rw [runFn_at rfl rfl]
  have m1 := mulD_int (mulOk_pow ha.1 hb.1 (by decide) (by decide))
  have m3 := mulD_int (mulOk_pow ha.dn hb.dn (by decide) (by decide))
  have e := hr (a.num * b.num) ((a.den : Int) * b.den) (den_mul_ne a b) (pow_up (mul_abs ha.1 hb.1) (by decide)) (pow_up (mul_abs ha.dn hb.dn) (by decide))
  rw [mul_rat] at e
  simp -implicitDefEqProofs [f_l_times, m1, m3, e, outsOf]
theorem minusS1 (F : Nat → List Sl → FR) (W c : Nat) (hp : Rat2 (F c) (· + ·)) : Rat2 (runFn F W (f_minus c)) (· - ·) := by
  intro a b ha hb
  rw [runFn_at rfl rfl]
  have e := hp a (-b) ha hb.neg
  have e' : F c [.val (ratD a), .val (.tuple [.int (0 - b.num), .int (b.den : Int)])] = .ok (ratD (a - b)) [] := by
    rw [show (0 - b.num) = (-b).num by rw [Rat.neg_num]; omega, show ((b.den : Int)) = ((-b).den : Int) by rw [Rat.neg_den]]
    refine e.trans ?_
    rw [Rat.sub_eq_add_neg]
  simp only [Int.zero_sub] at e'
  simp -implicitDefEqProofs [f_minus, e', outsOf]
theorem minusS2 (F : Nat → List Sl → FR) (W c : Nat) (hr : RatioS (F c)) : Rat2 (runFn F W (f_l_minus c)) (· - ·) := by
  intro a b ha hb
  rw [runFn_at rfl rfl]
  have m1 := mulD_int (mulOk_pow ha.1 hb.dn (by decide) (by decide))
  have m2 := mulD_int (mulOk_pow hb.1 ha.dn (by decide) (by decide))
  have m3 := mulD_int (mulOk_pow ha.dn hb.dn (by decide) (by decide))
  have b2 : (a.num * b.den - b.num * a.den).natAbs < 2 ^ 8800 := by
    rw [Int.sub_eq_add_neg]
    refine pow_up (add_abs (mul_abs ha.1 hb.dn) (j := -(b.num * a.den)) ?_) (by decide)
    rw [Int.natAbs_neg]; exact mul_abs hb.1 ha.dn
  have e := hr (a.num * b.den - b.num * a.den) ((a.den : Int) * b.den) (den_mul_ne a b) b2 (pow_up (mul_abs ha.dn hb.dn) (by decide))
  rw [sub_rat] at e
  simp -implicitDefEqProofs [f_l_minus, m1, m2, m3, e, outsOf]
end Mn
set_option Elab.async false
set_option linter.all false
set_option maxRecDepth 100000
set_option autoImplicit false
set_option maxHeartbeats 1000000
namespace Mn
open PySem PySem.Spec Lb
/-! ## polynomials, plainly -/
abbrev Tm := List Int × Rat
/-- the sum of numbers times what φ tells of the powers -/
def Lf (φ : List Int → Rat) : List Tm → Rat
  | [] => 0
  | t :: ts => t.2 * φ t.1 + Lf φ ts
def dl (k : List Int) : List Int → Rat := fun l => if l = k then 1 else 0
def cf (ts : List Tm) (k : List Int) : Rat := Lf (dl k) ts
theorem Lf_append (φ : List Int → Rat) : ∀ (a b : List Tm), Lf φ (a ++ b) = Lf φ a + Lf φ b
  | [], b => by show Lf φ b = 0 + Lf φ b; grind
  | t :: a, b => by show t.2 * φ t.1 + Lf φ (a ++ b) = t.2 * φ t.1 + Lf φ a + Lf φ b; rw [Lf_append φ a b]; grind
theorem Lf_perm {φ : List Int → Rat} {a b : List Tm} (h : a.Perm b) : Lf φ a = Lf φ b := by
  induction h with
  | nil => rfl
  | cons x _ ih => show _ + _ = _ + _; rw [ih]
  | swap x y l => show y.2 * φ y.1 + (x.2 * φ x.1 + Lf φ l) = x.2 * φ x.1 + (y.2 * φ y.1 + Lf φ l); grind
  | trans _ _ i1 i2 => exact i1.trans i2
theorem Lf_filter {φ : List Int → Rat} : ∀ (a : List Tm), Lf φ (a.filter fun t => decide (t.2 ≠ 0)) = Lf φ a
  | [] => rfl
  | t :: a => by
    by_cases h : t.2 = 0
    · rw [List.filter_cons_of_neg (by simp [h]), Lf_filter a]
      show _ = t.2 * φ t.1 + Lf φ a
      rw [h]; grind
    · rw [List.filter_cons_of_pos (by simp [h])]
      show t.2 * φ t.1 + _ = t.2 * φ t.1 + _
      rw [Lf_filter a]
/-! tables -/
def tget : List Tm → List Int → Option Rat
  | [], _ => none
  | (k, r) :: t, x => if k = x then some r else tget t x
def tput : List Tm → List Int → Rat → List Tm
  | [], x, v => [(x, v)]
  | (k, r) :: t, x, v => if k = x then (k, v) :: t else (k, r) :: tput t x v
def g0 (tb : List Tm) (k : List Int) : Rat := (tget tb k).getD 0
def addT (tb : List Tm) (t : Tm) : List Tm := tput tb t.1 (g0 tb t.1 + t.2)
def accT (tb ts : List Tm) : List Tm := ts.foldl addT tb
def gathT (tb : List Tm) : List Tm := ((sortK (tb.map (·.1))).filter fun k => decide (g0 tb k ≠ 0)).map fun k => (k, g0 tb k)
def gath (ts : List Tm) : List Tm := gathT (accT [] ts)
def Nd (tb : List Tm) : Prop := (tb.map (·.1)).Nodup
theorem keys_tput (tb : List Tm) (x : List Int) (v : Rat) : (tput tb x v).map (·.1) = if x ∈ tb.map (·.1) then tb.map (·.1) else tb.map (·.1) ++ [x] := by
  induction tb with
  | nil => simp [tput]
  | cons t tb ih =>
    obtain ⟨k, r⟩ := t
    unfold tput
    by_cases h : k = x
    · subst h; simp
    · rw [if_neg h]
      have h' : ¬ x = k := fun z => h z.symm
      simp only [List.map_cons, ih, List.mem_cons, h', false_or]
      split <;> rfl
theorem Nd.tput {tb : List Tm} (h : Nd tb) (x : List Int) (v : Rat) : Nd (tput tb x v) := by
  unfold Nd
  rw [keys_tput]
  split
  · exact h
  · rename_i q
    refine List.nodup_append.mpr ⟨h, by simp, ?_⟩
    intro a ha b hb e
    simp at hb
    subst hb e
    exact q ha
theorem Nd.accT {tb : List Tm} (h : Nd tb) (ts : List Tm) : Nd (accT tb ts) := by
  induction ts generalizing tb with
  | nil => exact h
  | cons t ts ih => exact ih (h.tput _ _)
theorem Lf_tput {φ : List Int → Rat} {tb : List Tm} (h : Nd tb) (x : List Int) (v : Rat) : Lf φ (tput tb x v) + g0 tb x * φ x = Lf φ tb + v * φ x := by
  induction tb with
  | nil => show v * φ x + 0 + 0 * φ x = 0 + v * φ x; grind
  | cons t tb ih =>
    obtain ⟨k, r⟩ := t
    unfold Nd at h
    rw [List.map_cons, List.nodup_cons] at h
    unfold tput g0 tget
    by_cases e : k = x
    · subst e
      simp only [if_true]
      show v * φ k + Lf φ tb + r * φ k = r * φ k + Lf φ tb + v * φ k
      grind
    · simp only [if_neg e]
      have := ih h.2
      unfold g0 at this
      show r * φ k + Lf φ (tput tb x v) + _ = r * φ k + Lf φ tb + v * φ x
      grind
theorem Lf_addT {φ : List Int → Rat} {tb : List Tm} (h : Nd tb) (t : Tm) : Lf φ (addT tb t) = Lf φ tb + t.2 * φ t.1 := by
  have := Lf_tput (φ := φ) h t.1 (g0 tb t.1 + t.2)
  unfold addT
  grind
theorem Lf_accT {φ : List Int → Rat} {tb : List Tm} (h : Nd tb) (ts : List Tm) : Lf φ (accT tb ts) = Lf φ tb + Lf φ ts := by
  induction ts generalizing tb with
  | nil => show Lf φ tb = Lf φ tb + 0; grind
  | cons t ts ih =>
    show Lf φ (accT (addT tb t) ts) = _
    rw [ih (show Nd (addT tb t) from h.tput _ _), Lf_addT h]
    show _ = Lf φ tb + (t.2 * φ t.1 + Lf φ ts)
    grind
theorem map_g0 : ∀ {tb : List Tm}, Nd tb → (tb.map (·.1)).map (fun k => (k, g0 tb k)) = tb
  | [], _ => rfl
  | (k, r) :: tb, h => by
    unfold Nd at h
    rw [List.map_cons, List.nodup_cons] at h
    rw [List.map_cons, List.map_cons]
    have e0 : g0 ((k, r) :: tb) k = r := by unfold g0 tget; rw [if_pos rfl]; rfl
    have e1 : (tb.map (·.1)).map (fun l => (l, g0 ((k, r) :: tb) l)) = (tb.map (·.1)).map (fun l => (l, g0 tb l)) := by
      apply List.map_congr_left
      intro l hl
      have : ¬ k = l := fun z => h.1 (z ▸ hl)
      have : g0 ((k, r) :: tb) l = g0 tb l := by unfold g0; rw [tget, if_neg this]
      rw [this]
    rw [e1, map_g0 h.2]
    show (k, g0 ((k, r) :: tb) k) :: tb = _
    rw [e0]
theorem filter_map_g0 (tb : List Tm) : ∀ (ks : List (List Int)), (ks.filter fun k => decide (g0 tb k ≠ 0)).map (fun k => (k, g0 tb k)) = (ks.map fun k => (k, g0 tb k)).filter fun t => decide (t.2 ≠ 0)
  | [] => rfl
  | k :: ks => by
    by_cases h : g0 tb k = 0
    · rw [List.filter_cons_of_neg (by simp [h]), List.map_cons, List.filter_cons_of_neg (by simp [h]), filter_map_g0 tb ks]
    · rw [List.filter_cons_of_pos (by simp [h]), List.map_cons, List.map_cons, List.filter_cons_of_pos (by simp [h]), filter_map_g0 tb ks]
theorem Lf_gathT {φ : List Int → Rat} {tb : List Tm} (h : Nd tb) : Lf φ (gathT tb) = Lf φ tb := by
  unfold gathT
  rw [filter_map_g0, Lf_filter]
  have p : (sortK (tb.map (·.1))).Perm (tb.map (·.1)) := List.mergeSort_perm _ _
  rw [Lf_perm (p.map fun k => (k, g0 tb k)), map_g0 h]
theorem Lf_gath {φ : List Int → Rat} (ts : List Tm) : Lf φ (gath ts) = Lf φ ts := by
  have nd : Nd ([] : List Tm) := List.nodup_nil
  unfold gath
  rw [Lf_gathT (nd.accT ts), Lf_accT nd]
  show 0 + _ = _
  grind
theorem cf_gath (ts : List Tm) (k : List Int) : cf (gath ts) k = cf ts k := Lf_gath ts
/-! the form -/
structure Cn2 (p : List Tm) : Prop where
  fall : p.Pairwise fun a b => b.1 < a.1
  nz : ∀ t ∈ p, t.2 ≠ 0
theorem sortK_fall {ks : List (List Int)} (h : ks.Nodup) : (sortK ks).Pairwise fun a b => b < a := by
  have p : (sortK ks).Perm ks := List.mergeSort_perm _ _
  have nd : (sortK ks).Nodup := p.nodup_iff.mpr h
  have s : (sortK ks).Pairwise fun a b => (!decide (a < b)) = true := by
    unfold sortK
    refine List.pairwise_mergeSort (fun a b c h1 h2 => ?_) (fun a b => ?_) ks
    · simp only [Bool.not_eq_true', decide_eq_false_iff_not] at *
      intro h3
      rcases lex_tri a b with q | q | q
      · exact h1 q
      · subst q; exact h2 h3
      · rcases lex_tri b c with q2 | q2 | q2
        · exact h2 q2
        · subst q2; exact lex_asym q h3
        · exact lex_asym (lex_trans q2 q) h3
    · rcases lex_tri a b with q | q | q
      · have : ¬ b < a := fun z => lex_asym q z
        simp [this]
      · subst q; simp [lex_irr]
      · have : ¬ a < b := fun z => lex_asym q z
        simp [this]
  have both := s.and nd
  refine both.imp fun {a b} ⟨h1, h2⟩ => ?_
  simp only [Bool.not_eq_true', decide_eq_false_iff_not] at h1
  rcases lex_tri a b with q | q | q
  · exact absurd q h1
  · exact absurd q h2
  · exact q
theorem cn_gathT {tb : List Tm} (h : Nd tb) : Cn2 (gathT tb) := by
  refine ⟨?_, fun t ht => ?_⟩
  · unfold gathT
    rw [List.pairwise_map]
    exact (sortK_fall h).filter _
  · unfold gathT at ht
    obtain ⟨k, hk, rfl⟩ := List.mem_map.mp ht
    have := (List.mem_filter.mp hk).2
    simpa using this
theorem cn_gath (ts : List Tm) : Cn2 (gath ts) := cn_gathT (Nd.accT (tb := []) List.nodup_nil ts)
theorem cf_small {p : List Tm} {k : List Int} (h : ∀ t ∈ p, t.1 < k) : cf p k = 0 := by
  induction p with
  | nil => rfl
  | cons t p ih =>
    have h0 := h t List.mem_cons_self
    have : ¬ t.1 = k := fun z => by rw [z] at h0; exact lex_irr _ h0
    show t.2 * dl k t.1 + cf p k = 0
    rw [ih fun u hu => h u (List.mem_cons_of_mem _ hu)]
    unfold dl
    rw [if_neg this]; grind
theorem cf_head {t : Tm} {p : List Tm} (h : Cn2 (t :: p)) : cf (t :: p) t.1 = t.2 := by
  have := cf_small (p := p) (k := t.1) fun u hu => (List.pairwise_cons.mp h.fall).1 u hu
  show t.2 * dl t.1 t.1 + cf p t.1 = t.2
  rw [this]
  unfold dl
  rw [if_pos rfl]; grind
theorem Cn2.tail {t : Tm} {p : List Tm} (h : Cn2 (t :: p)) : Cn2 p := ⟨(List.pairwise_cons.mp h.fall).2, fun u hu => h.nz u (List.mem_cons_of_mem _ hu)⟩
/-- by its numbers a polynomial is known -/
theorem cn_ext : ∀ {p q : List Tm}, Cn2 p → Cn2 q → (∀ k, cf p k = cf q k) → p = q
  | [], [], _, _, _ => rfl
  | [], t :: q, _, hq, h => by
    have := h t.1
    rw [cf_head hq] at this
    exact absurd this.symm (hq.nz t List.mem_cons_self)
  | t :: p, [], hp, _, h => by
    have := h t.1
    rw [cf_head hp] at this
    exact absurd this (hp.nz t List.mem_cons_self)
  | t :: p, u :: q, hp, hq, h => by
    have low : ∀ {a : Tm} {l : List Tm} {k : List Int}, Cn2 (a :: l) → a.1 < k → cf (a :: l) k = 0 := fun {a l k} hc hk => cf_small fun b hb => by
      rcases List.mem_cons.mp hb with rfl | hb
      · exact hk
      · exact lex_trans ((List.pairwise_cons.mp hc.fall).1 b hb) hk
    have ek : t.1 = u.1 := by
      rcases lex_tri t.1 u.1 with z | z | z
      · have := h u.1
        rw [cf_head hq, low hp z] at this
        exact absurd this.symm (hq.nz u List.mem_cons_self)
      · exact z
      · have := h t.1
        rw [cf_head hp, low hq z] at this
        exact absurd this (hp.nz t List.mem_cons_self)
    have ev : t.2 = u.2 := by
      have := h t.1
      rw [cf_head hp, ek, cf_head hq] at this
      exact this
    have et : t = u := Prod.ext ek ev
    subst et
    rw [cn_ext hp.tail hq.tail fun k => by
      have := h k
      have e : t.2 * dl k t.1 + cf p k = t.2 * dl k t.1 + cf q k := this
      grind]
theorem gath_eq {a b : List Tm} (h : ∀ k, cf a k = cf b k) : gath a = gath b := cn_ext (cn_gath a) (cn_gath b) fun k => by rw [cf_gath, cf_gath, h k]
theorem gath_self {p : List Tm} (h : Cn2 p) : gath p = p := cn_ext (cn_gath p) h fun k => cf_gath p k
theorem Cn2.nd {p : List Tm} (h : Cn2 p) : Nd p := by
  unfold Nd List.Nodup
  rw [List.pairwise_map]
  exact h.fall.imp fun {a b} q z => by rw [z] at q; exact lex_irr _ q
end Mn
set_option Elab.async false
set_option linter.all false
set_option maxRecDepth 100000
set_option autoImplicit false
set_option maxHeartbeats 1000000
namespace Mn
open PySem PySem.Spec Lb
/-! ## bounds -/
/-- times d a whole number, at most N -/
def Cd (d N : Nat) (q : Rat) : Prop := ∃ m : Int, q * (d : Rat) = (m : Rat) ∧ m.natAbs ≤ N
section
variable {d e N M : Nat} {a b : Rat}
theorem Cd.mono (h : Cd d N a) (l : N ≤ M) : Cd d M a := by
  obtain ⟨m, h1, h2⟩ := h
  exact ⟨m, h1, by omega⟩
theorem Cd.zero : Cd d N 0 := ⟨0, by grind, by simp⟩
theorem Cd.add (h : Cd d N a) (g : Cd d M b) : Cd d (N + M) (a + b) := by
  obtain ⟨m, h1, h2⟩ := h
  obtain ⟨n, g1, g2⟩ := g
  refine ⟨m + n, ?_, Nat.le_trans (Int.natAbs_add_le m n) (by omega)⟩
  rw [Rat.intCast_add, ← h1, ← g1]; grind
theorem Cd.neg (h : Cd d N a) : Cd d N (-a) := by
  obtain ⟨m, h1, h2⟩ := h
  refine ⟨-m, ?_, by rw [Int.natAbs_neg]; exact h2⟩
  rw [Rat.intCast_neg, ← h1]; grind
theorem Cd.mul (h : Cd d N a) (g : Cd e M b) : Cd (d * e) (N * M) (a * b) := by
  obtain ⟨m, h1, h2⟩ := h
  obtain ⟨n, g1, g2⟩ := g
  refine ⟨m * n, ?_, by rw [Int.natAbs_mul]; exact Nat.mul_le_mul h2 g2⟩
  rw [Rat.intCast_mul, ← h1, ← g1, Rat.natCast_mul]; grind
theorem num_eq (q : Rat) : (q.num : Rat) = q * (q.den : Rat) := by
  have h := Rat.num_divInt_den q
  rw [Rat.divInt_eq_div] at h
  have hd : ((q.den : Int) : Rat) ≠ 0 := by
    have := q.den_nz
    intro z
    have := Rat.intCast_eq_zero_iff.mp z
    omega
  have := Rat.div_mul_cancel (a := (q.num : Rat)) hd
  rw [h] at this
  rw [← this]; rfl
theorem Cd.le (hd : 0 < d) (h : Cd d N a) : a.den ≤ d ∧ a.num.natAbs ≤ N := by
  obtain ⟨m, h1, h2⟩ := h
  have e : a.num * (d : Int) = m * (a.den : Int) := by
    have e1 : ((a.num * (d : Int) : Int) : Rat) = ((m * (a.den : Int) : Int) : Rat) := by
      rw [Rat.intCast_mul, Rat.intCast_mul, ← h1, num_eq]
      show a * (a.den : Rat) * (d : Rat) = a * (d : Rat) * (a.den : Rat)
      grind
    exact Rat.intCast_inj.mp e1
  have en : a.num.natAbs * d = m.natAbs * a.den := by
    have := congrArg Int.natAbs e
    rwa [Int.natAbs_mul, Int.natAbs_mul, Int.natAbs_natCast, Int.natAbs_natCast] at this
  have dv : a.den ∣ d := by
    have : a.den ∣ a.num.natAbs * d := ⟨m.natAbs, by rw [en, Nat.mul_comm]⟩
    exact (Nat.Coprime.symm a.reduced).dvd_of_dvd_mul_left this
  obtain ⟨c, hc⟩ := dv
  have c1 : 1 ≤ c := by
    rcases Nat.eq_zero_or_pos c with z | z
    · rw [z] at hc; omega
    · exact z
  refine ⟨Nat.le_of_dvd hd ⟨c, hc⟩, ?_⟩
  have : a.num.natAbs * c = m.natAbs := by
    have p : 0 < a.den := Nat.pos_of_ne_zero a.den_nz
    rw [hc, ← Nat.mul_assoc, Nat.mul_comm _ a.den, Nat.mul_assoc, Nat.mul_comm m.natAbs] at en
    exact Nat.eq_of_mul_eq_mul_left p en
  have : a.num.natAbs * 1 ≤ a.num.natAbs * c := Nat.mul_le_mul_left _ c1
  omega
theorem Cd.rb (hd : 0 < d) (h : Cd d N a) (h1 : d < 2 ^ 4000) (h2 : N < 2 ^ 4000) : RB a := by
  obtain ⟨x, y⟩ := h.le hd
  exact ⟨Nat.lt_of_le_of_lt y h2, Nat.lt_of_le_of_lt x h1⟩
theorem Cd.lf {ts : List Tm} (h : ∀ t ∈ ts, Cd d N t.2) (k : List Int) : Cd d (ts.length * N) (cf ts k) := by
  induction ts with
  | nil => exact Cd.zero
  | cons t ts ih =>
    have h0 := h t List.mem_cons_self
    have ih := ih fun u hu => h u (List.mem_cons_of_mem _ hu)
    show Cd d _ (t.2 * dl k t.1 + cf ts k)
    rw [List.length_cons, Nat.add_mul, Nat.one_mul, Nat.add_comm]
    refine Cd.add ?_ ih
    unfold dl
    split
    · rw [Rat.mul_one]; exact h0
    · rw [Rat.mul_zero]; exact Cd.zero
end
/-- what gathering terms asks -/
structure TsOk (ts : List Tm) : Prop where
  len : ts.length ≤ 1000000
  ne : ∀ t ∈ ts, t.1 ≠ []
  rb : ∀ t ∈ ts, RB t.2
  sums : ∀ i k, RB (cf (ts.take i) k)
theorem tsOk {ts : List Tm} {d N : Nat} (hl : ts.length ≤ 1000000) (hn : ∀ t ∈ ts, t.1 ≠ []) (h : ∀ t ∈ ts, Cd d N t.2) (hd : 0 < d) (h1 : d < 2 ^ 4000) (h2 : (ts.length + 1) * N < 2 ^ 4000) : TsOk ts := by
  have e : (ts.length + 1) * N = ts.length * N + N := by rw [Nat.add_mul, Nat.one_mul]
  refine ⟨hl, hn, fun t ht => (h t ht).rb hd h1 (by omega), fun i k => ?_⟩
  have := Cd.lf (ts := ts.take i) (fun t ht => h t (List.mem_of_mem_take ht)) k
  refine this.rb hd h1 ?_
  have : (ts.take i).length * N ≤ ts.length * N := Nat.mul_le_mul_right _ (by rw [List.length_take]; omega)
  omega
/-! ## as data -/
def termD (t : Tm) : D := .tuple [tupI t.1, ratD t.2]
def polyD (p : List Tm) : D := .tuple (p.map termD)
def tabD (tb : List Tm) : List (D × D) := tb.map fun t => (tupI t.1, ratD t.2)
@[simp] theorem nought_rat : PyData.tuple [.int 0, .int 1] = ratD 0 := rfl
@[simp] theorem isPair_term (t : Tm) : isPair (termD t) = false := rfl
@[simp] theorem setT_term (is : List Nat) (t : Tm) (μ : Mu) : setT is true (termD t) μ = setAll is [tupI t.1, ratD t.2] μ := rfl
@[simp] theorem seqD_poly (p : List Tm) : seqD (polyD p) = some (p.map termD) := rfl
@[simp] theorem ix_term0 (t : Tm) : ixD (termD t) (.int 0) = some (tupI t.1) := rfl
@[simp] theorem ix_term1 (t : Tm) : ixD (termD t) (.int 1) = some (ratD t.2) := rfl
theorem isKey_tupI (k : List Int) : isKey (tupI k) = true := by
  show (intsOf (k.map .int)).isSome = true
  rw [intsOf_map]; rfl
theorem dget_tab (tb : List Tm) (k : List Int) : dget (tabD tb) (tupI k) = (tget tb k).map ratD := by
  induction tb with
  | nil => rfl
  | cons t tb ih =>
    obtain ⟨l, r⟩ := t
    show (if PyData.eqv (tI l) (tI k) then some (ratD r) else dget (tabD tb) (tupI k)) = _
    rw [eqv_key, ih, tget]
    by_cases h : l = k
    · simp [h]
    · simp [h]
theorem dput_tab (tb : List Tm) (k : List Int) (v : Rat) : dput (tabD tb) (tupI k) (ratD v) = tabD (tput tb k v) := by
  induction tb with
  | nil => rfl
  | cons t tb ih =>
    obtain ⟨l, r⟩ := t
    show (if PyData.eqv (tI l) (tI k) then (tupI l, ratD v) :: tabD tb else (tupI l, ratD r) :: dput (tabD tb) (tupI k) (ratD v)) = _
    rw [eqv_key, ih, tput]
    by_cases h : l = k
    · simp [h, tabD]
    · simp [h, tabD]
theorem keysI_tab (tb : List Tm) : keysI (tabD tb) = some (tb.map (·.1)) := by
  induction tb with
  | nil => rfl
  | cons t tb ih =>
    show (match intsOf (t.1.map .int), keysI (tabD tb) with | some k, some ks => some (k :: ks) | _, _ => none) = _
    rw [intsOf_map, ih]; rfl
theorem sortD_tab {tb : List Tm} (h : ∀ t ∈ tb, t.1 ≠ []) : sortD (.dict (tabD tb)) = some (.list ((sortK (tb.map (·.1))).map tupI)) := by
  show (match keysI (tabD tb) with | some ks => if ks.all fun k => !k.isEmpty then _ else none | none => none) = _
  rw [keysI_tab]
  refine if_pos ?_
  rw [List.all_eq_true]
  intro k hk
  obtain ⟨t, ht, rfl⟩ := List.mem_map.mp hk
  have := h t ht
  cases q : t.1 with
  | nil => exact absurd q this
  | cons _ _ => rfl
theorem tab_len (tb : List Tm) : (tabD tb).length = tb.length := List.length_map _
theorem eqv_rat (a b : Rat) : PyData.eqv (ratD a) (ratD b) = decide (a = b) := by
  unfold ratD
  rw [PyData.eqv]
  show (PyData.eqv (.int a.num) (.int b.num) && (PyData.eqv (.int (a.den : Int)) (.int (b.den : Int)) && true)) = _
  rw [PyData.eqv, PyData.eqv, Bool.and_true, Bool.eq_iff_iff, Bool.and_eq_true, decide_eq_true_eq, beq_iff_eq, beq_iff_eq]
  constructor
  · rintro ⟨h1, h2⟩
    exact Rat.ext h1 (by omega)
  · rintro rfl; exact ⟨rfl, rfl⟩
@[simp] theorem eqD_rat (a b : Rat) : eqD (ratD a) (ratD b) = some (decide (a = b)) := by
  unfold eqD
  rw [if_pos (by rfl), eqv_rat]
/-! setting an entry -/
def dsetO (i : Nat) (y v : D) (μ2 : Mu) (o : Option D) : Option Mu := match o with
  | some (.dict es) => if isKey y && sizeOkN (es.length + 1) then some (μ2.set i (.own (.dict (dput es y v)))) else none
  | _ => none
@[simp] theorem dsetE_at (i : Nat) (y v : D) (μ : Mu) : dsetE i y v μ = dsetO i y v μ (owned μ i) := rfl
theorem dsetO_tab {i : Nat} {k : List Int} {v : Rat} {μ : Mu} {tb : List Tm} (h : tb.length ≤ 1000000) : dsetO i (tupI k) (ratD v) μ (some (.dict (tabD tb))) = some (μ.set i (.own (.dict (tabD (tput tb k v))))) := by
  show (if isKey (tupI k) && sizeOkN ((tabD tb).length + 1) then _ else _) = _
  rw [isKey_tupI, tab_len, dput_tab]
  exact if_pos (decide_eq_true (by omega))
theorem g0_of {tb : List Tm} {k : List Int} (h : k ∈ tb.map (·.1)) : tget tb k = some (g0 tb k) := by
  induction tb with
  | nil => cases h
  | cons t tb ih =>
    obtain ⟨l, r⟩ := t
    unfold g0 tget
    by_cases e : l = k
    · rw [if_pos e]; rfl
    · rw [if_neg e]
      refine ih ?_
      rw [List.map_cons] at h
      rcases List.mem_cons.mp h with q | q
      · exact absurd q.symm e
      · exact q
theorem mem_tget {tb : List Tm} {l : List Int} {v : Rat} (q : tget tb l = some v) : l ∈ tb.map (·.1) := by
  induction tb with
  | nil => cases q
  | cons u tb ih2 =>
    obtain ⟨m, w⟩ := u
    unfold tget at q
    by_cases e : m = l
    · rw [List.map_cons, e]; exact List.mem_cons_self
    · rw [if_neg e] at q; exact List.mem_cons_of_mem _ (ih2 q)
theorem g0_cf {tb : List Tm} (h : Nd tb) (k : List Int) : g0 tb k = cf tb k := by
  induction tb with
  | nil => rfl
  | cons t tb ih =>
    obtain ⟨l, r⟩ := t
    unfold Nd at h
    rw [List.map_cons, List.nodup_cons] at h
    have ih := ih h.2
    show _ = r * dl k l + cf tb k
    unfold g0 tget dl
    by_cases e : l = k
    · subst e
      rw [if_pos rfl, if_pos rfl, ← ih]
      have : g0 tb l = 0 := by
        unfold g0
        cases q : tget tb l with
        | none => rfl
        | some v =>
          exact absurd (mem_tget q) h.1
      rw [this]
      show r = _
      grind
    · rw [if_neg e, if_neg e, ← ih]
      show g0 tb k = _
      grind
theorem len_tput (tb : List Tm) (x : List Int) (v : Rat) : (tput tb x v).length ≤ tb.length + 1 := by
  have := congrArg List.length (keys_tput tb x v)
  rw [List.length_map] at this
  rw [this]
  split
  · rw [List.length_map]; omega
  · rw [List.length_append, List.length_map]; exact Nat.le_refl _
theorem len_accT (ts tb : List Tm) : (accT tb ts).length ≤ tb.length + ts.length := by
  induction ts generalizing tb with
  | nil => exact Nat.le_refl _
  | cons t ts ih =>
    have h1 := ih (addT tb t)
    have h2 : (addT tb t).length ≤ tb.length + 1 := len_tput tb _ _
    show (accT (addT tb t) ts).length ≤ _
    rw [List.length_cons]; omega
theorem keys_accT {ts tb : List Tm} {k : List Int} (h : k ∈ (accT tb ts).map (·.1)) : k ∈ tb.map (·.1) ∨ k ∈ ts.map (·.1) := by
  induction ts generalizing tb with
  | nil => exact .inl h
  | cons t ts ih =>
    rcases ih (tb := addT tb t) h with q | q
    · unfold addT at q
      rw [keys_tput] at q
      split at q
      · exact .inl q
      · rcases List.mem_append.mp q with q | q
        · exact .inl q
        · simp at q; subst q; exact .inr (by simp)
    · exact .inr (by rw [List.map_cons]; exact List.mem_cons_of_mem _ q)
end Mn
set_option Elab.async false
set_option linter.all false
set_option maxRecDepth 100000
set_option autoImplicit false
set_option maxHeartbeats 1000000
namespace Mn
open PySem PySem.Spec Lb
/-! a list or dict becomes a value -/
def frzB (r : Mu → Rs Fl) (o : Option Mu) : Rs Fl := match o with
  | some m => r m
  | none => .st
@[simp] theorem frzB_some (r : Mu → Rs Fl) (m : Mu) : frzB r (some m) = r m := rfl
@[simp] theorem execs_frz (F : Nat → List Sl → FR) (W i : Nat) (r : Ss) (μ : Mu) : execs F W (.frz i r) μ = frzB (execs F W r) (frzM i μ) := rfl
def frzO (i : Nat) (μ : Mu) (o : Option Sl) : Option Mu := match o with
  | some (.own d) => some (μ.set i (.val d))
  | some (.val d) => some μ
  | _ => none
@[simp] theorem frzM_at (i : Nat) (μ : Mu) : frzM i μ = frzO i μ μ[i]? := rfl
@[simp] theorem frzO_own (i : Nat) (μ : Mu) (d : D) : frzO i μ (some (.own d)) = some (μ.set i (.val d)) := rfl
@[simp] theorem frzO_val (i : Nat) (μ : Mu) (d : D) : frzO i μ (some (.val d)) = some μ := rfl
/-! ## gathering -/
theorem getD2_tab (tb : List Tm) (k : List Int) (μ : Mu) : getD2 (some (.dict (tabD tb))) (tupI k) (ratD 0) μ = .ok (ratD (g0 tb k)) μ := by
  rw [getD2_at, isKey_tupI, if_pos rfl, dget_tab]
  unfold g0
  cases tget tb k <;> rfl
theorem dixD_tab {tb : List Tm} {k : List Int} (μ : Mu) (h : k ∈ tb.map (·.1)) : dixD (some (.dict (tabD tb))) (tupI k) μ = .ok (ratD (g0 tb k)) μ := by
  rw [dixD_at, isKey_tupI, if_pos rfl, dget_tab, g0_of h]; rfl
theorem RB.zero : RB 0 := ⟨Nat.two_pow_pos 4000, Nat.one_lt_two_pow (by decide)⟩
theorem accT_snoc (tb a : List Tm) (t : Tm) : accT tb (a ++ [t]) = addT (accT tb a) t := by
  unfold accT; rw [List.foldl_append]; rfl
theorem take_snoc {α : Type} {l : List α} {i : Nat} {a : α} (h : l[i]? = some a) : l.take (i + 1) = l.take i ++ [a] := by
  rw [List.take_add_one, h]; rfl
theorem g0_acc (ts : List Tm) (k : List Int) : g0 (accT [] ts) k = cf ts k := by
  rw [g0_cf (Nd.accT (tb := []) List.nodup_nil ts)]
  show Lf _ _ = _
  rw [Lf_accT (tb := []) List.nodup_nil]
  show (0 : Rat) + _ = _
  rw [Rat.zero_add]; rfl
theorem mem_sortK {ks : List (List Int)} {k : List Int} (h : k ∈ sortK ks) : k ∈ ks := (List.mergeSort_perm ks _).mem_iff.mp h
/-- what a def that gathers terms gives -/
def GathS (G : List Sl → FR) : Prop := ∀ (d : D) (ts : List Tm), seqD d = some (ts.map termD) → TsOk ts → G [.val d] = .ok (polyD (gath ts)) []
theorem gathS (F : Nat → List Sl → FR) (W c : Nat) (hp : Rat2 (F c) (· + ·)) : GathS (runFn F W (f_gathered c)) := by
  intro d ts hd hts
  suffices hw : (runFn F W (f_gathered c) [.val d]).wp fun x o => x = polyD (gath ts) ∧ o = [] by
    obtain ⟨_, _, e, rfl, rfl⟩ := FR.wp_elim hw
    exact e
  refine wp_run rfl rfl ?_
  simp -implicitDefEqProofs [f_gathered, hd]
  refine wp_forL (fun i μ => ∃ s2 s3 : Sl, μ = [.val d, .own (.dict (tabD (accT [] (ts.take i)))), s2, s3] ∧ FrS s2 ∧ FrS s3) _ _ ?_ ?_ ?_
  · exact ⟨.no, .no, rfl, rfl, rfl⟩
  · rintro i x μ Q' hx ⟨s2, s3, rfl, f2, f3⟩ hk
    rw [List.getElem?_map] at hx
    obtain ⟨t, ht, rfl⟩ := Option.map_eq_some_iff.mp hx
    have hm : t ∈ ts := List.mem_of_getElem? ht
    have e := hp (g0 (accT [] (ts.take i)) t.1) t.2 (by rw [g0_acc]; exact hts.sums i t.1) (hts.rb t hm)
    have hl : (accT [] (ts.take i)).length ≤ 1000000 := by
      have := len_accT (ts.take i) []
      have h2 := hts.len
      rw [List.length_take] at this
      simp at this
      omega
    have hk := hk [.val d, .own (.dict (tabD (accT [] (ts.take (i + 1))))), .val (tupI t.1), .val (ratD t.2)] ⟨_, _, rfl, rfl, rfl⟩
    rw [take_snoc ht, accT_snoc] at hk
    generalize accT [] (ts.take i) = tb at *
    simp -implicitDefEqProofs [isLck_f f2, isLck_f f3, -getD2_at, getD2_tab, e, dsetO_tab hl]
    exact hk
  · rintro μ ⟨s2, s3, rfl, f2, f3⟩
    rw [List.length_map, List.take_length]
    have hn : ∀ t ∈ accT [] ts, t.1 ≠ [] := fun t ht => by
      rcases keys_accT (List.mem_map_of_mem ht) with q | q
      · cases q
      · obtain ⟨u, hu, hq⟩ := List.mem_map.mp q
        rw [← hq]; exact hts.ne u hu
    have sq := sortD_tab hn
    unfold gath
    generalize accT [] ts = tb at *
    have e : compL (turnR [2] false (ev F (.tup (.cons (.var 2) (.cons (.dix (.pk 1) (.var 2)) .nil)))) (some (testB F (.cmp .ne (.e (.dix (.pk 1) (.var 2))) (.e (.glob "NOUGHT" (ratD 0))))))) ((sortK (tb.map (·.1))).map tupI) [] [.val d, .own (.dict (tabD tb)), s2, s3] = .ok ([] ++ ((sortK (tb.map (·.1))).filter fun k => decide (g0 tb k ≠ 0)).map fun k => termD (k, g0 tb k)) [.val d, .own (.dict (tabD tb)), s2, s3] := by
      refine compL_filter _ _ _ _ _ fun k hk => ?_
      have hx := fun μ => dixD_tab (tb := tb) μ (mem_sortK hk)
      by_cases z : g0 tb k = 0
      · simp -implicitDefEqProofs [freeS_f f2, -dixD_at, hx, z]
      · simp -implicitDefEqProofs [freeS_f f2, -dixD_at, hx, z, termD]
    have e2 : ([] ++ ((sortK (tb.map (·.1))).filter fun k => decide (g0 tb k ≠ 0)).map fun k => termD (k, g0 tb k)) = (gathT tb).map termD := by
      unfold gathT; rw [List.map_map]; rfl
    rw [e2] at e
    simp -implicitDefEqProofs [sq, e, outsOf, polyD]
theorem add_poly {a b : List Tm} (h : a.length + b.length ≤ 1000000) : addD (polyD a) (polyD b) = some (polyD (a ++ b)) := by
  show (if sizeOkN ((a.map termD).length + (b.map termD).length) then _ else _) = _
  refine (if_pos (decide_eq_true ?_)).trans ?_
  · rw [List.length_map, List.length_map]; omega
  · unfold polyD; rw [List.map_append]
/-- sums -/
def AddS (G : List Sl → FR) : Prop := ∀ a b : List Tm, TsOk (a ++ b) → G [.val (polyD a), .val (polyD b)] = .ok (polyD (gath (a ++ b))) []
theorem addS (F : Nat → List Sl → FR) (W c : Nat) (hg : GathS (F c)) : AddS (runFn F W (f_added c)) := by
  intro a b h
  rw [runFn_at rfl rfl]
  have e := hg (polyD (a ++ b)) (a ++ b) rfl h
  have hl := h.len
  rw [List.length_append] at hl
  simp -implicitDefEqProofs [f_added, add_poly hl, e, outsOf]
def negP (b : List Tm) : List Tm := b.map fun t => (t.1, -t.2)
/-- differences -/
def LessS (G : List Sl → FR) : Prop := ∀ a b : List Tm, (∀ t ∈ b, RB t.2) → TsOk (a ++ negP b) → G [.val (polyD a), .val (polyD b)] = .ok (polyD (gath (a ++ negP b))) []
theorem lessS (F : Nat → List Sl → FR) (W c c2 : Nat) (hg : GathS (F c)) (hm : Rat2 (F c2) (· - ·)) : LessS (runFn F W (f_lessened c c2)) := by
  intro a b hb h
  rw [runFn_at rfl rfl]
  have e := hg (polyD (a ++ negP b)) (a ++ negP b) rfl h
  have hl := h.len
  rw [List.length_append] at hl
  have e1 : compL (turnR [2, 3] true (ev F (.tup (.cons (.var 2) (.cons (.call c2 (.cons (.v (.glob "NOUGHT" (ratD 0))) (.cons (.v (.var 3)) .nil))) .nil)))) none) (b.map termD) [] [.val (polyD a), .val (polyD b), .no, .no] = .ok ([] ++ b.map fun t => termD (t.1, -t.2)) [.val (polyD a), .val (polyD b), .no, .no] := by
    refine compL_on _ _ _ _ fun t ht => ?_
    have em := hm 0 t.2 RB.zero (hb t ht)
    rw [show (fun x1 x2 : Rat => x1 - x2) 0 t.2 = -t.2 by show 0 - t.2 = _; rw [Rat.sub_eq_add_neg, Rat.zero_add]] at em
    simp -implicitDefEqProofs [em, termD]
  rw [show ([] ++ b.map fun t => termD (t.1, -t.2)) = (negP b).map termD by unfold negP; rw [List.map_map]; rfl] at e1
  have ea := add_poly hl
  unfold polyD at *
  simp -implicitDefEqProofs [f_lessened, e1, ea, e, outsOf, -List.map_append]
/-- a polynomial times a term -/
def byT (p : List Tm) (t : Tm) : List Tm := p.map fun u => (joinP u.1 t.1, u.2 * t.2)
def ByS (G : List Sl → FR) : Prop := ∀ (p : List Tm) (t : Tm), (∀ u ∈ p, RB u.2) → RB t.2 → G [.val (polyD p), .val (termD t)] = .ok (polyD (byT p t)) []
theorem byS (F : Nat → List Sl → FR) (W c c2 : Nat) (ht : Rat2 (F c) (· * ·)) (hj : Pure2 (F c2) fun xs ys => tupI (joinP xs ys)) : ByS (runFn F W (f_by_term c c2)) := by
  intro p t hp h
  rw [runFn_at rfl rfl]
  have e1 : compL (turnR [2, 3] true (ev F (.tup (.cons (.call c2 (.cons (.v (.var 2)) (.cons (.v (.ix (.e (.var 1)) (.int 0))) .nil))) (.cons (.call c (.cons (.v (.var 3)) (.cons (.v (.ix (.e (.var 1)) (.int 1))) .nil))) .nil)))) none) (p.map termD) [] [.val (polyD p), .val (termD t), .no, .no] = .ok ([] ++ p.map fun u => termD (joinP u.1 t.1, u.2 * t.2)) [.val (polyD p), .val (termD t), .no, .no] := by
    refine compL_on _ _ _ _ fun u hu => ?_
    have em := ht u.2 t.2 (hp u hu) h
    have ej := hj u.1 t.1
    have i0 := ix_term0 t
    have i1 := ix_term1 t
    have st : ∀ m, setT [2, 3] true (termD u) m = setAll [2, 3] [tupI u.1, ratD u.2] m := fun m => setT_term _ _ _
    generalize hX : termD t = X at *
    simp -implicitDefEqProofs [em, ej, i0, i1, st]
    rfl
  rw [show ([] ++ p.map fun u => termD (joinP u.1 t.1, u.2 * t.2)) = (byT p t).map termD by unfold byT; rw [List.map_map]; rfl] at e1
  unfold polyD at *
  generalize hX : termD t = X at *
  simp -implicitDefEqProofs [f_by_term, e1, outsOf]
/-! products -/
def prodL (a b : List Tm) : List Tm := b.flatMap (byT a)
def ProdS (G : List Sl → FR) : Prop := ∀ a b : List Tm, (∀ t ∈ a, RB t.2) → (∀ t ∈ b, RB t.2) → TsOk (prodL a b) → G [.val (polyD a), .val (polyD b)] = .ok (polyD (gath (prodL a b))) []
def extO (i : Nat) (μ1 : Mu) (o : Option D) (o2 : Option (List D)) : Option Mu := match o, o2 with
  | some (.list xs), some ys => if sizeOkN (xs.length + ys.length) then some (μ1.set i (.own (.list (xs ++ ys)))) else none
  | _, _ => none
@[simp] theorem extE_at (i : Nat) (v : D) (μ : Mu) : extE i v μ = extO i μ (owned μ i) (seqD v) := rfl
theorem extO_ok {i : Nat} {μ : Mu} {xs ys : List D} (h : xs.length + ys.length ≤ 1000000) : extO i μ (some (.list xs)) (some ys) = some (μ.set i (.own (.list (xs ++ ys)))) := if_pos (decide_eq_true (by omega))
theorem flat_len {a : List Tm} : ∀ (b : List Tm), (prodL a b).length = b.length * a.length
  | [] => by simp [prodL]
  | t :: b => by
    have := flat_len (a := a) b
    unfold prodL at this ⊢
    rw [List.flatMap_cons, List.length_append, this, List.length_cons, Nat.add_mul, Nat.one_mul, Nat.add_comm]
    unfold byT
    rw [List.length_map]
theorem prodS (F : Nat → List Sl → FR) (W c c2 : Nat) (hb : ByS (F c)) (hg : GathS (F c2)) : ProdS (runFn F W (f_product c c2)) := by
  intro a b ha hb2 h
  suffices hw : (runFn F W (f_product c c2) [.val (polyD a), .val (polyD b)]).wp fun x o => x = polyD (gath (prodL a b)) ∧ o = [] by
    obtain ⟨_, _, e, rfl, rfl⟩ := FR.wp_elim hw
    exact e
  refine wp_run rfl rfl ?_
  simp -implicitDefEqProofs [f_product]
  refine wp_forL (fun i μ => ∃ s : Sl, μ = [.val (polyD a), .val (polyD b), .own (.list ((prodL a (b.take i)).map termD)), s] ∧ FrS s) _ _ ?_ ?_ ?_
  · exact ⟨.no, rfl, rfl⟩
  · rintro i x μ Q' hx ⟨s, rfl, f⟩ hk
    rw [List.getElem?_map] at hx
    obtain ⟨t, ht, rfl⟩ := Option.map_eq_some_iff.mp hx
    have hm : t ∈ b := List.mem_of_getElem? ht
    have e := hb a t ha (hb2 t hm)
    have hk := hk [.val (polyD a), .val (polyD b), .own (.list ((prodL a (b.take (i + 1))).map termD)), .val (termD t)] ⟨_, rfl, rfl⟩
    have hl : ((prodL a (b.take i)).map termD).length + ((byT a t).map termD).length ≤ 1000000 := by
      rw [List.length_map, List.length_map, flat_len]
      have l1 : (byT a t).length = a.length := by unfold byT; rw [List.length_map]
      have l2 := h.len
      have l3 : i < b.length := (List.getElem?_eq_some_iff.mp ht).1
      rw [flat_len] at l2
      rw [l1, List.length_take]
      have : (i + 1) * a.length ≤ b.length * a.length := Nat.mul_le_mul_right _ l3
      rw [Nat.add_mul, Nat.one_mul] at this
      have : min i b.length = i := by omega
      rw [this]; omega
    have e2 : prodL a (b.take (i + 1)) = prodL a (b.take i) ++ byT a t := by
      rw [take_snoc ht]; unfold prodL; rw [List.flatMap_append, List.flatMap_singleton]
    rw [e2, List.map_append] at hk
    generalize (prodL a (b.take i)).map termD = L at *
    have iz := isPair_term t
    generalize termD t = X at *
    simp -implicitDefEqProofs [isLck_f f, iz, e, extO_ok hl]
    exact hk
  · rintro μ ⟨s, rfl, f⟩
    rw [List.length_map, List.take_length]
    have e := hg (.list ((prodL a b).map termD)) (prodL a b) rfl h
    simp -implicitDefEqProofs [e, outsOf]
end Mn
set_option Elab.async false
set_option linter.all false
set_option maxRecDepth 100000
set_option autoImplicit false
set_option maxHeartbeats 1000000
namespace Mn
open PySem PySem.Spec Lb
/-! ## the law's own polynomials -/
theorem dixD_ix {tb : List Tm} {k : List Int} (μ : Mu) (h : k ∈ tb.map (·.1)) : dixD (some (.dict (tabD tb))) (tupI k) μ = .ok (ratD (g0 tb k)) μ := dixD_tab μ h
def LGathS (G : List Sl → FR) : Prop := ∀ tb : List Tm, (∀ t ∈ tb, t.1 ≠ []) → G [.val (.dict (tabD tb))] = .ok (polyD (gathT tb)) []
theorem num_zero (q : Rat) : (q.num = 0) = (q = 0) := propext Rat.num_eq_zero
theorem lgathS (F : Nat → List Sl → FR) (W : Nat) : LGathS (runFn F W f_l_gathered) := by
  intro tb hn
  rw [runFn_at rfl rfl]
  have sq := sortD_tab hn
  have e : compL (turnR [1] false (ev F (.tup (.cons (.var 1) (.cons (.dix (.e (.var 0)) (.var 1)) .nil)))) (some (testB F (.cmp .ne (.e (.ix (.e (.dix (.e (.var 0)) (.var 1))) (.int 0))) (.e (.int 0)))))) ((sortK (tb.map (·.1))).map tupI) [] [.val (.dict (tabD tb)), .no] = .ok ([] ++ ((sortK (tb.map (·.1))).filter fun k => decide (g0 tb k ≠ 0)).map fun k => termD (k, g0 tb k)) [.val (.dict (tabD tb)), .no] := by
    refine compL_filter _ _ _ _ _ fun k hk => ?_
    have hx := fun μ => dixD_tab (tb := tb) μ (mem_sortK hk)
    by_cases z : g0 tb k = 0
    · simp -implicitDefEqProofs [-dixD_at, hx, z]
    · simp -implicitDefEqProofs [-dixD_at, hx, z, termD]
  have e2 : ([] ++ ((sortK (tb.map (·.1))).filter fun k => decide (g0 tb k ≠ 0)).map fun k => termD (k, g0 tb k)) = (gathT tb).map termD := by
    unfold gathT; rw [List.map_map]; rfl
  rw [e2] at e
  simp -implicitDefEqProofs [f_l_gathered, sq, e, outsOf, polyD]
/-! dict(polynomial) -/
theorem tput_new {tb : List Tm} {t : Tm} (h : t.1 ∉ tb.map (·.1)) : tput tb t.1 t.2 = tb ++ [t] := by
  induction tb with
  | nil => rfl
  | cons u tb ih =>
    obtain ⟨m, w⟩ := u
    rw [List.map_cons, List.mem_cons, not_or] at h
    unfold tput
    rw [if_neg (fun z => h.1 z.symm), ih h.2]; rfl
theorem pairs_poly (p : List Tm) : pairsD (p.map termD) = some (tabD p) := by
  induction p with
  | nil => rfl
  | cons t p ih =>
    show (if isKey (tupI t.1) then (pairsD (p.map termD)).map _ else none) = _
    rw [isKey_tupI, if_pos rfl, ih]; rfl
theorem dict_fold {p tb : List Tm} (h : Nd (tb ++ p)) : (tabD p).foldl (fun c q => dput c q.1 q.2) (tabD tb) = tabD (tb ++ p) := by
  induction p generalizing tb with
  | nil => rw [List.append_nil]; rfl
  | cons t p ih =>
    show (tabD p).foldl _ (dput (tabD tb) (tupI t.1) (ratD t.2)) = _
    have hn : t.1 ∉ tb.map (·.1) := by
      unfold Nd at h
      rw [List.map_append, List.nodup_append] at h
      intro z
      exact h.2.2 _ z _ (by rw [List.map_cons]; exact List.mem_cons_self) rfl
    rw [dput_tab, tput_new hn, ih (by rw [List.append_assoc]; exact h), List.append_assoc]; rfl
theorem dict_poly {p : List Tm} (h : Nd p) (hl : p.length ≤ 1000000) : dictOfD (polyD p) = some (.dict (tabD p)) := by
  show (if sizeOkN (p.map termD).length then (pairsD (p.map termD)).map fun es => PyData.dict (dictD es) else none) = _
  refine (if_pos (decide_eq_true (by rw [List.length_map]; omega))).trans ?_
  rw [pairs_poly]
  show some (PyData.dict (dictD (tabD p))) = _
  congr 2
  exact dict_fold (tb := []) h
theorem g0_acc2 {a : List Tm} (h : Nd a) (ts : List Tm) (k : List Int) : g0 (accT a ts) k = cf (a ++ ts) k := by
  rw [g0_cf (h.accT ts)]
  show Lf _ _ = Lf _ _
  rw [Lf_accT h, Lf_append]
theorem gathT_acc {a : List Tm} (h : Nd a) (ts : List Tm) : gathT (accT a ts) = gath (a ++ ts) := by
  refine cn_ext (cn_gathT (h.accT ts)) (cn_gath _) fun k => ?_
  rw [cf_gath]
  show Lf _ _ = Lf _ _
  rw [Lf_gathT (h.accT ts), Lf_accT h, Lf_append]
def LAddS (G : List Sl → FR) : Prop := ∀ (a : List Tm) (d : D) (b : List Tm), Nd a → seqD d = some (b.map termD) → TsOk (a ++ b) → G [.val (polyD a), .val d] = .ok (polyD (gath (a ++ b))) []
theorem laddS (F : Nat → List Sl → FR) (W c c2 : Nat) (hp : Rat2 (F c) (· + ·)) (hg : LGathS (F c2)) : LAddS (runFn F W (f_l_added c c2)) := by
  intro a d b ha hd h
  have hl := h.len
  rw [List.length_append] at hl
  have hn : ∀ t ∈ accT a b, t.1 ≠ [] := fun t ht => by
    rcases keys_accT (List.mem_map_of_mem ht) with q | q
    · obtain ⟨u, hu, hq⟩ := List.mem_map.mp q
      rw [← hq]; exact h.ne u (List.mem_append_left _ hu)
    · obtain ⟨u, hu, hq⟩ := List.mem_map.mp q
      rw [← hq]; exact h.ne u (List.mem_append_right _ hu)
  suffices hw : (runFn F W (f_l_added c c2) [.val (polyD a), .val d]).wp fun x o => x = polyD (gath (a ++ b)) ∧ o = [] by
    obtain ⟨_, _, e, rfl, rfl⟩ := FR.wp_elim hw
    exact e
  refine wp_run rfl rfl ?_
  simp -implicitDefEqProofs [f_l_added, hd, dict_poly ha (show a.length ≤ 1000000 by omega)]
  refine wp_forL (fun i μ => ∃ s2 s3 : Sl, μ = [.val (polyD a), .val d, .own (.dict (tabD (accT a (b.take i)))), s2, s3] ∧ FrS s2 ∧ FrS s3) _ _ ?_ ?_ ?_
  · exact ⟨.no, .no, rfl, rfl, rfl⟩
  · rintro i x μ Q' hx ⟨s2, s3, rfl, f2, f3⟩ hk
    rw [List.getElem?_map] at hx
    obtain ⟨t, ht, rfl⟩ := Option.map_eq_some_iff.mp hx
    have hm : t ∈ b := List.mem_of_getElem? ht
    have hs : RB (cf (a ++ b.take i) t.1) := by
      have := h.sums (a.length + i) t.1
      rwa [List.take_length_add_append] at this
    have e := hp (g0 (accT a (b.take i)) t.1) t.2 (by rw [g0_acc2 ha]; exact hs) (h.rb t (List.mem_append_right _ hm))
    have hl2 : (accT a (b.take i)).length ≤ 1000000 := by
      have := len_accT (b.take i) a
      rw [List.length_take] at this
      omega
    have hk := hk [.val (polyD a), .val d, .own (.dict (tabD (accT a (b.take (i + 1))))), .val (tupI t.1), .val (ratD t.2)] ⟨_, _, rfl, rfl, rfl⟩
    rw [take_snoc ht, accT_snoc] at hk
    generalize accT a (b.take i) = tb at *
    simp -implicitDefEqProofs [isLck_f f2, isLck_f f3, -getD2_at, getD2_tab, e, dsetO_tab hl2]
    exact hk
  · rintro μ ⟨s2, s3, rfl, f2, f3⟩
    rw [List.length_map, List.take_length]
    have e := hg (accT a b) hn
    rw [gathT_acc ha] at e
    simp -implicitDefEqProofs [e, outsOf]
/-- turned -/
theorem lturnS (F : Nat → List Sl → FR) (W : Nat) (p : List Tm) : runFn F W f_l_turned [.val (polyD p)] = .ok (polyD (negP p)) [] := by
  rw [runFn_at rfl rfl]
  have e : compL (turnR [1, 2] true (ev F (.tup (.cons (.var 1) (.cons (.tup (.cons (.bin .sub (.int 0) (.ix (.e (.var 2)) (.int 0))) (.cons (.ix (.e (.var 2)) (.int 1)) .nil))) .nil)))) none) (p.map termD) [] [.val (polyD p), .no, .no] = .ok ([] ++ p.map fun t => termD (t.1, -t.2)) [.val (polyD p), .no, .no] := by
    refine compL_on _ _ _ _ fun t ht => ?_
    have e2 : termD (t.1, -t.2) = .tuple [tupI t.1, .tuple [.int (-t.2.num), .int (t.2.den : Int)]] := by
      unfold termD ratD; rw [Rat.neg_num, Rat.neg_den]
    rw [e2]
    simp -implicitDefEqProofs
  rw [show ([] ++ p.map fun t => termD (t.1, -t.2)) = (negP p).map termD by unfold negP; rw [List.map_map]; rfl] at e
  unfold polyD at *
  simp -implicitDefEqProofs [f_l_turned, e, outsOf]
end Mn
set_option Elab.async false
set_option linter.all false
set_option maxRecDepth 100000
set_option autoImplicit false
set_option maxHeartbeats 1000000
set_option exponentiation.threshold 10000
namespace Mn
open PySem PySem.Spec Lb
/-! ## sums over two -/
theorem Lf_add (φ ψ : List Int → Rat) : ∀ a : List Tm, Lf (fun k => φ k + ψ k) a = Lf φ a + Lf ψ a
  | [] => by show (0 : Rat) = 0 + 0; grind
  | t :: a => by
    show t.2 * (φ t.1 + ψ t.1) + Lf _ a = t.2 * φ t.1 + Lf φ a + (t.2 * ψ t.1 + Lf ψ a)
    rw [Lf_add φ ψ a]; grind
theorem Lf_smul (c : Rat) (φ : List Int → Rat) : ∀ a : List Tm, Lf (fun k => c * φ k) a = c * Lf φ a
  | [] => by show (0 : Rat) = c * 0; grind
  | t :: a => by
    show t.2 * (c * φ t.1) + Lf _ a = c * (t.2 * φ t.1 + Lf φ a)
    rw [Lf_smul c φ a]; grind
theorem Lf_zero : ∀ a : List Tm, Lf (fun _ => 0) a = 0
  | [] => rfl
  | t :: a => by
    show t.2 * 0 + Lf _ a = 0
    rw [Lf_zero a]; grind
theorem Lf_swap (ψ : List Int → List Int → Rat) (b : List Tm) : ∀ a : List Tm, Lf (fun k => Lf (ψ k) b) a = Lf (fun l => Lf (fun k => ψ k l) a) b
  | [] => (Lf_zero b).symm
  | t :: a => by
    show t.2 * Lf (ψ t.1) b + Lf _ a = Lf (fun l => t.2 * ψ t.1 l + Lf (fun k => ψ k l) a) b
    rw [Lf_swap ψ b a, Lf_add, Lf_smul]
theorem joinP_comm : ∀ xs ys : List Int, joinP xs ys = joinP ys xs
  | [], ys => by cases ys <;> rfl
  | _ :: _, [] => rfl
  | x :: xs, y :: ys => by
    have := joinP_comm xs ys
    unfold joinP at this ⊢
    simp only [List.zip_cons_cons, List.map_cons]
    rw [this, Int.add_comm]
def lbyT (t : Tm) (b : List Tm) : List Tm := b.map fun u => (joinP t.1 u.1, t.2 * u.2)
def lprodL (a b : List Tm) : List Tm := a.flatMap fun t => lbyT t b
theorem Lf_lbyT (φ : List Int → Rat) (t : Tm) : ∀ b : List Tm, Lf φ (lbyT t b) = t.2 * Lf (fun l => φ (joinP t.1 l)) b
  | [] => by show (0 : Rat) = t.2 * 0; grind
  | u :: b => by
    show t.2 * u.2 * φ (joinP t.1 u.1) + Lf φ (lbyT t b) = t.2 * (u.2 * φ (joinP t.1 u.1) + Lf _ b)
    rw [Lf_lbyT φ t b]; grind
theorem Lf_lprod (φ : List Int → Rat) (b : List Tm) : ∀ a : List Tm, Lf φ (lprodL a b) = Lf (fun k => Lf (fun l => φ (joinP k l)) b) a
  | [] => rfl
  | t :: a => by
    unfold lprodL
    rw [List.flatMap_cons, Lf_append, Lf_lbyT]
    show _ + Lf φ (lprodL a b) = _
    rw [Lf_lprod φ b a]; rfl
theorem byT_lbyT (a : List Tm) (t : Tm) : byT a t = lbyT t a := by
  unfold byT lbyT
  apply List.map_congr_left
  intro u _
  rw [joinP_comm, Rat.mul_comm]
theorem prodL_lprodL (a b : List Tm) : prodL a b = lprodL b a := by
  unfold prodL lprodL
  congr 1
  funext t
  exact byT_lbyT a t
theorem cf_lprod_comm (a b : List Tm) (k : List Int) : cf (lprodL a b) k = cf (lprodL b a) k := by
  unfold cf
  rw [Lf_lprod, Lf_lprod, Lf_swap]
  congr 1
  funext l
  congr 1
  funext m
  rw [joinP_comm]
theorem gath_prod (a b : List Tm) : gath (prodL a b) = gath (lprodL a b) := by
  rw [prodL_lprodL]; exact gath_eq (cf_lprod_comm b a)
theorem gath_prod_comm (a b : List Tm) : gath (prodL b a) = gath (prodL a b) := by
  rw [prodL_lprodL, prodL_lprodL]; exact gath_eq (cf_lprod_comm a b)
theorem gath_nil : gath [] = [] := by simp [gath, gathT, accT, sortK]
/-! bounds -/
theorem mem_gathT {tb : List Tm} {t : Tm} (h : t ∈ gathT tb) : t.1 ∈ tb.map (·.1) ∧ t.2 = g0 tb t.1 := by
  unfold gathT at h
  obtain ⟨k, hk, rfl⟩ := List.mem_map.mp h
  exact ⟨mem_sortK (List.mem_filter.mp hk).1, rfl⟩
theorem mem_gath {X : List Tm} {t : Tm} (h : t ∈ gath X) : t.1 ∈ X.map (·.1) ∧ t.2 = cf X t.1 := by
  obtain ⟨h1, h2⟩ := mem_gathT h
  rw [g0_acc] at h2
  rcases keys_accT h1 with q | q
  · cases q
  · exact ⟨q, h2⟩
theorem len_gathT (tb : List Tm) : (gathT tb).length ≤ tb.length := by
  unfold gathT
  rw [List.length_map]
  refine Nat.le_trans (List.length_filter_le _ _) ?_
  unfold sortK
  rw [(List.mergeSort_perm (tb.map (·.1)) _).length_eq, List.length_map]
  exact Nat.le_refl _
theorem len_gath (X : List Tm) : (gath X).length ≤ X.length := by
  have := len_accT X []
  refine Nat.le_trans (len_gathT _) ?_
  simpa using this
/-- n letters, powers up to x, numbers of Cd d N, at most L terms -/
structure Pb (n x d N L : Nat) (p : List Tm) : Prop where
  len : p.length ≤ L
  wid : ∀ t ∈ p, t.1.length = n
  rng : ∀ t ∈ p, ∀ y ∈ t.1, 0 ≤ y ∧ y ≤ x
  cd : ∀ t ∈ p, Cd d N t.2
section
variable {n x d N L : Nat} {p : List Tm}
theorem Pb.mono {x' N' L' : Nat} (h : Pb n x d N L p) (h1 : x ≤ x') (h2 : N ≤ N') (h3 : L ≤ L') : Pb n x' d N' L' p :=
  ⟨Nat.le_trans h.len h3, h.wid, fun t ht y hy => ⟨(h.rng t ht y hy).1, by have := (h.rng t ht y hy).2; omega⟩, fun t ht => (h.cd t ht).mono h2⟩
theorem Pb.gath (h : Pb n x d N L p) : Pb n x d (L * N) L (gath p) := by
  have key : ∀ t ∈ Mn.gath p, ∃ u ∈ p, u.1 = t.1 := fun t ht => by
    obtain ⟨u, hu, hq⟩ := List.mem_map.mp (mem_gath ht).1
    exact ⟨u, hu, hq⟩
  refine ⟨Nat.le_trans (len_gath p) h.len, fun t ht => ?_, fun t ht => ?_, fun t ht => ?_⟩
  · obtain ⟨u, hu, hq⟩ := key t ht
    rw [← hq]; exact h.wid u hu
  · obtain ⟨u, hu, hq⟩ := key t ht
    rw [← hq]; exact h.rng u hu
  · rw [(mem_gath ht).2]
    exact (Cd.lf h.cd t.1).mono (Nat.mul_le_mul_right _ h.len)
theorem Pb.neg (h : Pb n x d N L p) : Pb n x d N L (negP p) := by
  unfold negP
  refine ⟨by rw [List.length_map]; exact h.len, fun t ht => ?_, fun t ht => ?_, fun t ht => ?_⟩ <;> obtain ⟨u, hu, rfl⟩ := List.mem_map.mp ht
  · exact h.wid u hu
  · exact h.rng u hu
  · exact (h.cd u hu).neg
theorem Pb.append {K : Nat} {q : List Tm} (h : Pb n x d N L p) (g : Pb n x d N K q) : Pb n x d N (L + K) (p ++ q) := by
  refine ⟨by rw [List.length_append]; exact Nat.add_le_add h.len g.len, fun t ht => ?_, fun t ht => ?_, fun t ht => ?_⟩ <;> rcases List.mem_append.mp ht with q | q
  · exact h.wid t q
  · exact g.wid t q
  · exact h.rng t q
  · exact g.rng t q
  · exact h.cd t q
  · exact g.cd t q
theorem joinP_len {xs ys : List Int} (h1 : xs.length = n) (h2 : ys.length = n) : (joinP xs ys).length = n := by
  unfold joinP; rw [List.length_map, List.length_zip, h1, h2, Nat.min_self]
theorem joinP_rng {y : Nat} {xs ys : List Int} (h1 : ∀ z ∈ xs, 0 ≤ z ∧ z ≤ x) (h2 : ∀ z ∈ ys, 0 ≤ z ∧ z ≤ y) : ∀ z ∈ joinP xs ys, 0 ≤ z ∧ z ≤ ((x + y : Nat) : Int) := by
  intro z hz
  unfold joinP at hz
  obtain ⟨⟨a, b⟩, hp, rfl⟩ := List.mem_map.mp hz
  have ha := h1 a (List.of_mem_zip hp).1
  have hb := h2 b (List.of_mem_zip hp).2
  show 0 ≤ a + b ∧ a + b ≤ _
  omega
theorem Pb.lby {y e M K : Nat} {q : List Tm} {t : Tm} (h : Pb n x d N L p) (ht : t ∈ p) (g : Pb n y e M K q) : Pb n (x + y) (d * e) (N * M) K (lbyT t q) := by
  unfold lbyT
  refine ⟨by rw [List.length_map]; exact g.len, fun u hu => ?_, fun u hu => ?_, fun u hu => ?_⟩ <;> obtain ⟨v, hv, rfl⟩ := List.mem_map.mp hu
  · exact joinP_len (h.wid t ht) (g.wid v hv)
  · exact joinP_rng (h.rng t ht) (g.rng v hv)
  · exact (h.cd t ht).mul (g.cd v hv)
theorem Pb.lprod {y e M K : Nat} {q : List Tm} (h : Pb n x d N L p) (g : Pb n y e M K q) : Pb n (x + y) (d * e) (N * M) (L * K) (lprodL p q) := by
  have mem : ∀ u ∈ lprodL p q, ∃ t ∈ p, u ∈ lbyT t q := fun u hu => by
    unfold lprodL at hu
    exact List.mem_flatMap.mp hu
  refine ⟨?_, fun u hu => ?_, fun u hu => ?_, fun u hu => ?_⟩
  · rw [← prodL_lprodL, flat_len]
    exact Nat.mul_le_mul h.len g.len
  all_goals obtain ⟨t, ht, hu⟩ := mem u hu
  · exact (h.lby ht g).wid u hu
  · exact (h.lby ht g).rng u hu
  · exact (h.lby ht g).cd u hu
theorem Pb.take (h : Pb n x d N L p) (i : Nat) : Pb n x d N L (p.take i) := ⟨by rw [List.length_take]; have := h.len; omega, fun t ht => h.wid t (List.mem_of_mem_take ht), fun t ht => h.rng t (List.mem_of_mem_take ht), fun t ht => h.cd t (List.mem_of_mem_take ht)⟩
theorem Pb.ne (h : Pb n x d N L p) (hn : 1 ≤ n) : ∀ t ∈ p, t.1 ≠ [] := fun t ht z => by
  have := h.wid t ht
  rw [z] at this
  simp at this; omega
theorem Pb.rb (h : Pb n x d N L p) (hd : 0 < d) (h1 : d < 2 ^ 4000) (h2 : N < 2 ^ 4000) : ∀ t ∈ p, RB t.2 := fun t ht => (h.cd t ht).rb hd h1 h2
theorem Pb.ts (h : Pb n x d N L p) (hn : 1 ≤ n) (hd : 0 < d) (h1 : d < 2 ^ 4000) (hL : L ≤ 1000000) (h2 : (L + 1) * N < 2 ^ 4000) : TsOk p :=
  tsOk (Nat.le_trans h.len hL) (h.ne hn) h.cd hd h1 (Nat.lt_of_le_of_lt (Nat.mul_le_mul_right _ (Nat.succ_le_succ h.len)) h2)
end
/-! the law's product -/
def LProdS (G : List Sl → FR) : Prop := ∀ (n x d N L y e M K : Nat) (a b : List Tm), Pb n x d N L a → Pb n y e M K b → 1 ≤ n → 0 < d → 0 < e → d < 2 ^ 4000 → e < 2 ^ 4000 → d * e < 2 ^ 4000 → N < 2 ^ 4000 → M < 2 ^ 4000 → L * K + K ≤ 1000000 → (L * K + K + 1) * (L * K * (N * M) + N * M) < 2 ^ 4000 → G [.val (polyD a), .val (polyD b)] = .ok (polyD (gath (lprodL a b))) []
theorem gath_gath (X Y : List Tm) : gath (gath X ++ Y) = gath (X ++ Y) := gath_eq fun k => by
  show Lf _ _ = Lf _ _
  rw [Lf_append, Lf_append, Lf_gath]
theorem lprodS (F : Nat → List Sl → FR) (W c c2 : Nat) (ht : Rat2 (F c) (· * ·)) (ha : LAddS (F c2)) : LProdS (runFn F W (f_l_product c c2)) := by
  intro n x d N L y e M K a b pa pb hn hd he hd2 he2 hde hN hM hLK hbig
  suffices hw : (runFn F W (f_l_product c c2) [.val (polyD a), .val (polyD b)]).wp fun x o => x = polyD (gath (lprodL a b)) ∧ o = [] by
    obtain ⟨_, _, e, rfl, rfl⟩ := FR.wp_elim hw
    exact e
  have ra := pa.rb hd hd2 hN
  have rb := pb.rb he he2 hM
  refine wp_run rfl rfl ?_
  simp -implicitDefEqProofs [f_l_product]
  refine wp_forL (fun i μ => ∃ s3 s4 s5 : Sl, μ = [.val (polyD a), .val (polyD b), .val (polyD (gath (lprodL (a.take i) b))), s3, s4, s5, .no, .no, .no, .no] ∧ FrS s3 ∧ FrS s4 ∧ FrS s5) _ _ ?_ ?_ ?_
  · refine ⟨.no, .no, .no, ?_, rfl, rfl, rfl⟩
    rw [List.take_zero, show lprodL [] b = [] from rfl, gath_nil]; rfl
  · rintro i z μ Q' hx ⟨s3, s4, s5, rfl, f3, f4, f5⟩ hk
    rw [List.getElem?_map] at hx
    obtain ⟨t, ht', rfl⟩ := Option.map_eq_some_iff.mp hx
    have hm : t ∈ a := List.mem_of_getElem? ht'
    have p1 := ((pa.take i).lprod pb).gath
    have p2 := pa.lby hm pb
    have p3 := (p1.mono (Nat.le_refl _) (Nat.le_add_right _ (N * M)) (Nat.le_refl _)).append (p2.mono (Nat.le_refl _) (Nat.le_add_left _ (L * K * (N * M))) (Nat.le_refl _))
    have ts := p3.ts hn (Nat.mul_pos hd he) hde hLK hbig
    have ea := ha (gath (lprodL (a.take i) b)) (.list ((lbyT t b).map termD)) (lbyT t b) (cn_gath _).nd rfl ts
    rw [gath_gath] at ea
    have e2 : lprodL (a.take (i + 1)) b = lprodL (a.take i) b ++ lbyT t b := by
      rw [take_snoc ht']; unfold lprodL; rw [List.flatMap_append, List.flatMap_singleton]
    have hk := hk [.val (polyD a), .val (polyD b), .val (polyD (gath (lprodL (a.take (i + 1)) b))), .val (tupI t.1), .val (ratD t.2), .val (.list ((lbyT t b).map termD)), .no, .no, .no, .no] ⟨_, _, _, rfl, rfl, rfl, rfl⟩
    rw [e2] at hk
    generalize gath (lprodL (a.take i) b) = Y at *
    have ec : compL (turnR [6, 7] true (ev F (.tup (.cons (.b1 .tuple (.e (.fre (.comp (.bin .add (.var 8) (.var 9)) [8, 9] true (.zip (.var 3) (.var 6)) .none)))) (.cons (.call c (.cons (.v (.var 4)) (.cons (.v (.var 7)) .nil))) .nil)))) none) (b.map termD) [] [.val (polyD a), .val (polyD b), .val (polyD Y), .val (tupI t.1), .val (ratD t.2), s5, .no, .no, .no, .no] = .ok ([] ++ b.map fun u => termD (joinP t.1 u.1, t.2 * u.2)) [.val (polyD a), .val (polyD b), .val (polyD Y), .val (tupI t.1), .val (ratD t.2), s5, .no, .no, .no, .no] := by
      refine compL_on _ _ _ _ fun u hu => ?_
      have em := ht t.2 u.2 (ra t hm) (rb u hu)
      have ej : compL (turnR [8, 9] true (ev F (.bin .add (.var 8) (.var 9))) none) ((t.1.zip u.1).map fun p => pairD (.int p.1) (.int p.2)) [] [.val (polyD a), .val (polyD b), .val (polyD Y), .val (tupI t.1), .val (ratD t.2), s5, .val (tupI u.1), .val (ratD u.2), .no, .no] = .ok ([] ++ (t.1.zip u.1).map fun p => .int (p.1 + p.2)) [.val (polyD a), .val (polyD b), .val (polyD Y), .val (tupI t.1), .val (ratD t.2), s5, .val (tupI u.1), .val (ratD u.2), .no, .no] := by
        refine compL_on _ _ _ _ fun p hp => ?_
        simp -implicitDefEqProofs
      have ez : ∀ μ, zip2D (tupI t.1) (tupI u.1) μ = .ok ((t.1.zip u.1).map fun p => pairD (.int p.1) (.int p.2)) μ := fun μ => by
        unfold tupI; rw [zip2_tup, zip_ints]
      rw [show ([] ++ (t.1.zip u.1).map fun p => PyData.int (p.1 + p.2)) = (joinP t.1 u.1).map .int by unfold joinP; rw [List.map_map]; rfl] at ej
      have et : tupD (.list ((joinP t.1 u.1).map .int)) = some (tupI (joinP t.1 u.1)) := rfl
      simp -implicitDefEqProofs [em, ez, ej, et, -tupD_list, termD]
    rw [show ([] ++ b.map fun u => termD (joinP t.1 u.1, t.2 * u.2)) = (lbyT t b).map termD by unfold lbyT; rw [List.map_map]; rfl] at ec
    simp -implicitDefEqProofs [isLck_f f3, isLck_f f4, isLck_f f5, ec, ea]
    exact hk
  · rintro μ ⟨s3, s4, s5, rfl, f3, f4, f5⟩
    rw [List.length_map, List.take_length]
    simp -implicitDefEqProofs [outsOf]
end Mn
set_option Elab.async false
set_option linter.all false
set_option maxRecDepth 100000
set_option autoImplicit false
set_option maxHeartbeats 1000000
set_option exponentiation.threshold 10000
namespace Mn
open PySem PySem.Spec Lb
open scoped Rat
/-! ## numbers and polynomials by draws -/
/-- a multiple of 1, 2, .. 30 -/
abbrev dd : Nat := 2329089562800
abbrev NN : Nat := 2 ^ 110
theorem dvd_dd {b : Nat} (h1 : 1 ≤ b) (h2 : b ≤ 30) : b ∣ dd := by
  have : ∀ c ∈ List.range 31, 1 ≤ c → dd % c = 0 := by decide
  exact Nat.dvd_of_mod_eq_zero (this b (List.mem_range.mpr (by omega)) h1)
theorem cd_divInt {a : Int} {b : Nat} (h1 : 1 ≤ b) (h2 : b ≤ 30) (ha : a.natAbs ≤ 2 ^ 68) : Cd dd NN (a /. (b : Int)) := by
  obtain ⟨c, hc⟩ := dvd_dd h1 h2
  refine ⟨a * c, ?_, ?_⟩
  · rw [hc, Rat.divInt_eq_div, Rat.intCast_mul, Rat.natCast_mul]
    have hb : ((b : Int) : Rat) ≠ 0 := by
      intro z
      have := Rat.intCast_eq_zero_iff.mp z
      omega
    have := Rat.div_mul_cancel (a := (a : Rat)) hb
    show (a : Rat) / ((b : Int) : Rat) * (((b : Int) : Rat) * ((c : Int) : Rat)) = (a : Rat) * ((c : Int) : Rat)
    rw [← Rat.mul_assoc, this]
  · rw [Int.natAbs_mul, Int.natAbs_natCast]
    have hc2 : c ≤ dd := by
      rw [hc]
      exact Nat.le_mul_of_pos_left c (by omega)
    exact Nat.le_trans (Nat.mul_le_mul ha hc2) (by decide)
/-- a number as drawn -/
structure NumB (q : Rat) : Prop where
  nz : q ≠ 0
  cd : Cd dd NN q
  den : q.den ≤ 30
  num : q.num.natAbs ≤ 2 ^ 67
theorem cd_own {a : Int} {b : Nat} (h1 : 1 ≤ b) : Cd b a.natAbs (a /. (b : Int)) := by
  have hb : ((b : Int) : Rat) ≠ 0 := by
    intro z
    have := Rat.intCast_eq_zero_iff.mp z
    omega
  refine ⟨a, ?_, Nat.le_refl _⟩
  rw [Rat.divInt_eq_div]
  exact Rat.div_mul_cancel (a := (a : Rat)) hb
def NumS (G : List Sl → FR) : Prop := ∀ (m : Nat) (T : D), TapeB m T → m ≤ 100000000000 → ∃ q T', G [.own T] = .ok (ratD q) [T'] ∧ NumB q ∧ TapeB (m + 5) T'
theorem numS (F : Nat → List Sl → FR) (W c c2 : Nat) (hd : DrawS (F c)) (hr : RatioS (F c2)) : NumS (runFn F W (f_l_number c c2)) := by
  intro m T h hm
  suffices hw : ∀ Q : D → List D → Prop, (∀ q T', NumB q ∧ TapeB (m + 5) T' → Q (ratD q) [T']) → (runFn F W (f_l_number c c2) [.own T]).wp Q by
    obtain ⟨d, o, e, q, T', rfl, rfl, r⟩ := FR.wp_elim (hw (fun d o => ∃ q T', d = ratD q ∧ o = [T'] ∧ NumB q ∧ TapeB (m + 5) T') fun q T' r => ⟨q, T', rfl, rfl, r⟩)
    exact ⟨q, T', e, r⟩
  intro Q hQ
  obtain ⟨r1, T1, e1, a1, b1, t1⟩ := hd _ T 40 h (by omega) (by decide) (by decide)
  obtain ⟨r2, T2, e2, a2, b2, t2⟩ := hd _ T1 7 t1 (by omega) (by decide) (by decide)
  obtain ⟨r3, T3, e3, a3, b3, t3⟩ := hd _ T2 30 t2 (by omega) (by decide) (by decide)
  obtain ⟨r4, T4, e4, a4, b4, t4⟩ := hd _ T3 7 t3 (by omega) (by decide) (by decide)
  obtain ⟨r5, T5, e5, a5, b5, t5⟩ := hd _ T4 2 t4 (by omega) (by decide) (by decide)
  have pw : powD (.int 10) (.int 20) = some (.int 100000000000000000000) := rfl
  obtain ⟨d1, v1, top, rfl, p1⟩ := atI_pick (P := fun d => ∃ v : Int, d = .int v ∧ 1 ≤ v ∧ v ≤ 100000000000000000039) (l := [PyData.int 1, .int 1, .int 2, .int 3, .int 5, .int (1 + r1), .int 100000000000000000039]) a2 b2 (by simp; omega)
  obtain ⟨d2, v2, bot, rfl, p2⟩ := atI_pick (P := fun d => ∃ v : Int, d = .int v ∧ 1 ≤ v ∧ v ≤ 30) (l := [PyData.int 1, .int 1, .int 1, .int 1, .int 2, .int 3, .int (1 + r3)]) a4 b4 (by simp; omega)
  obtain ⟨d3, v3, tt, rfl, p3⟩ := atI_pick (P := fun d => ∃ v : Int, d = .int v ∧ (v = top ∨ v = -top)) (l := [PyData.int top, .int (-top)]) a5 b5 (by simp)
  have hb : bot.natAbs = bot := by omega
  obtain ⟨bn, hbn⟩ : ∃ bn : Nat, bot = (bn : Int) := ⟨bot.toNat, by omega⟩
  have hta : tt.natAbs ≤ 2 ^ 68 := by omega
  have e6 := hr tt bot (by omega) (Nat.lt_of_le_of_lt hta (Nat.pow_lt_pow_right (by decide) (by decide))) (Nat.lt_of_le_of_lt (show bot.natAbs ≤ 2 ^ 68 by omega) (Nat.pow_lt_pow_right (by decide) (by decide)))
  refine wp_run rfl rfl ?_
  simp -implicitDefEqProofs [f_l_number, e1, e2, e3, e4, e5, v1, v2, v3, e6, pw, outsOf]
  have ow := (cd_own (a := tt) (b := bn) (by omega)).le (by omega)
  rw [← hbn] at ow
  refine hQ _ T5 ⟨⟨?_, ?_, by omega, by omega⟩, t5⟩
  · intro z
    have hb0 : ((bot : Int) : Rat) ≠ 0 := fun z => by
      have := Rat.intCast_eq_zero_iff.mp z
      omega
    have := Rat.div_mul_cancel (a := (tt : Rat)) hb0
    rw [← Rat.divInt_eq_div, z, Rat.zero_mul] at this
    have := Rat.intCast_eq_zero_iff.mp this.symm
    omega
  · rw [hbn]
    exact cd_divInt (by omega) (by omega) hta
theorem mem_tput {tb : List Tm} {k : List Int} {v : Rat} {t : Tm} (h : t ∈ tput tb k v) : t ∈ tb ∨ t = (k, v) := by
  induction tb with
  | nil => exact .inr (List.mem_singleton.mp h)
  | cons u tb ih =>
    obtain ⟨l, w⟩ := u
    unfold tput at h
    split at h
    · rename_i e
      rcases List.mem_cons.mp h with q | q
      · exact .inr (by rw [q, e])
      · exact .inl (List.mem_cons_of_mem _ q)
    · rcases List.mem_cons.mp h with q | q
      · exact .inl (by rw [q]; exact List.mem_cons_self)
      · rcases ih q with q | q
        · exact .inl (List.mem_cons_of_mem _ q)
        · exact .inr q
theorem tget_mem {tb : List Tm} {k : List Int} {v : Rat} (h : tget tb k = some v) : (k, v) ∈ tb := by
  induction tb with
  | nil => cases h
  | cons u tb ih =>
    obtain ⟨l, w⟩ := u
    unfold tget at h
    split at h
    · rename_i e
      rw [e, Option.some.inj h]; exact List.mem_cons_self
    · exact List.mem_cons_of_mem _ (ih h)
theorem gathT_mem {tb : List Tm} {t : Tm} (h : t ∈ gathT tb) : t ∈ tb := by
  obtain ⟨h1, h2⟩ := mem_gathT h
  have := tget_mem (g0_of h1)
  rw [← h2] at this
  exact this
section
variable {n x d N L : Nat} {p : List Tm}
theorem Pb.tput {k : List Int} {v : Rat} (h : Pb n x d N L p) (h1 : k.length = n) (h2 : ∀ y ∈ k, 0 ≤ y ∧ y ≤ x) (h3 : Cd d N v) : Pb n x d N (L + 1) (tput p k v) := by
  refine ⟨Nat.le_trans (len_tput p k v) (Nat.succ_le_succ h.len), fun t ht => ?_, fun t ht => ?_, fun t ht => ?_⟩ <;> rcases mem_tput ht with q | q
  · exact h.wid t q
  · rw [q]; exact h1
  · exact h.rng t q
  · rw [q]; exact h2
  · exact h.cd t q
  · rw [q]; exact h3
theorem Pb.gathT (h : Pb n x d N L p) : Pb n x d N L (gathT p) := ⟨Nat.le_trans (len_gathT p) h.len, fun t ht => h.wid t (gathT_mem ht), fun t ht => h.rng t (gathT_mem ht), fun t ht => h.cd t (gathT_mem ht)⟩
end
def PolyS (G : List Sl → FR) : Prop := ∀ (m : Nat) (T : D) (n many most : Nat), TapeB m T → m ≤ 10000000000 → 1 ≤ n → n ≤ 4 → many ≤ 20 → most ≤ 1000 → ∃ p T', G [.own T, .val (.int n), .val (.int many), .val (.int most)] = .ok (polyD p) [T'] ∧ Cn2 p ∧ Pb n most dd NN many p ∧ TapeB (m + 500) T'
theorem polyS (F : Nat → List Sl → FR) (W c c2 c3 : Nat) (hd : DrawS (F c)) (hu : NumS (F c2)) (hg : LGathS (F c3)) : PolyS (runFn F W (f_l_poly c c2 c3)) := by
  intro m T n many most h hm h1 h4 hmany hmost
  suffices hw : ∀ Q : D → List D → Prop, (∀ p T', Cn2 p ∧ Pb n most dd NN many p ∧ TapeB (m + 500) T' → Q (polyD p) [T']) → (runFn F W (f_l_poly c c2 c3) [.own T, .val (.int n), .val (.int many), .val (.int most)]).wp Q by
    obtain ⟨d, o, e, q, T', rfl, rfl, r⟩ := FR.wp_elim (hw (fun d o => ∃ q T', d = polyD q ∧ o = [T'] ∧ Cn2 q ∧ Pb n most dd NN many q ∧ TapeB (m + 500) T') fun q T' r => ⟨q, T', rfl, rfl, r⟩)
    exact ⟨q, T', e, r⟩
  intro Q hQ
  have n0 : (0 : Int) ≤ n := by omega
  have n1 : (n : Int) ≤ 1000 := by omega
  refine wp_run rfl rfl ?_
  obtain ⟨r1, T1, e1, a1, b1, t1⟩ := hd _ T (many + 1) h (by omega) (by omega) (by omega)
  simp -implicitDefEqProofs [f_l_poly, e1, rng1_ok a1 (show r1 ≤ 1000 by omega)]
  refine wp_forL (fun i μ => ∃ (T' : D) (tb : List Tm) (s5 s6 : Sl), μ = [.own T', .val (.int n), .val (.int many), .val (.int most), .own (.dict (tabD tb)), s5, s6, .no] ∧ TapeB (m + 1 + 12 * i) T' ∧ Nd tb ∧ Pb n most dd NN i tb ∧ FrS s5 ∧ FrS s6) _ _ ?_ ?_ ?_
  · exact ⟨T1, [], .no, .no, rfl, t1, List.nodup_nil, ⟨Nat.le_refl _, by simp, by simp, by simp⟩, rfl, rfl⟩
  · rintro i z μ Q' hz ⟨T2, tb, s5, s6, rfl, t2, nd, pb, f5, f6⟩ hk
    obtain ⟨hi, rfl⟩ := rangeD_get hz
    simp -implicitDefEqProofs [isLck_f f5, rng1_ok n0 n1]
    refine wp_compL (fun j acc μ => ∃ (T' : D) (ps : List Int), μ = [.own T', .val (.int n), .val (.int many), .val (.int most), .own (.dict (tabD tb)), .val (.int i), s6, .no] ∧ TapeB (m + 1 + 12 * i + j) T' ∧ acc = ps.map PyData.int ∧ ps.length = j ∧ ∀ p ∈ ps, 0 ≤ p ∧ p ≤ most) _ _ ?_ ?_ ?_
    · exact ⟨T2, [], rfl, t2, rfl, rfl, by simp⟩
    · rintro j d acc μ Q2 hd' ⟨T3, ps, rfl, t3, rfl, hl, hp⟩ hk2
      obtain ⟨hj, rfl⟩ := rangeD_get hd'
      obtain ⟨r4, T4, e4, a4, b4, t4⟩ := hd _ T3 (most + 1) t3 (by omega) (by omega) (by omega)
      simp -implicitDefEqProofs [e4]
      refine hk2 _ _ ⟨T4, ps ++ [r4], rfl, t4, by simp, by simp [hl], ?_⟩
      intro p hq
      rcases List.mem_append.mp hq with hq | hq
      · exact hp p hq
      · rw [List.mem_singleton] at hq; subst hq; omega
    · rintro acc μ ⟨T3, ps, rfl, t3, rfl, hl, hp⟩
      rw [rangeD_len] at hl t3
      obtain ⟨r4, T4, e4, a4, b4, t4⟩ := hd _ T3 3 t3 (by omega) (by decide) (by decide)
      obtain ⟨q, T5, e5, q2, t5⟩ := hu _ T4 t4 (by omega)
      have hl2 : tb.length ≤ 1000000 := by have := pb.len; omega
      have hn0 := mulD_nought (n := (n : Int)) (by omega) n1 0
      rw [Int.toNat_natCast] at hn0
      have fin : ∀ ks : List Int, ks.length = n → (∀ y ∈ ks, 0 ≤ y ∧ y ≤ most) → Q' .nx [.own T5, .val (.int n), .val (.int many), .val (.int most), .own (.dict (tabD (tput tb ks q))), .val (.int i), .val (tupI ks), .no] := fun ks hks hky =>
        hk _ ⟨T5, tput tb ks q, _, _, rfl, t5.mono (by omega), nd.tput ks q, pb.tput hks hky q2.cd, rfl, rfl⟩
      have f1 := fin ps hl hp
      have f2 := fin (List.replicate n 0) List.length_replicate (fun y hy => by rw [(List.mem_replicate.mp hy).2]; omega)
      have tp : PyData.tuple (ps.map .int) = tupI ps := rfl
      by_cases z : r4 = 0
      · simp -implicitDefEqProofs [isLck_f f6, e4, z, e5, tp, hn0, dsetO_tab hl2]
        exact f2
      · simp -implicitDefEqProofs [isLck_f f6, e4, z, e5, tp, dsetO_tab hl2]
        exact f1
  · rintro μ ⟨T2, tb, s5, s6, rfl, t2, nd, pb, f5, f6⟩
    rw [rangeD_len] at *
    have e := hg tb (pb.ne h1)
    simp -implicitDefEqProofs [e, outsOf]
    exact hQ _ _ ⟨cn_gathT nd, pb.gathT.mono (Nat.le_refl _) (Nat.le_refl _) (by omega), t2.mono (by omega)⟩
end Mn
set_option Elab.async false
set_option linter.all false
set_option maxRecDepth 100000
set_option autoImplicit false
set_option maxHeartbeats 1000000
set_option exponentiation.threshold 10000
namespace Mn
open PySem PySem.Spec Lb
/-! ## what repr shows of polynomials -/
/-- turns of a while -/
@[irreducible] def Wb : Nat := 2 ^ 9000
theorem Wb_big : 2 ^ 9000 ≤ Wb := by unfold Wb; exact Nat.le_refl _
theorem Wb_64 : 64 < Wb := Nat.lt_of_lt_of_le (by decide) Wb_big
theorem shw_rat {d N : Nat} {q : Rat} (h : Cd d N q) (hd : 0 < d) (h1 : d < 2 ^ 1900) (h2 : N < 2 ^ 1900) : Shw 3809 1 (ratD q) := by
  obtain ⟨a, b⟩ := h.le hd
  refine shw_tuple (n := 2) (L := 1901) (k := 0) (Nat.le_refl 2) fun x hx => ?_
  simp at hx
  rcases hx with rfl | rfl
  · exact shw_int (b := 1900) (by decide) (by decide) (Nat.lt_of_le_of_lt b h2)
  · exact shw_int (b := 1900) (by decide) (by decide) (by rw [Int.natAbs_natCast]; exact Nat.lt_of_le_of_lt a h1)
theorem shw_poly {n x d N L : Nat} {p : List Tm} (h : Pb n x d N L p) (hn : n ≤ 4) (hx : x < 2 ^ 1900) (hd : 0 < d) (h1 : d < 2 ^ 1900) (h2 : N < 2 ^ 1900) (hL : L ≤ 100) : Shw 1523903 3 (polyD p) := by
  refine shw_tuple (n := 100) (L := 15237) (k := 2) (by rw [List.length_map]; exact Nat.le_trans h.len hL) fun y hy => ?_
  obtain ⟨t, ht, rfl⟩ := List.mem_map.mp hy
  refine shw_tuple (n := 2) (L := 7615) (k := 1) (Nat.le_refl 2) fun z hz => ?_
  simp at hz
  rcases hz with rfl | rfl
  · refine shw_tupI (n := 4) (b := 1900) (by rw [h.wid t ht]; exact hn) (by decide) (by decide) fun v hv => ?_
    have := h.rng t ht v hv
    exact Nat.lt_of_le_of_lt (show v.natAbs ≤ x by omega) hx
  · exact (shw_rat (h.cd t ht) hd h1 h2).mono (by decide) (Nat.le_refl _)
theorem shw_nil : Shw 1523903 3 (polyD []) := shw_poly (n := 0) (x := 0) (d := 1) (N := 0) (L := 0) ⟨Nat.le_refl _, by simp, by simp, by simp⟩ (by decide) (Nat.two_pow_pos _) (by decide) (Nat.one_lt_two_pow (by decide)) (Nat.two_pow_pos _) (by decide)
theorem repr_list {ds : List D} (hl : ds.length ≤ 10) (h : ∀ d ∈ ds, Shw 1523903 3 d) : ∃ s, reprD (.list ds) = some (.str s) := ⟨_, reprD_ok (shw_list (n := 10) hl h) (by decide) (by decide)⟩
theorem repr_tuple {ds : List D} (hl : ds.length ≤ 10) (h : ∀ d ∈ ds, Shw 1523903 3 d) : ∃ s, reprD (.tuple ds) = some (.str s) := ⟨_, reprD_ok (shw_tuple (n := 10) hl h) (by decide) (by decide)⟩
theorem repr_poly {d : D} (h : Shw 1523903 3 d) : ∃ s, reprD d = some (.str s) := ⟨_, reprD_ok h (by decide) (by decide)⟩
theorem tsOk_nil : TsOk [] := ⟨by decide, fun _ ht => (List.not_mem_nil ht).elim, fun _ ht => (List.not_mem_nil ht).elim, fun i k => by rw [List.take_nil]; exact RB.zero⟩
/-! a tuple of ints that a module holds -/
theorem dvs_ints {K : PySem.W.Frag} {H : L2.Hp} {L : Ads} : ∀ is : List Int, Dvs K H L (is.map .int) (is.map L2.V.int)
  | [] => .nil
  | i :: is => .cons (.int i) (dvs_ints is)
theorem glob_tup {K : PySem.W.Frag} {x : Str} {a : Addr} {its : Array Value} {n : Nat} {is : List Int} (e1 : PySem.W.nsIn K mainGlobals x = some (some (.ref a))) (e2 : K.lookup a = some { cls := .type "tuple", data := .seq its n }) (e3 : L2.Vals (is.map L2.V.int) its.toList) (e4 : its.size ≤ sizeLine) :
    ∃ v u, PySem.W.nsIn K mainGlobals x = some (some u) ∧ L2.RelV v u ∧ ∀ H L, Dv K H L (.tuple (is.map .int)) v :=
  ⟨.ref a, .ref a, e1, rfl, fun H L => .tupK ⟨its, n, e2, e4, e3⟩ (dvs_ints is)⟩
/-! every second term -/
theorem evens_map {α β : Type} (f : α → β) : ∀ l : List α, evens (l.map f) = (evens l).map f
  | [] => rfl
  | [_] => rfl
  | x :: y :: l => by show f x :: evens (l.map f) = f x :: (evens l).map f; rw [evens_map f l]
theorem mem_evens {α : Type} {a : α} : ∀ {l : List α}, a ∈ evens l → a ∈ l
  | [], h => h
  | [_], h => h
  | x :: y :: l, h => by
    rcases List.mem_cons.mp h with q | q
    · rw [q]; exact List.mem_cons_self
    · exact List.mem_cons_of_mem _ (List.mem_cons_of_mem _ (mem_evens q))
theorem len_evens {α : Type} : ∀ l : List α, (evens l).length ≤ l.length
  | [] => Nat.le_refl _
  | [_] => Nat.le_refl _
  | x :: y :: l => by
    show (evens l).length + 1 ≤ l.length + 1 + 1
    have := len_evens l
    omega
theorem sl2_poly (p : List Tm) : slStD 2 (polyD p) = some (polyD (evens p)) := by
  show some (PyData.tuple (evens (p.map termD))) = _
  rw [evens_map]; rfl
theorem Pb.evens {n x d N L : Nat} {p : List Tm} (h : Pb n x d N L p) : Pb n x d N L (evens p) := ⟨Nat.le_trans (len_evens p) h.len, fun t ht => h.wid t (mem_evens ht), fun t ht => h.rng t (mem_evens ht), fun t ht => h.cd t (mem_evens ht)⟩
theorem Lf_neg (φ : List Int → Rat) : ∀ a : List Tm, Lf φ (negP a) = -Lf φ a
  | [] => by show (0 : Rat) = -0; grind
  | t :: a => by
    show -t.2 * φ t.1 + Lf φ (negP a) = -(t.2 * φ t.1 + Lf φ a)
    rw [Lf_neg φ a]; grind
theorem gath_self_neg (a : List Tm) : gath (a ++ negP a) = [] := by
  rw [← gath_nil]
  refine gath_eq fun k => ?_
  show Lf _ _ = 0
  rw [Lf_append, Lf_neg]; grind
end Mn
set_option Elab.async false
set_option linter.all false
set_option maxRecDepth 100000
set_option autoImplicit false
set_option maxHeartbeats 1000000
set_option exponentiation.threshold 10000
namespace Mn
open PySem PySem.Spec Lb
/-! ## powers of a number, letters put in -/
def rpw (q : Rat) : Nat → Rat
  | 0 => 1
  | k + 1 => rpw q k * q
@[simp] theorem one_rat : PyData.tuple [.int 1, .int 1] = ratD 1 := rfl
theorem Cd.ofRat (q : Rat) : Cd q.den q.num.natAbs q := ⟨q.num, (num_eq q).symm, Nat.le_refl _⟩
theorem Cd.up {d N : Nat} {a : Rat} (h : Cd d N a) (c : Nat) : Cd (d * c) (N * c) a := by
  obtain ⟨m, h1, h2⟩ := h
  refine ⟨m * c, ?_, by rw [Int.natAbs_mul, Int.natAbs_natCast]; exact Nat.mul_le_mul_right _ h2⟩
  rw [Rat.intCast_mul, ← h1, Rat.natCast_mul]
  show a * ((d : Rat) * (c : Rat)) = a * (d : Rat) * (c : Rat)
  grind
theorem Cd.rpw {d N : Nat} {q : Rat} (h : Cd d N q) : ∀ k, Cd (d ^ k) (N ^ k) (rpw q k)
  | 0 => ⟨1, by show (1 : Rat) * ((1 : Nat) : Rat) = _; rw [Rat.one_mul]; rfl, Nat.le_refl _⟩
  | k + 1 => by
    rw [Nat.pow_succ, Nat.pow_succ]
    exact (Cd.rpw h k).mul h
theorem Cd.rpw_to {d N : Nat} {q : Rat} (h : Cd d N q) (hd : d ≤ N) {k K : Nat} (hk : k ≤ K) : Cd (d ^ K) (N ^ K) (Mn.rpw q k) := by
  have := (h.rpw k).up (d ^ (K - k))
  rw [← Nat.pow_add, show k + (K - k) = K by omega] at this
  refine this.mono ?_
  have e : N ^ K = N ^ k * N ^ (K - k) := by rw [← Nat.pow_add, show k + (K - k) = K by omega]
  rw [e]
  exact Nat.mul_le_mul_left _ (Nat.pow_le_pow_left hd _)
theorem RB.one : RB 1 := ⟨Nat.one_lt_two_pow (by decide), Nat.one_lt_two_pow (by decide)⟩
def ToPowS (G : List Sl → FR) : Prop := ∀ (q : Rat) (k : Nat), k ≤ 1000 → RB q → (∀ i, i ≤ k → RB (rpw q i)) → G [.val (ratD q), .val (.int k)] = .ok (ratD (rpw q k)) []
theorem toPowS (F : Nat → List Sl → FR) (W c : Nat) (ht : Rat2 (F c) (· * ·)) : ToPowS (runFn F W (f_to_power c)) := by
  intro q k hk hq hr
  suffices hw : (runFn F W (f_to_power c) [.val (ratD q), .val (.int k)]).wp fun x o => x = ratD (rpw q k) ∧ o = [] by
    obtain ⟨_, _, e, rfl, rfl⟩ := FR.wp_elim hw
    exact e
  refine wp_run rfl rfl ?_
  simp -implicitDefEqProofs [f_to_power, rng1_ok (show (0 : Int) ≤ k by omega) (show (k : Int) ≤ 1000 by omega)]
  refine wp_forL (fun i μ => ∃ s : Sl, μ = [.val (ratD q), .val (.int k), .val (ratD (rpw q i)), s] ∧ FrS s) _ _ ⟨.no, rfl, rfl⟩ ?_ ?_
  · rintro i d μ Q' hd ⟨s, rfl, f⟩ hk2
    obtain ⟨hi, rfl⟩ := rangeD_get hd
    have e := ht (rpw q i) q (hr i (by omega)) hq
    have e : F c [.val (ratD (rpw q i)), .val (ratD q)] = .ok (ratD (rpw q (i + 1))) [] := e
    simp -implicitDefEqProofs [isLck_f f, e]
    exact hk2 _ ⟨_, rfl, rfl⟩
  · rintro μ ⟨s, rfl, f⟩
    rw [rangeD_len]
    simp -implicitDefEqProofs [outsOf]
/-- a letter put in -/
def putT (p : List Tm) (j : Nat) (q : Rat) : List Tm := p.map fun t => (t.1.set j 0, t.2 * rpw q (t.1.getD j 0).toNat)
theorem sIx_at {n d : Nat} {v : Int} (h : 0 ≤ v) : HT.sIx n d (some v) = min v.toNat n := by
  show (if v < 0 then (v + (n : Int)).toNat else min v.toNat n) = _
  rw [if_neg (by omega)]
theorem sl_to {xs : List Int} {v : Int} (h : 0 ≤ v) : slD (tupI xs) none (some v) = some (tupI (xs.take v.toNat)) := by
  show some (PyData.tuple (cutD _ _ _)) = _
  unfold cutD
  rw [HT.sIx_none, sIx_at h, List.drop_zero, Nat.sub_zero, List.length_map, tupI, List.map_take]
  congr 2
  rw [List.take_eq_take_iff]
  simp
theorem sl_from {xs : List Int} {v : Int} (h : 0 ≤ v) : slD (tupI xs) (some v) none = some (tupI (xs.drop v.toNat)) := by
  show some (PyData.tuple (cutD _ _ _)) = _
  unfold cutD
  rw [HT.sIx_none, sIx_at h, List.length_map, tupI, List.map_drop]
  congr 2
  rw [List.take_of_length_le (by rw [List.length_drop, List.length_map]; exact Nat.le_refl _)]
  by_cases q : v.toNat ≤ xs.length
  · rw [Nat.min_eq_left q]
  · rw [Nat.min_eq_right (by omega), List.drop_of_length_le (by simp), List.drop_of_length_le (by simp; omega)]
theorem add_tup {xs ys : List Int} (h : xs.length + ys.length ≤ 1000000) : addD (tupI xs) (tupI ys) = some (tupI (xs ++ ys)) := by
  show (if sizeOkN ((xs.map PyData.int).length + (ys.map PyData.int).length) then _ else _) = _
  refine (if_pos (decide_eq_true ?_)).trans ?_
  · simp; omega
  · rw [tupI, List.map_append]
theorem cut_set {xs : List Int} {j : Nat} (h : j < xs.length) : xs.take j ++ [0] ++ xs.drop (j + 1) = xs.set j 0 := by
  rw [List.set_eq_take_append_cons_drop, if_pos h, List.append_assoc]; rfl
theorem ix_tupI {xs : List Int} {j : Nat} (h : j < xs.length) : ixD (tupI xs) (.int j) = some (.int (xs.getD j 0)) := atI_ints h
structure PutOk (n x j : Nat) (p : List Tm) (q : Rat) : Prop where
  wid : ∀ t ∈ p, t.1.length = n
  rng : ∀ t ∈ p, ∀ y ∈ t.1, 0 ≤ y ∧ y ≤ x
  hn : n ≤ 1000
  hj : j < n
  hx : x ≤ 1000
  rq : RB q
  rp : ∀ i, i ≤ x → RB (rpw q i)
  rt : ∀ t ∈ p, RB t.2
  rtp : ∀ t ∈ p, ∀ i, i ≤ x → RB (t.2 * rpw q i)
  ts : TsOk (putT p j q)
def PutS (G : List Sl → FR) : Prop := ∀ (n x j : Nat) (p : List Tm) (q : Rat), PutOk n x j p q → G [.val (polyD p), .val (.int j), .val (ratD q)] = .ok (polyD (gath (putT p j q))) []
def appO (i : Nat) (v : D) (μ1 : Mu) (o : Option D) : Option Mu := match o with
  | some (.list xs) => if sizeOkN (xs.length + 1) then some (μ1.set i (.own (.list (xs ++ [v])))) else none
  | _ => none
@[simp] theorem appE_at (i : Nat) (v : D) (μ : Mu) : appE i v μ = appO i v μ (owned μ i) := rfl
theorem appO_ok {i : Nat} {v : D} {μ : Mu} {xs : List D} (h : xs.length ≤ 1000000) : appO i v μ (some (.list xs)) = some (μ.set i (.own (.list (xs ++ [v])))) := if_pos (decide_eq_true (by omega))
theorem putS (F : Nat → List Sl → FR) (W c c2 c3 : Nat) (ht : Rat2 (F c) (· * ·)) (hp : ToPowS (F c2)) (hg : GathS (F c3)) : PutS (runFn F W (f_put_in c c2 c3)) := by
  intro n x j p q h
  suffices hw : (runFn F W (f_put_in c c2 c3) [.val (polyD p), .val (.int j), .val (ratD q)]).wp fun x o => x = polyD (gath (putT p j q)) ∧ o = [] by
    obtain ⟨_, _, e, rfl, rfl⟩ := FR.wp_elim hw
    exact e
  refine wp_run rfl rfl ?_
  simp -implicitDefEqProofs [f_put_in]
  refine wp_forL (fun i μ => ∃ s4 s5 s6 : Sl, μ = [.val (polyD p), .val (.int j), .val (ratD q), .own (.list ((putT (p.take i) j q).map termD)), s4, s5, s6] ∧ FrS s4 ∧ FrS s5 ∧ FrS s6) _ _ ?_ ?_ ?_
  · exact ⟨.no, .no, .no, rfl, rfl, rfl, rfl⟩
  · rintro i d μ Q' hd ⟨s4, s5, s6, rfl, f4, f5, f6⟩ hk
    rw [List.getElem?_map] at hd
    obtain ⟨t, ht', rfl⟩ := Option.map_eq_some_iff.mp hd
    have hm : t ∈ p := List.mem_of_getElem? ht'
    have hjl : j < t.1.length := by rw [h.wid t hm]; exact h.hj
    have hl : ((putT (p.take i) j q).map termD).length ≤ 1000000 := by
      have := h.ts.len
      unfold putT at this ⊢
      rw [List.length_map] at this
      rw [List.length_map, List.length_map, List.length_take]; omega
    have hk := hk [.val (polyD p), .val (.int j), .val (ratD q), .own (.list ((putT (p.take (i + 1)) j q).map termD)), .val (tupI t.1), .val (ratD t.2), .val (tupI (t.1.set j 0))] ⟨_, _, _, rfl, rfl, rfl, rfl⟩
    have e2 : putT (p.take (i + 1)) j q = putT (p.take i) j q ++ [(t.1.set j 0, t.2 * rpw q (t.1.getD j 0).toNat)] := by
      rw [take_snoc ht']; unfold putT; rw [List.map_append]; rfl
    rw [e2, List.map_append] at hk
    generalize (putT (p.take i) j q).map termD = L at *
    have hy : 0 ≤ t.1.getD j 0 ∧ t.1.getD j 0 ≤ x := by
      have : t.1.getD j 0 = t.1[j] := by simp [List.getD, hjl]
      rw [this]; exact h.rng t hm _ (List.getElem_mem hjl)
    have ei := ix_tupI hjl
    generalize t.1.getD j 0 = y at *
    obtain ⟨yn, rfl⟩ : ∃ yn : Nat, y = yn := ⟨y.toNat, by omega⟩
    rw [Int.toNat_natCast, show List.map termD [(t.1.set j 0, t.2 * rpw q yn)] = [.tuple [tupI (t.1.set j 0), ratD (t.2 * rpw q yn)]] from rfl] at hk
    have ep := hp q yn (by have := h.hx; omega) h.rq (fun i hi => h.rp i (by omega))
    have et := ht t.2 (rpw q yn) (h.rt t hm) (h.rp yn (by omega))
    have a1 : slD (tupI t.1) none (some (j : Int)) = some (tupI (t.1.take j)) := sl_to (by omega)
    have a2 : slD (tupI t.1) (some ((j : Int) + 1)) none = some (tupI (t.1.drop (j + 1))) := sl_from (show (0 : Int) ≤ (j : Int) + 1 by omega)
    have a3 : addD (tupI (t.1.take j)) (.tuple [.int 0]) = some (tupI (t.1.take j ++ [0])) := add_tup (ys := [0]) (by rw [List.length_take, h.wid t hm]; have := h.hn; simp; omega)
    have a4 : addD (tupI (t.1.take j ++ [0])) (tupI (t.1.drop (j + 1))) = some (tupI (t.1.set j 0)) := by
      rw [add_tup (by rw [List.length_append, List.length_take, List.length_drop, h.wid t hm]; have := h.hn; simp; omega), cut_set hjl]
    generalize tupI (t.1.set j 0) = LF at *
    generalize tupI (t.1.take j ++ [0]) = LG at *
    simp -implicitDefEqProofs [isLck_f f4, isLck_f f5, isLck_f f6, a1, a2, a3, a4, ei, ep, et, appO_ok hl]
    exact hk
  · rintro μ ⟨s4, s5, s6, rfl, f4, f5, f6⟩
    rw [List.length_map, List.take_length]
    have e := hg (.list ((putT p j q).map termD)) (putT p j q) rfl h.ts
    simp -implicitDefEqProofs [e, outsOf]
/-! the law's own putting in -/
theorem set_places (xs : List Int) (j : Nat) : ((List.range xs.length).map fun i => if i = j then 0 else xs.getD i 0) = xs.set j 0 := by
  apply List.ext_getElem?
  intro i
  rw [List.getElem?_map, List.getElem?_set]
  by_cases hi : i < xs.length
  · rw [List.getElem?_range hi]
    by_cases e : j = i
    · subst e; simp [hi]
    · rw [if_neg e]
      have : ¬ i = j := fun z => e z.symm
      simp [this, List.getD, hi]
  · rw [List.getElem?_eq_none (by simpa using hi)]
    by_cases e : j = i
    · subst e; simp [hi]
    · rw [if_neg e, List.getElem?_eq_none (by omega)]; rfl
theorem lputS (F : Nat → List Sl → FR) (W c c2 c3 : Nat) (ht : Rat2 (F c) (· * ·)) (ha : Rat2 (F c2) (· + ·)) (hg : LGathS (F c3)) : PutS (runFn F W (f_l_put c c2 c3)) := by
  intro n x j p q h
  have hts := h.ts
  suffices hw : (runFn F W (f_l_put c c2 c3) [.val (polyD p), .val (.int j), .val (ratD q)]).wp fun x o => x = polyD (gath (putT p j q)) ∧ o = [] by
    obtain ⟨_, _, e, rfl, rfl⟩ := FR.wp_elim hw
    exact e
  refine wp_run rfl rfl ?_
  simp -implicitDefEqProofs [f_l_put]
  refine wp_forL (fun i μ => ∃ s4 s5 s6 s7 : Sl, μ = [.val (polyD p), .val (.int j), .val (ratD q), .own (.dict (tabD (accT [] (putT (p.take i) j q)))), s4, s5, s6, s7, .no] ∧ FrS s4 ∧ FrS s5 ∧ FrS s6 ∧ FrS s7) _ _ ?_ ?_ ?_
  · exact ⟨.no, .no, .no, .no, rfl, rfl, rfl, rfl, rfl⟩
  · rintro i d μ Q' hd ⟨s4, s5, s6, s7, rfl, f4, f5, f6, f7⟩ hk
    rw [List.getElem?_map] at hd
    obtain ⟨t, ht', rfl⟩ := Option.map_eq_some_iff.mp hd
    have hm : t ∈ p := List.mem_of_getElem? ht'
    have hjl : j < t.1.length := by rw [h.wid t hm]; exact h.hj
    have hk := fun s6 (f6 : FrS s6) => hk [.val (polyD p), .val (.int j), .val (ratD q), .own (.dict (tabD (accT [] (putT (p.take (i + 1)) j q)))), .val (tupI t.1), .val (ratD (t.2 * rpw q (t.1.getD j 0).toNat)), s6, .val (tupI (t.1.set j 0)), .no] ⟨_, _, _, _, rfl, rfl, rfl, f6, rfl⟩
    have e2 : putT (p.take (i + 1)) j q = putT (p.take i) j q ++ [(t.1.set j 0, t.2 * rpw q (t.1.getD j 0).toNat)] := by
      rw [take_snoc ht']; unfold putT; rw [List.map_append]; rfl
    have e3 : putT (p.take i) j q = (putT p j q).take i := by unfold putT; rw [List.map_take]
    have hs := hts.sums i (t.1.set j 0)
    rw [← e3, ← g0_acc] at hs
    have hl : (accT [] (putT (p.take i) j q)).length ≤ 1000000 := by
      have h1 := len_accT (putT (p.take i) j q) []
      have h2 := hts.len
      rw [e3, List.length_take] at h1
      rw [e3]
      simp at h1
      omega
    rw [e2] at hk
    simp only [accT_snoc] at hk
    generalize accT [] (putT (p.take i) j q) = tb at *
    have hy : 0 ≤ t.1.getD j 0 ∧ t.1.getD j 0 ≤ x := by
      have : t.1.getD j 0 = t.1[j] := by simp [List.getD, hjl]
      rw [this]; exact h.rng t hm _ (List.getElem_mem hjl)
    have ei := ix_tupI hjl
    have hrg : ∀ μ, rng1D (.int (t.1.length : Int)) μ = .ok ((List.range t.1.length).map fun (j : Nat) => PyData.int (j : Int)) μ := fun μ => by
      rw [rng1_ok (by omega) (by rw [h.wid t hm]; have := h.hn; omega), Int.toNat_natCast, rangeD_map]
    have hlen : lenD (tupI t.1) = some (.int t.1.length) := by show some (PyData.int ((t.1.map PyData.int).length : Int)) = _; rw [List.length_map]
    have hcomp : ∀ A B : Sl, ∀ s7, compL (turnR [8] false (ev F (.ife (.cmp .eq (.e (.var 8)) (.e (.var 1))) (.int 0) (.ix (.e (.var 4)) (.var 8)))) none) ((List.range t.1.length).map fun (j : Nat) => PyData.int (j : Int)) [] [.val (polyD p), .val (.int j), .val (ratD q), .own (.dict (tabD tb)), .val (tupI t.1), A, B, s7, .no] = .ok ((t.1.set j 0).map .int) [.val (polyD p), .val (.int j), .val (ratD q), .own (.dict (tabD tb)), .val (tupI t.1), A, B, s7, .no] := fun A B s7 => by
      have := compL_on (f := turnR [8] false (ev F (.ife (.cmp .eq (.e (.var 8)) (.e (.var 1))) (.int 0) (.ix (.e (.var 4)) (.var 8)))) none) (μ := [.val (polyD p), .val (.int j), .val (ratD q), .own (.dict (tabD tb)), .val (tupI t.1), A, B, s7, .no]) (fun (i : Nat) => PyData.int (i : Int)) (fun i => PyData.int (if i = j then 0 else t.1.getD i 0)) (List.range t.1.length) [] fun i hi => by
        have hi := List.mem_range.mp hi
        have ei := ix_tupI hi
        generalize t.1.getD i 0 = z at *
        by_cases e : i = j
        · subst e; simp -implicitDefEqProofs
        · have e' : ¬ ((i : Int) = (j : Int)) := by omega
          simp -implicitDefEqProofs [e, e', ei]
      rw [this, map_ints _ fun i => if i = j then 0 else t.1.getD i 0, set_places]; rfl
    generalize t.1.getD j 0 = y at *
    obtain ⟨yn, rfl⟩ : ∃ yn : Nat, y = yn := ⟨y.toNat, by omega⟩
    rw [Int.toNat_natCast] at hk
    have hx := h.hx
    simp -implicitDefEqProofs [isLck_f f4, isLck_f f5, ei, rng1_ok (show (0 : Int) ≤ yn by omega) (show (yn : Int) ≤ 1000 by omega)]
    refine wp_forL (fun i μ => ∃ s6 : Sl, μ = [.val (polyD p), .val (.int j), .val (ratD q), .own (.dict (tabD tb)), .val (tupI t.1), .val (ratD (t.2 * rpw q i)), s6, s7, .no] ∧ FrS s6) _ _ ⟨s6, by show _ = [_, _, _, _, _, Sl.val (ratD (t.2 * 1)), _, _, _]; rw [Rat.mul_one], f6⟩ ?_ ?_
    · rintro i d μ Q2 hd ⟨s6, rfl, f6⟩ hk2
      obtain ⟨hi, rfl⟩ := rangeD_get hd
      have e := ht (t.2 * rpw q i) q (h.rtp t hm i (by omega)) h.rq
      have e : F c [.val (ratD (t.2 * rpw q i)), .val (ratD q)] = .ok (ratD (t.2 * rpw q (i + 1))) [] := e.trans (by show FR.ok (ratD (t.2 * rpw q i * q)) [] = _; rw [Rat.mul_assoc]; rfl)
      simp -implicitDefEqProofs [isLck_f f6, e]
      exact hk2 _ ⟨_, rfl, rfl⟩
    · rintro μ ⟨s6, rfl, f6⟩
      rw [rangeD_len]
      have hk := hk s6 f6
      have e := ha (g0 tb (t.1.set j 0)) (t.2 * rpw q yn) hs (h.rtp t hm yn (by omega))
      generalize t.1.set j 0 = KS at *
      have tp : PyData.tuple (KS.map .int) = tupI KS := rfl
      simp -implicitDefEqProofs [hlen, hrg, hcomp, tp, isLck_f f7, -getD2_at, getD2_tab, e, dsetO_tab hl]
      exact hk
  · rintro μ ⟨s4, s5, s6, s7, rfl, f4, f5, f6, f7⟩
    rw [List.length_map, List.take_length]
    have hn : ∀ t ∈ accT [] (putT p j q), t.1 ≠ [] := fun t ht => by
      rcases keys_accT (List.mem_map_of_mem ht) with q | q
      · cases q
      · obtain ⟨u, hu, hq⟩ := List.mem_map.mp q
        rw [← hq]; exact hts.ne u hu
    have e := hg _ hn
    have e : F c3 [.val (.dict (tabD (accT [] (putT p j q))))] = .ok (polyD (gath (putT p j q))) [] := e
    simp -implicitDefEqProofs [e, outsOf]
end Mn
set_option Elab.async false
set_option linter.all false
set_option maxRecDepth 100000
set_option autoImplicit false
set_option maxHeartbeats 1000000
set_option exponentiation.threshold 10000
namespace Mn
open PySem PySem.Spec Lb
/-- a small number -/
structure SmB (q : Rat) : Prop where
  den : q.den ≤ 30
  num : q.num.natAbs ≤ 2 ^ 67
theorem NumB.sm {q : Rat} (h : NumB q) : SmB q := ⟨h.den, h.num⟩
section
variable {n : Nat} {p : List Tm} {q : Rat} {j : Nat}
theorem SmB.pow (h : SmB q) {i : Nat} (hi : i ≤ 20) : Cd (q.den ^ 20) ((2 ^ 67) ^ 20) (rpw q i) :=
  Cd.rpw_to ((Cd.ofRat q).mono h.num) (Nat.le_trans h.den (by decide)) hi
theorem SmB.den20 (h : SmB q) : 0 < q.den ^ 20 ∧ q.den ^ 20 ≤ 30 ^ 20 := ⟨Nat.pow_pos (Nat.pos_of_ne_zero q.den_nz), Nat.pow_le_pow_left h.den 20⟩
theorem put_pb (pb : Pb n 20 dd NN 6 p) (h : SmB q) (hj : j < n) : Pb n 20 (dd * q.den ^ 20) (NN * (2 ^ 67) ^ 20) 6 (putT p j q) := by
  unfold putT
  refine ⟨by rw [List.length_map]; exact pb.len, fun t ht => ?_, fun t ht => ?_, fun t ht => ?_⟩ <;> obtain ⟨u, hu, rfl⟩ := List.mem_map.mp ht
  · show (u.1.set j 0).length = n
    rw [List.length_set]; exact pb.wid u hu
  · intro y hy
    rcases List.mem_or_eq_of_mem_set hy with q | q
    · exact pb.rng u hu y q
    · rw [q]; exact ⟨Int.le_refl _, by decide⟩
  · have hjl : j < u.1.length := by rw [pb.wid u hu]; exact hj
    have : u.1.getD j 0 = u.1[j] := by simp [List.getD, hjl]
    have hy := pb.rng u hu _ (List.getElem_mem hjl)
    rw [← this] at hy
    exact (pb.cd u hu).mul (h.pow (by omega))
theorem put_ok (pb : Pb n 20 dd NN 6 p) (n1 : 1 ≤ n) (n4 : n ≤ 4) (h : SmB q) (hj : j < n) : PutOk n 20 j p q ∧ Shw 1523903 3 (polyD (gath (putT p j q))) := by
  obtain ⟨d0, d1⟩ := h.den20
  have b := put_pb pb h hj
  have k0 : 0 < dd := by decide
  have l1 : dd * q.den ^ 20 ≤ dd * 30 ^ 20 := Nat.mul_le_mul_left _ d1
  have l2 : dd * 30 ^ 20 < 2 ^ 1900 := by decide +kernel
  have l3 : (2 : Nat) ^ 1900 < 2 ^ 4000 := Nat.pow_lt_pow_right (by decide) (by decide)
  have l4 : 30 ^ 20 < 2 ^ 1900 := by decide +kernel
  have e0 : 0 < dd * q.den ^ 20 := Nat.mul_pos k0 d0
  have e1 := Nat.lt_of_le_of_lt l1 l2
  refine ⟨⟨pb.wid, pb.rng, by omega, hj, by decide, ?_, fun i hi => ?_, pb.rb k0 (by decide +kernel) (by decide +kernel), fun t ht i hi => ?_, ?_⟩, ?_⟩
  · exact ⟨Nat.lt_of_le_of_lt h.num (Nat.pow_lt_pow_right (by decide) (by decide)), Nat.lt_of_le_of_lt h.den (Nat.lt_of_lt_of_le (show 30 < 2 ^ 5 by decide) (Nat.pow_le_pow_right (by decide) (by decide)))⟩
  · exact (h.pow hi).rb d0 (Nat.lt_trans (Nat.lt_of_le_of_lt d1 l4) l3) (by decide +kernel)
  · exact ((pb.cd t ht).mul (h.pow hi)).rb e0 (Nat.lt_trans e1 l3) (by decide +kernel)
  · exact b.ts n1 e0 (Nat.lt_trans e1 l3) (by decide) (by decide +kernel)
  · exact shw_poly b.gath n4 (Nat.lt_of_lt_of_le (show 20 < 2 ^ 5 by decide) (Nat.pow_le_pow_right (by decide) (by decide))) e0 e1 (by decide +kernel) (by decide)
end
/-! one letter more, one less -/
def widT (p : List Tm) : List Tm := p.map fun t => (t.1 ++ [0], t.2)
theorem widS (F : Nat → List Sl → FR) (W : Nat) (p : List Tm) (h : ∀ t ∈ p, t.1.length ≤ 1000) : runFn F W f_widened [.val (polyD p)] = .ok (polyD (widT p)) [] := by
  rw [runFn_at rfl rfl]
  have e : compL (turnR [1, 2] true (ev F (.tup (.cons (.bin .add (.var 1) (.tup (.cons (.int 0) .nil))) (.cons (.var 2) .nil)))) none) (p.map termD) [] [.val (polyD p), .no, .no] = .ok ([] ++ p.map fun t => termD (t.1 ++ [0], t.2)) [.val (polyD p), .no, .no] := by
    refine compL_on _ _ _ _ fun t ht => ?_
    have a : addD (tupI t.1) (.tuple [.int 0]) = some (tupI (t.1 ++ [0])) := add_tup (ys := [0]) (by have := h t ht; simp; omega)
    have e2 : termD (t.1 ++ [0], t.2) = .tuple [tupI (t.1 ++ [0]), ratD t.2] := rfl
    rw [e2]
    generalize tupI (t.1 ++ [0]) = X at *
    simp -implicitDefEqProofs [a]
  rw [show ([] ++ p.map fun t => termD (t.1 ++ [0], t.2)) = (widT p).map termD by unfold widT; rw [List.map_map]; rfl] at e
  unfold polyD at *
  simp -implicitDefEqProofs [f_widened, e, outsOf]
theorem sl_but (xs : List Int) (y : Int) : slD (tupI (xs ++ [y])) none (some (-1)) = some (tupI xs) := by
  show some (PyData.tuple (cutD _ _ _)) = _
  unfold cutD
  have : HT.sIx ((xs ++ [y]).map PyData.int).length ((xs ++ [y]).map PyData.int).length (some (-1)) = xs.length := by
    show (if (-1 : Int) < 0 then ((-1 : Int) + (((xs ++ [y]).map PyData.int).length : Int)).toNat else min ((-1 : Int)).toNat ((xs ++ [y]).map PyData.int).length) = _
    rw [if_pos (by decide), List.length_map, List.length_append]
    simp
    omega
  rw [HT.sIx_none, this, List.drop_zero, Nat.sub_zero, List.map_append, List.take_append_of_le_length (by simp), List.take_of_length_le (by simp)]; rfl
theorem narS (F : Nat → List Sl → FR) (W : Nat) (p : List Tm) : runFn F W f_narrowed [.val (polyD (widT p))] = .ok (polyD p) [] := by
  rw [runFn_at rfl rfl]
  have e : compL (turnR [1, 2] true (ev F (.tup (.cons (.sl (.e (.var 1)) .none (.some (.neg (.int 1)))) (.cons (.var 2) .nil)))) none) (p.map fun t => termD (t.1 ++ [0], t.2)) [] [.val (polyD (widT p)), .no, .no] = .ok ([] ++ p.map termD) [.val (polyD (widT p)), .no, .no] := by
    refine compL_on _ _ _ _ fun t ht => ?_
    have a := sl_but t.1 0
    have e2 : ∀ m, setT [1, 2] true (termD (t.1 ++ [0], t.2)) m = setAll [1, 2] [tupI (t.1 ++ [0]), ratD t.2] m := fun m => setT_term _ _ _
    generalize termD (t.1 ++ [0], t.2) = X at *
    generalize tupI (t.1 ++ [0]) = Y at *
    generalize polyD (widT p) = Z at *
    simp -implicitDefEqProofs [a, e2]
    rfl
  have e3 : polyD (widT p) = .tuple (p.map fun t => termD (t.1 ++ [0], t.2)) := by unfold polyD widT; rw [List.map_map]; rfl
  rw [e3] at e ⊢
  generalize (p.map fun t => termD (t.1 ++ [0], t.2)) = Z at *
  simp -implicitDefEqProofs [f_narrowed, e, outsOf]
  rfl
theorem Pb.wid1 {n x d N L : Nat} {p : List Tm} (h : Pb n x d N L p) : Pb (n + 1) x d N L (widT p) := by
  unfold widT
  refine ⟨by rw [List.length_map]; exact h.len, fun t ht => ?_, fun t ht => ?_, fun t ht => ?_⟩ <;> obtain ⟨u, hu, rfl⟩ := List.mem_map.mp ht
  · show (u.1 ++ [0]).length = _
    rw [List.length_append, h.wid u hu]; rfl
  · intro y hy
    rcases List.mem_append.mp hy with q | q
    · exact h.rng u hu y q
    · rw [List.mem_singleton.mp q]; omega
  · exact h.cd u hu
end Mn
set_option Elab.async false
set_option linter.all false
set_option maxRecDepth 100000
set_option autoImplicit false
set_option maxHeartbeats 1000000
set_option exponentiation.threshold 10000
namespace Mn
open PySem PySem.Spec Lb
/-! ## values at points -/
def ptD (pt : List Rat) : D := .tuple (pt.map ratD)
def pm (q : Rat) (l : List (Int × Rat)) : Rat := l.foldl (fun a z => a * rpw z.2 z.1.toNat) q
theorem pm_snoc (q : Rat) (l : List (Int × Rat)) (z : Int × Rat) : pm q (l ++ [z]) = pm q l * rpw z.2 z.1.toNat := by simp [pm]
theorem pm_mul : ∀ (l : List (Int × Rat)) (q a : Rat), pm (q * a) l = q * pm a l
  | [], _, _ => rfl
  | z :: l, q, a => by
    show pm (q * a * rpw z.2 z.1.toNat) l = q * pm (a * rpw z.2 z.1.toNat) l
    rw [Rat.mul_assoc, pm_mul l]
def mono (pt : List Rat) (ks : List Int) : Rat := pm 1 (ks.zip pt)
theorem pm_mono (q : Rat) (pt : List Rat) (ks : List Int) : pm q (ks.zip pt) = q * mono pt ks := by
  have := pm_mul (ks.zip pt) q 1
  rw [Rat.mul_one] at this
  exact this
def Ka : Nat := 10 ^ 60
def Kb : Nat := 20 ^ 60
theorem Ka1 : 1 ≤ Ka := by decide +kernel
theorem Kb1 : 1 ≤ Kb := by decide +kernel
theorem pow_to {q : Rat} (h : Cd 10 20 q) {k : Nat} (hk : k ≤ 60) : Cd Ka Kb (rpw q k) := h.rpw_to (by decide) hk
theorem pm_cd : ∀ (l : List (Int × Rat)) {d N : Nat} {q : Rat}, (∀ z ∈ l, z.1 ≤ 60 ∧ Cd 10 20 z.2) → Cd d N q → Cd (d * Ka ^ l.length) (N * Kb ^ l.length) (pm q l)
  | [], d, N, q, _, hq => by simpa [pm] using hq
  | z :: l, d, N, q, h, hq => by
    obtain ⟨h1, h2⟩ := h z List.mem_cons_self
    have := pm_cd l (fun y hy => h y (List.mem_cons_of_mem _ hy)) (hq.mul (pow_to h2 (show z.1.toNat ≤ 60 by omega)))
    rw [List.length_cons, Nat.pow_succ, Nat.pow_succ, Nat.mul_comm (Ka ^ _), Nat.mul_comm (Kb ^ _), ← Nat.mul_assoc, ← Nat.mul_assoc]
    exact this
theorem Lf_cd {φ : List Int → Rat} {D M : Nat} : ∀ (ts : List Tm), (∀ t ∈ ts, Cd D M (t.2 * φ t.1)) → Cd D (ts.length * M) (Lf φ ts)
  | [], _ => Cd.zero
  | t :: ts, h => by
    have := (h t List.mem_cons_self).add (Lf_cd ts fun u hu => h u (List.mem_cons_of_mem _ hu))
    rw [List.length_cons, Nat.succ_mul, Nat.add_comm]
    exact this
structure ValOk (n d N L : Nat) (p : List Tm) (pt : List Rat) : Prop where
  pb : Pb n 60 d N L p
  len : pt.length = n
  n4 : n ≤ 4
  cd : ∀ q ∈ pt, Cd 10 20 q
  d0 : 0 < d
  dB : d * Ka ^ n < 2 ^ 4000
  NB : (L + 1) * (N * Kb ^ n) < 2 ^ 4000
theorem Ka_le {i n : Nat} (h : i ≤ n) : Ka ^ i ≤ Ka ^ n := Nat.pow_le_pow_right Ka1 h
theorem Kb_le {i n : Nat} (h : i ≤ n) : Kb ^ i ≤ Kb ^ n := Nat.pow_le_pow_right Kb1 h
section
variable {n d N L : Nat} {p : List Tm} {pt : List Rat} (h : ValOk n d N L p pt)
include h
theorem ValOk.zl {t : Tm} (ht : t ∈ p) : (t.1.zip pt).length = n := by
  rw [List.length_zip, h.pb.wid t ht, h.len]; omega
theorem ValOk.zm {t : Tm} (ht : t ∈ p) : ∀ z ∈ t.1.zip pt, (0 ≤ z.1 ∧ z.1 ≤ 60) ∧ Cd 10 20 z.2 := fun z hz => by
  have := List.of_mem_zip (a := z.1) (b := z.2) hz
  exact ⟨h.pb.rng t ht _ this.1, h.cd _ this.2⟩
theorem ValOk.cdi {t : Tm} (ht : t ∈ p) (i : Nat) : Cd (d * Ka ^ ((t.1.zip pt).take i).length) (N * Kb ^ ((t.1.zip pt).take i).length) (pm t.2 ((t.1.zip pt).take i)) :=
  pm_cd _ (fun z hz => let g := h.zm ht z (List.mem_of_mem_take hz); ⟨g.1.2, g.2⟩) (h.pb.cd t ht)
theorem ValOk.rb {D M i : Nat} {q : Rat} (hi : i ≤ n) (hD : D = d * Ka ^ i) (hM : M = N * Kb ^ i) (hq : Cd D M q) : RB q := by
  subst hD hM
  refine hq.rb (Nat.mul_pos h.d0 (Nat.pow_pos Ka1)) ?_ ?_
  · exact Nat.lt_of_le_of_lt (Nat.mul_le_mul_left _ (Ka_le hi)) h.dB
  · refine Nat.lt_of_le_of_lt ?_ h.NB
    refine Nat.le_trans (Nat.mul_le_mul_left _ (Kb_le hi)) ?_
    exact Nat.le_mul_of_pos_left _ (Nat.succ_pos _)
theorem ValOk.rbi {t : Tm} (ht : t ∈ p) (i : Nat) : RB (pm t.2 ((t.1.zip pt).take i)) := by
  refine h.rb ?_ rfl rfl (h.cdi ht i)
  rw [List.length_take, h.zl ht]; omega
theorem ValOk.rbj {t : Tm} (ht : t ∈ p) {i k : Nat} (hi : i < n) (hk : k ≤ 60) {q : Rat} (hq : Cd 10 20 q) : RB (pm t.2 ((t.1.zip pt).take i) * rpw q k) := by
  have := (h.cdi ht i).mul (pow_to hq hk)
  have e : ((t.1.zip pt).take i).length = i := by rw [List.length_take, h.zl ht]; omega
  rw [e] at this
  refine h.rb (i := i + 1) hi ?_ ?_ this
  · rw [Nat.pow_succ, Nat.mul_assoc]
  · rw [Nat.pow_succ, Nat.mul_assoc]
theorem ValOk.cdt {t : Tm} (ht : t ∈ p) : Cd (d * Ka ^ n) (N * Kb ^ n) (t.2 * mono pt t.1) := by
  have := h.cdi ht n
  rw [List.take_of_length_le (by rw [h.zl ht]; exact Nat.le_refl _), h.zl ht, pm_mono] at this
  exact this
theorem ValOk.cdl (i : Nat) : Cd (d * Ka ^ n) (L * (N * Kb ^ n)) (Lf (mono pt) (p.take i)) := by
  have := Lf_cd (φ := mono pt) (p.take i) fun t ht => h.cdt (List.mem_of_mem_take ht)
  refine this.mono (Nat.mul_le_mul_right _ ?_)
  rw [List.length_take]
  have := h.pb.len
  omega
theorem ValOk.rbl (i : Nat) : RB (Lf (mono pt) (p.take i)) := by
  refine (h.cdl i).rb (Nat.mul_pos h.d0 (Nat.pow_pos Ka1)) h.dB (Nat.lt_of_le_of_lt ?_ h.NB)
  exact Nat.mul_le_mul_right _ (Nat.le_succ _)
theorem ValOk.rbt {t : Tm} (ht : t ∈ p) : RB (t.2 * mono pt t.1) := h.rb (Nat.le_refl n) rfl rfl (h.cdt ht)
end
theorem rb_small {q : Rat} (h : Cd 10 20 q) : RB q := h.rb (by decide) (by decide +kernel) (by decide +kernel)
theorem rb_pow {q : Rat} (h : Cd 10 20 q) {k : Nat} (hk : k ≤ 60) : RB (rpw q k) := (pow_to h hk).rb Ka1 (by decide +kernel) (by decide +kernel)
theorem Lf_snoc {φ : List Int → Rat} {p : List Tm} {i : Nat} {t : Tm} (h : p[i]? = some t) : Lf φ (p.take (i + 1)) = Lf φ (p.take i) + t.2 * φ t.1 := by
  rw [take_snoc h, Lf_append]
  show _ + (_ + (0 : Rat)) = _
  rw [Rat.add_zero]
theorem zip_pt : ∀ (xs : List Int) (ys : List Rat), zipD (xs.map .int) (ys.map ratD) = (xs.zip ys).map fun p => pairD (.int p.1) (ratD p.2)
  | [], _ => rfl
  | _ :: _, [] => rfl
  | x :: xs, y :: ys => by
    have := zip_pt xs ys
    unfold zipD at this ⊢
    simp only [List.map_cons, List.zip_cons_cons]
    rw [this]
@[simp] theorem setT_pair (is : List Nat) (x y : D) (μ : Mu) : setT is true (pairD x y) μ = setAll is [x, y] μ := rfl
def ValS (G : List Sl → FR) : Prop := ∀ (n d N L : Nat) (p : List Tm) (pt : List Rat), ValOk n d N L p pt → G [.val (polyD p), .val (ptD pt)] = .ok (ratD (Lf (mono pt) p)) []
theorem valS1 (F : Nat → List Sl → FR) (W c c2 c3 : Nat) (ht : Rat2 (F c) (· * ·)) (hp : ToPowS (F c2)) (ha : Rat2 (F c3) (· + ·)) : ValS (runFn F W (f_value c c2 c3)) := by
  intro n d N L p pt h
  suffices hw : (runFn F W (f_value c c2 c3) [.val (polyD p), .val (ptD pt)]).wp fun x o => x = ratD (Lf (mono pt) p) ∧ o = [] by
    obtain ⟨_, _, e, rfl, rfl⟩ := FR.wp_elim hw
    exact e
  refine wp_run rfl rfl ?_
  simp -implicitDefEqProofs [f_value]
  refine wp_forL (fun i μ => ∃ s3 s4 s5 s6 : Sl, μ = [.val (polyD p), .val (ptD pt), .val (ratD (Lf (mono pt) (p.take i))), s3, s4, s5, s6] ∧ FrS s3 ∧ FrS s4 ∧ FrS s5 ∧ FrS s6) _ _ ⟨.no, .no, .no, .no, rfl, rfl, rfl, rfl, rfl⟩ ?_ ?_
  · rintro i dt μ Q' hd ⟨s3, s4, s5, s6, rfl, f3, f4, f5, f6⟩ hk
    rw [List.getElem?_map] at hd
    obtain ⟨t, ht', rfl⟩ := Option.map_eq_some_iff.mp hd
    have hm : t ∈ p := List.mem_of_getElem? ht'
    have hz : ∀ μ, zip2D (tupI t.1) (ptD pt) μ = .ok ((t.1.zip pt).map fun z => pairD (.int z.1) (ratD z.2)) μ := fun μ => by
      rw [← zip_pt]; rfl
    have hk := fun s5 s6 (f5 : FrS s5) (f6 : FrS s6) => hk [.val (polyD p), .val (ptD pt), .val (ratD (Lf (mono pt) (p.take (i + 1)))), .val (tupI t.1), .val (ratD (t.2 * mono pt t.1)), s5, s6] ⟨_, _, _, _, rfl, rfl, rfl, f5, f6⟩
    rw [Lf_snoc ht'] at hk
    have r1 := h.rbl i
    have r2 := h.rbt hm
    have e2 := ha _ _ r1 r2
    generalize Lf (mono pt) (p.take i) = A at *
    simp -implicitDefEqProofs [isLck_f f3, isLck_f f4, hz]
    refine wp_forL (fun j μ => ∃ s5 s6 : Sl, μ = [.val (polyD p), .val (ptD pt), .val (ratD A), .val (tupI t.1), .val (ratD (pm t.2 ((t.1.zip pt).take j))), s5, s6] ∧ FrS s5 ∧ FrS s6) _ _ ⟨s5, s6, rfl, f5, f6⟩ ?_ ?_
    · rintro j dz μ Q2 hd2 ⟨s5, s6, rfl, f5, f6⟩ hk2
      rw [List.getElem?_map] at hd2
      obtain ⟨z, hz', rfl⟩ := Option.map_eq_some_iff.mp hd2
      obtain ⟨⟨z0, z1⟩, zc⟩ := h.zm hm z (List.mem_of_getElem? hz')
      have hk2 := fun μ' => hk2 μ'
      rw [take_snoc hz', pm_snoc] at hk2
      obtain ⟨zi, zr⟩ := z
      simp only at z0 z1 zc hk2
      obtain ⟨k, rfl⟩ : ∃ k : Nat, zi = k := ⟨zi.toNat, by omega⟩
      rw [Int.toNat_natCast] at hk2
      have k6 : k ≤ 60 := by omega
      have e3 := hp zr k (by omega) (rb_small zc) fun i hi => rb_pow zc (by omega)
      have e4 := ht _ _ (h.rbi hm j) (rb_pow zc k6)
      generalize pm t.2 ((t.1.zip pt).take j) = B at *
      simp -implicitDefEqProofs [isLck_f f5, isLck_f f6, e3, e4]
      exact hk2 _ ⟨_, _, rfl, rfl, rfl⟩
    · rintro μ ⟨s5, s6, rfl, f5, f6⟩
      rw [List.length_map, List.take_length, pm_mono]
      have hk := hk s5 s6 f5 f6
      generalize t.2 * mono pt t.1 = B at *
      simp -implicitDefEqProofs [e2]
      exact hk
  · rintro μ ⟨s3, s4, s5, s6, rfl, _⟩
    rw [List.length_map, List.take_length]
    simp -implicitDefEqProofs [outsOf]
theorem pt_at {pt : List Rat} {j : Nat} {q : Rat} (h : pt[j]? = some q) : ixD (ptD pt) (.int (j : Int)) = some (ratD q) := by
  show L2.atI (pt.map ratD) (j : Int) = _
  exact atI_nat (by omega) (by rw [Int.toNat_natCast, List.getElem?_map, h]; rfl)
theorem valS2 (F : Nat → List Sl → FR) (W c c2 : Nat) (ht : Rat2 (F c) (· * ·)) (ha : Rat2 (F c2) (· + ·)) : ValS (runFn F W (f_l_value c c2)) := by
  intro n d N L p pt h
  suffices hw : (runFn F W (f_l_value c c2) [.val (polyD p), .val (ptD pt)]).wp fun x o => x = ratD (Lf (mono pt) p) ∧ o = [] by
    obtain ⟨_, _, e, rfl, rfl⟩ := FR.wp_elim hw
    exact e
  refine wp_run rfl rfl ?_
  simp -implicitDefEqProofs [f_l_value]
  have hlen : lenD (ptD pt) = some (.int n) := by
    show some (PyData.int ((pt.map ratD).length : Int)) = _
    rw [List.length_map, h.len]
  have n4 := h.n4
  have hrg : ∀ μ, rng1D (.int (n : Int)) μ = .ok (rangeD 0 n) μ := fun μ => by
    rw [rng1_ok (by omega) (by omega), Int.toNat_natCast]
  refine wp_forL (fun i μ => ∃ s3 s4 s5 s6 : Sl, μ = [.val (polyD p), .val (ptD pt), .val (ratD (Lf (mono pt) (p.take i))), s3, s4, s5, s6] ∧ FrS s3 ∧ FrS s4 ∧ FrS s5 ∧ FrS s6) _ _ ⟨.no, .no, .no, .no, rfl, rfl, rfl, rfl, rfl⟩ ?_ ?_
  · rintro i dt μ Q' hd ⟨s3, s4, s5, s6, rfl, f3, f4, f5, f6⟩ hk
    rw [List.getElem?_map] at hd
    obtain ⟨t, ht', rfl⟩ := Option.map_eq_some_iff.mp hd
    have hm : t ∈ p := List.mem_of_getElem? ht'
    have hk := fun s5 s6 (f5 : FrS s5) (f6 : FrS s6) => hk [.val (polyD p), .val (ptD pt), .val (ratD (Lf (mono pt) (p.take (i + 1)))), .val (tupI t.1), .val (ratD (t.2 * mono pt t.1)), s5, s6] ⟨_, _, _, _, rfl, rfl, rfl, f5, f6⟩
    rw [Lf_snoc ht'] at hk
    have r1 := h.rbl i
    have r2 := h.rbt hm
    have e2 := ha _ _ r1 r2
    generalize Lf (mono pt) (p.take i) = A at *
    simp -implicitDefEqProofs [isLck_f f3, isLck_f f4, hlen, hrg]
    refine wp_forL (fun j μ => ∃ s5 s6 : Sl, μ = [.val (polyD p), .val (ptD pt), .val (ratD A), .val (tupI t.1), .val (ratD (pm t.2 ((t.1.zip pt).take j))), s5, s6] ∧ FrS s5 ∧ FrS s6) _ _ ⟨s5, s6, rfl, f5, f6⟩ ?_ ?_
    · rintro j dz μ Q2 hd2 ⟨s5, s6, rfl, f5, f6⟩ hk2
      obtain ⟨hj, rfl⟩ := rangeD_get hd2
      have zl := h.zl hm
      obtain ⟨z, hz'⟩ : ∃ z, (t.1.zip pt)[j]? = some z := ⟨_, List.getElem?_eq_getElem (by omega)⟩
      obtain ⟨⟨z0, z1⟩, zc⟩ := h.zm hm z (List.mem_of_getElem? hz')
      rw [take_snoc hz', pm_snoc] at hk2
      obtain ⟨zi, zr⟩ := z
      obtain ⟨g1, g2⟩ := List.getElem?_zip_eq_some.mp hz'
      simp only at z0 z1 zc hk2 g1 g2
      obtain ⟨k, rfl⟩ : ∃ k : Nat, zi = k := ⟨zi.toNat, by omega⟩
      rw [Int.toNat_natCast] at hk2
      have k6 : k ≤ 60 := by omega
      have i1 : ixD (tupI t.1) (.int (j : Int)) = some (.int (k : Int)) := atI_nat (by omega) (by rw [Int.toNat_natCast, List.getElem?_map, g1]; rfl)
      have i2 := pt_at g2
      have rb := fun {i : Nat} (hi : i ≤ 60) => h.rbj hm (i := j) hj hi zc
      generalize pm t.2 ((t.1.zip pt).take j) = B at *
      simp -implicitDefEqProofs [isLck_f f5, i1, rng1_ok (show (0 : Int) ≤ k by omega) (show (k : Int) ≤ 1000 by omega)]
      refine wp_forL (fun l μ => ∃ s6 : Sl, μ = [.val (polyD p), .val (ptD pt), .val (ratD A), .val (tupI t.1), .val (ratD (B * rpw zr l)), .val (.int j), s6] ∧ FrS s6) _ _ ⟨s6, by show _ = [_, _, _, _, Sl.val (ratD (B * 1)), _, _]; rw [Rat.mul_one], f6⟩ ?_ ?_
      · rintro l dz μ Q3 hd3 ⟨s6, rfl, f6⟩ hk3
        obtain ⟨hl, rfl⟩ := rangeD_get hd3
        have e4 := ht _ _ (rb (i := l) (by omega)) (rb_small zc)
        have e4 : F c [.val (ratD (B * rpw zr l)), .val (ratD zr)] = .ok (ratD (B * rpw zr (l + 1))) [] := e4.trans (by show FR.ok (ratD (B * rpw zr l * zr)) [] = _; rw [Rat.mul_assoc]; rfl)
        simp -implicitDefEqProofs [isLck_f f6, i2, e4]
        exact hk3 _ ⟨_, rfl, rfl⟩
      · rintro μ ⟨s6, rfl, f6⟩
        rw [rangeD_len]
        simp -implicitDefEqProofs
        exact hk2 _ ⟨.val (.int j), s6, rfl, rfl, f6⟩
    · rintro μ ⟨s5, s6, rfl, f5, f6⟩
      rw [rangeD_len, List.take_of_length_le (by rw [h.zl hm]; exact Nat.le_refl _), pm_mono]
      have hk := hk s5 s6 f5 f6
      generalize t.2 * mono pt t.1 = B at *
      simp -implicitDefEqProofs [e2]
      exact hk
  · rintro μ ⟨s3, s4, s5, s6, rfl, _⟩
    rw [List.length_map, List.take_length]
    simp -implicitDefEqProofs [outsOf]
/-! points by draws -/
theorem cd_of {q : Rat} {m : Int} (h : q * 10 = m) (hm : m.natAbs ≤ 20) : Cd 10 20 q := ⟨m, h, hm⟩
theorem some_cd : ∀ q ∈ ([0, 1, -1, 2, 1 / 2, -3 / 5] : List Rat), Cd 10 20 q := by
  intro q hq
  simp at hq
  rcases hq with rfl | rfl | rfl | rfl | rfl | rfl
  · exact cd_of (m := 0) (by decide +kernel) (by decide)
  · exact cd_of (m := 10) (by decide +kernel) (by decide)
  · exact cd_of (m := -10) (by decide +kernel) (by decide)
  · exact cd_of (m := 20) (by decide +kernel) (by decide)
  · exact cd_of (m := 5) (by decide +kernel) (by decide)
  · exact cd_of (m := -6) (by decide +kernel) (by decide)
def PointS (G : List Sl → FR) : Prop := ∀ (m : Nat) (T : D) (n : Nat), TapeB m T → m ≤ 100000000000 → n ≤ 4 → ∃ pt T', G [.own T, .val (.int n)] = .ok (ptD pt) [T'] ∧ pt.length = n ∧ (∀ q ∈ pt, Cd 10 20 q) ∧ TapeB (m + 4) T'
theorem pointS (F : Nat → List Sl → FR) (W c : Nat) (hd : DrawS (F c)) : PointS (runFn F W (f_l_point c)) := by
  intro m T n h hm h1
  suffices hw : ∀ Q : D → List D → Prop, (∀ pt T', pt.length = n ∧ (∀ q ∈ pt, Cd 10 20 q) ∧ TapeB (m + 4) T' → Q (ptD pt) [T']) → (runFn F W (f_l_point c) [.own T, .val (.int n)]).wp Q by
    obtain ⟨d, o, e, ps, T', rfl, rfl, r⟩ := FR.wp_elim (hw (fun d o => ∃ pt T', d = ptD pt ∧ o = [T'] ∧ pt.length = n ∧ (∀ q ∈ pt, Cd 10 20 q) ∧ TapeB (m + 4) T') fun ps T' r => ⟨ps, T', rfl, rfl, r⟩)
    exact ⟨ps, T', e, r⟩
  intro Q hQ
  have n0 : (0 : Int) ≤ n := by omega
  have n1 : (n : Int) ≤ 1000 := by omega
  refine wp_run rfl rfl ?_
  have m1 : PyData.tuple [.int (-1), .int 1] = ratD (-1) := rfl
  have m2 : PyData.tuple [.int 2, .int 1] = ratD 2 := rfl
  have m3 : PyData.tuple [.int 1, .int 2] = ratD (1 / 2) := by unfold ratD; rw [show (1 / 2 : Rat).num = 1 by decide +kernel, show (1 / 2 : Rat).den = 2 by decide +kernel]; rfl
  have m4 : PyData.tuple [.int (-3), .int 5] = ratD (-3 / 5) := by unfold ratD; rw [show (-3 / 5 : Rat).num = -3 by decide +kernel, show (-3 / 5 : Rat).den = 5 by decide +kernel]; rfl
  simp -implicitDefEqProofs [f_l_point, rng1_ok n0 n1, m1, m2, m3, m4]
  refine wp_compL (fun i acc μ => ∃ (T' : D) (pt : List Rat), μ = [.own T', .val (.int n), .val (.list [ratD 0, ratD 1, ratD (-1), ratD 2, ratD (1 / 2), ratD (-3 / 5)]), .no] ∧ TapeB (m + i) T' ∧ acc = pt.map ratD ∧ pt.length = i ∧ ∀ q ∈ pt, Cd 10 20 q) _ _ ?_ ?_ ?_
  · exact ⟨T, [], rfl, h, rfl, rfl, by simp⟩
  · rintro i d acc μ Q' hd' ⟨T1, pt, rfl, t1, rfl, hl, hp⟩ hk
    obtain ⟨hi, rfl⟩ := rangeD_get hd'
    obtain ⟨r1, T2, e2, a1, a2, t2⟩ := hd _ T1 6 t1 (by omega) (by decide) (by decide)
    obtain ⟨d, hv, q, rfl, v0⟩ := atI_pick (P := fun d => ∃ q : Rat, d = ratD q ∧ Cd 10 20 q) (l := [ratD 0, ratD 1, ratD (-1), ratD 2, ratD (1 / 2), ratD (-3 / 5)]) a1 a2 (by
      intro d hd
      have hd : d ∈ ([0, 1, -1, 2, 1 / 2, -3 / 5] : List Rat).map ratD := hd
      obtain ⟨q, hq, rfl⟩ := List.mem_map.mp hd
      exact ⟨q, rfl, some_cd q hq⟩)
    simp -implicitDefEqProofs [e2, hv]
    refine hk _ _ ⟨T2, pt ++ [q], rfl, t2, by simp, by simp [hl], ?_⟩
    intro p hq
    rcases List.mem_append.mp hq with hq | hq
    · exact hp p hq
    · rw [List.mem_singleton] at hq; subst hq; exact v0
  · rintro acc μ' ⟨T', pt, rfl, t, rfl, hl, hp⟩
    simp -implicitDefEqProofs [outsOf]
    rw [rangeD_len] at *
    exact hQ pt T' ⟨by omega, hp, t.mono (by omega)⟩
end Mn
set_option Elab.async false
set_option linter.all false
set_option maxRecDepth 100000
set_option autoImplicit false
set_option maxHeartbeats 1000000
namespace Mn
open PySem PySem.Spec Lb
/-! ## the greatest term -/
section
variable (key : Tm → List Int)
def best (p : List Tm) (f : Tm) : Tm := p.foldl (fun f t => if key f < key t then t else f) f
theorem best_cons (t : Tm) (p : List Tm) (f : Tm) : best key (t :: p) f = best key p (if key f < key t then t else f) := rfl
theorem best_snoc (p : List Tm) (t f : Tm) : best key (p ++ [t]) f = if key (best key p f) < key t then t else best key p f := by unfold best; rw [List.foldl_append]; rfl
theorem best_key : ∀ (p : List Tm) (f : Tm), maxK (p.map key) (key f) = key (best key p f)
  | [], _ => rfl
  | t :: p, f => by
    rw [best_cons, ← best_key p, List.map_cons]
    show maxK (p.map key) (if key f < key t then key t else key f) = _
    by_cases h : key f < key t
    · rw [if_pos h, if_pos h]
    · rw [if_neg h, if_neg h]
theorem best_ge : ∀ (p : List Tm) (f : Tm), ¬ key (best key p f) < key f
  | [], f => lex_irr _
  | t :: p, f => by
    rw [best_cons]
    by_cases h : key f < key t
    · rw [if_pos h]
      exact fun z => best_ge p t (lex_trans z h)
    · rw [if_neg h]; exact best_ge p f
theorem best_first : ∀ (p : List Tm) (f : Tm), ((f :: p).filter fun t => decide (key t = key (best key p f))).head? = some (best key p f)
  | [], f => by simp [best]
  | t :: p, f => by
    rw [best_cons]
    by_cases h : key f < key t
    · rw [if_pos h, List.filter_cons_of_neg]
      · exact best_first p t
      · intro z
        have z := of_decide_eq_true z
        rw [z] at h
        exact best_ge key p t h
    · rw [if_neg h]
      have ih := best_first p f
      by_cases z : key f = key (best key p f)
      · rw [List.filter_cons_of_pos (by rw [decide_eq_true_eq]; exact z)] at ih ⊢
        exact ih
      · rw [List.filter_cons_of_neg (by rw [decide_eq_true_eq]; exact z)] at ih ⊢
        rw [List.filter_cons_of_neg]
        · exact ih
        · intro y
          have y := of_decide_eq_true y
          have g := best_ge key p f
          rw [← y] at g z
          rcases lex_tri (key f) (key t) with q | q | q
          · exact h q
          · exact z q
          · exact g q
theorem best_self (p : List Tm) (f : Tm) : best key (f :: p) f = best key p f := by
  rw [best_cons, if_neg (lex_irr _)]
theorem best_mem : ∀ (p : List Tm) (f : Tm), best key p f ∈ f :: p
  | [], f => List.mem_cons_self
  | t :: p, f => by
    rw [best_cons]
    have := best_mem p (if key f < key t then t else f)
    rcases List.mem_cons.mp this with h | h
    · rw [h]
      split
      · exact List.mem_cons_of_mem _ List.mem_cons_self
      · exact List.mem_cons_self
    · exact List.mem_cons_of_mem _ (List.mem_cons_of_mem _ h)
end
def tkey (kind : Str) (ls : List Int) (t : Tm) : List Int := keyL kind (pickP ls t.1)
theorem ix_poly0 (t : Tm) (p : List Tm) : ixD (polyD (t :: p)) (.int 0) = some (termD t) := atI_nat (xs := (t :: p).map termD) (by decide) rfl
def LeadS (G : List Sl → FR) : Prop := ∀ (kind : Str) (ls : List Int) (n : Nat) (t : Tm) (p : List Tm), (∀ u ∈ t :: p, u.1.length = n) → (∀ l ∈ ls, 0 ≤ l ∧ l < (n : Int)) → G [.val (ordD kind ls), .val (polyD (t :: p))] = .ok (termD (best (tkey kind ls) p t)) []
theorem leadS (F : Nat → List Sl → FR) (W c : Nat) (hA : AheadS (F c)) : LeadS (runFn F W (f_lead c)) := by
  intro kind ls n t p hw hl
  suffices hw : (runFn F W (f_lead c) [.val (ordD kind ls), .val (polyD (t :: p))]).wp fun x o => x = termD (best (tkey kind ls) p t) ∧ o = [] by
    obtain ⟨_, _, e, rfl, rfl⟩ := FR.wp_elim hw
    exact e
  rw [← best_self]
  generalize hP : t :: p = P at *
  have i0 : ixD (polyD P) (.int 0) = some (termD t) := by rw [← hP]; exact ix_poly0 t p
  have htP : t ∈ P := by rw [← hP]; exact List.mem_cons_self
  refine wp_run rfl rfl ?_
  simp -implicitDefEqProofs [f_lead, i0]
  refine wp_forL (fun i μ => ∃ s3 : Sl, μ = [.val (ordD kind ls), .val (polyD P), .val (termD (best (tkey kind ls) (P.take i) t)), s3] ∧ FrS s3) _ _ ⟨.no, rfl, rfl⟩ ?_ ?_
  · rintro i dt μ Q' hd ⟨s3, rfl, f3⟩ hk
    rw [List.getElem?_map] at hd
    obtain ⟨u, hu, rfl⟩ := Option.map_eq_some_iff.mp hd
    have hm : u ∈ P := List.mem_of_getElem? hu
    have hk := fun s3 (f3 : FrS s3) => hk [.val (ordD kind ls), .val (polyD P), .val (termD (best (tkey kind ls) (P.take (i + 1)) t)), s3] ⟨s3, rfl, f3⟩
    rw [take_snoc hu, best_snoc] at hk
    have hb : best (tkey kind ls) (P.take i) t ∈ P := by
      rcases List.mem_cons.mp (best_mem (tkey kind ls) (P.take i) t) with h | h
      · rw [h]; exact htP
      · exact List.mem_of_mem_take h
    generalize best (tkey kind ls) (P.take i) t = b at *
    have e := hA kind ls u.1 b.1 (by rw [hw u hm]; exact hl) (by rw [hw b hb]; exact hl)
    rw [ahead_key] at e
    have e : F c [.val (ordD kind ls), .val (tupI u.1), .val (tupI b.1)] = .ok (.bool (decide (tkey kind ls b < tkey kind ls u))) [] := e
    by_cases z : tkey kind ls b < tkey kind ls u
    · rw [if_pos z] at hk
      simp -implicitDefEqProofs [isLck_f f3, e, z]
      exact hk _ (frS_val _)
    · rw [if_neg z] at hk
      simp -implicitDefEqProofs [isLck_f f3, e, z]
      exact hk _ (frS_val _)
  · rintro μ ⟨s3, rfl, f3⟩
    rw [List.length_map, List.take_length]
    simp -implicitDefEqProofs [outsOf]
def FreeS (G : List Sl → FR) : Prop := ∀ (n : Nat) (p : List Tm) (j : Nat), (∀ u ∈ p, u.1.length = n) → j < n → G [.val (polyD p), .val (.int j)] = .ok (.bool (p.all fun t => decide (t.1.getD j 0 = 0))) []
theorem freeSp (F : Nat → List Sl → FR) (W : Nat) : FreeS (runFn F W f_is_free) := by
  intro n p j hw hj
  rw [runFn_at rfl rfl]
  have e : compL (turnR [2, 3] true (ev F (.cmp .eq (.e (.ix (.e (.var 2)) (.var 1))) (.e (.int 0)))) none) (p.map termD) [] [.val (polyD p), .val (.int j), .no, .no] = .ok ([] ++ p.map fun t => PyData.bool (decide (t.1.getD j 0 = 0))) [.val (polyD p), .val (.int j), .no, .no] := by
    refine compL_on _ _ _ _ fun t ht => ?_
    have ei := ix_tupI (xs := t.1) (j := j) (by rw [hw t ht]; exact hj)
    generalize t.1.getD j 0 = z at *
    simp -implicitDefEqProofs [ei]
  have e2 : ([] ++ p.map fun t => PyData.bool (decide (t.1.getD j 0 = 0))) = (p.map fun t => decide (t.1.getD j 0 = 0)).map PyData.bool := by
    rw [List.nil_append, List.map_map]; rfl
  rw [e2] at e
  have e3 : (p.all fun t => decide (t.1.getD j 0 = 0)) = (p.map fun t => decide (t.1.getD j 0 = 0)).all id := by
    rw [List.all_map]; rfl
  rw [e3]
  generalize (p.map fun t => decide (t.1.getD j 0 = 0)) = B at *
  simp -implicitDefEqProofs [f_is_free, e, outsOf]
theorem plain_tupI (xs : List Int) : (tupI xs).plain = true := by
  show PyData.plainAll (xs.map .int) = true
  exact plainInts xs
theorem plain_term (t : Tm) : (termD t).plain = true := by
  show (PyData.plain (tupI t.1) && (PyData.plain (ratD t.2) && true)) = true
  rw [plain_tupI]; rfl
theorem eqD_nilL (l : List Tm) : eqD (.list (l.map termD)) (.list []) = some l.isEmpty := by
  unfold eqD
  rw [if_pos]
  · cases l <;> rfl
  · have h1 : PyData.plain (.list (l.map termD)) = true := plainAll_of (xs := l.map termD) fun d hd => by
      obtain ⟨t, _, rfl⟩ := List.mem_map.mp hd
      exact plain_term t
    have h2 : PyData.depth (.list []) = 1 := rfl
    rw [h1]
    simp [PyData.plain, PyData.plainAll, h2]
    omega
theorem eqD_nilP (l : List Tm) : eqD (polyD l) (.tuple []) = some l.isEmpty := by
  unfold eqD polyD
  rw [if_pos]
  · cases l <;> rfl
  · have h1 : PyData.plain (.tuple (l.map termD)) = true := plainAll_of (xs := l.map termD) fun d hd => by
      obtain ⟨t, _, rfl⟩ := List.mem_map.mp hd
      exact plain_term t
    have h2 : PyData.depth (.tuple []) = 1 := rfl
    rw [h1]
    simp [PyData.plain, PyData.plainAll, h2]
    omega
theorem listsOf_map (ks : List (List Int)) : listsOf (ks.map fun k => PyData.list (k.map .int)) = some ks := by
  induction ks with
  | nil => rfl
  | cons k ks ih =>
    show (match intsOf (k.map .int), listsOf (ks.map fun k => PyData.list (k.map .int)) with | some k, some ks => some (k :: ks) | _, _ => none) = _
    rw [ih, intsOf_map]
theorem maxD_lists (k : List Int) (ks : List (List Int)) : maxD (.list ((k :: ks).map fun k => PyData.list (k.map .int))) = some (.list ((maxK ks k).map .int)) := by
  show maxKD ((k :: ks).map fun k => PyData.list (k.map .int)) = _
  unfold maxKD
  rw [listsOf_map]
theorem keyS2 (F : Nat → List Sl → FR) (W : Nat) : KeyS (runFn F W f_l_key_2) := by
  have e := keyS F W
  have h : ∀ args, runFn F W f_l_key_2 args = runFn F W f_l_key args := fun args => rfl
  intro kind ls xs h1 h2
  rw [h]
  exact e kind ls xs h1 h2
end Mn
set_option Elab.async false
set_option linter.all false
set_option maxRecDepth 100000
set_option autoImplicit false
set_option maxHeartbeats 1000000
set_option exponentiation.threshold 10000
namespace Mn
open PySem PySem.Spec Lb
/-! ## powers of a polynomial -/
def oneP (n : Nat) : List Tm := [(List.replicate n 0, 1)]
def rp (n : Nat) (p : List Tm) : Nat → List Tm
  | 0 => oneP n
  | k + 1 => gath (lprodL (rp n p k) p)
def NK (N L : Nat) : Nat → Nat
  | 0 => 1
  | k + 1 => L ^ (k + 1) * (NK N L k * N)
theorem oneP_pb (n : Nat) : Pb n 0 1 1 1 (oneP n) := by
  refine ⟨Nat.le_refl _, ?_, ?_, ?_⟩
  · intro t ht; rw [oneP, List.mem_singleton] at ht; subst ht; simp
  · intro t ht y hy; rw [oneP, List.mem_singleton] at ht; subst ht
    have := List.eq_of_mem_replicate hy; omega
  · intro t ht; rw [oneP, List.mem_singleton] at ht; subst ht
    exact ⟨1, by show (1 : Rat) * ((1 : Nat) : Rat) = _; rw [Rat.one_mul]; rfl, Nat.le_refl _⟩
structure RpOk (n x d N L : Nat) (p : List Tm) (k : Nat) : Prop where
  pb : Pb n x d N L p
  n1 : 1 ≤ n
  d0 : 0 < d
  N0 : 0 < N
  L0 : 0 < L
  dk : d ^ k < 2 ^ 4000
  lk : 2 * L ^ k ≤ 1000000
  nk : (2 * L ^ k + 1) * (2 * NK N L k) < 2 ^ 4000
theorem NK_pos {N L : Nat} (hN : 0 < N) (hL : 0 < L) : ∀ k, 0 < NK N L k
  | 0 => Nat.one_pos
  | k + 1 => Nat.mul_pos (Nat.pow_pos hL) (Nat.mul_pos (NK_pos hN hL k) hN)
theorem NK_up {N L : Nat} (hN : 0 < N) (hL : 0 < L) (k : Nat) : NK N L k * N ≤ NK N L (k + 1) := Nat.le_mul_of_pos_left _ (Nat.pow_pos hL)
theorem NK_mono {N L : Nat} (hN : 0 < N) (hL : 0 < L) {i k : Nat} (h : i ≤ k) : NK N L i ≤ NK N L k := by
  induction k with
  | zero => rw [Nat.le_zero.mp h]; exact Nat.le_refl _
  | succ k ih =>
    by_cases e : i = k + 1
    · rw [e]; exact Nat.le_refl _
    · exact Nat.le_trans (ih (by omega)) (Nat.le_trans (Nat.le_mul_of_pos_right _ hN) (NK_up hN hL k))
section
variable {n x d N L k : Nat} {p : List Tm}
theorem rp_pb (h : Pb n x d N L p) : ∀ k, Pb n (k * x) (d ^ k) (NK N L k) (L ^ k) (rp n p k)
  | 0 => by
    have := oneP_pb n
    rw [Nat.zero_mul]; exact this
  | k + 1 => by
    have := ((rp_pb h k).lprod h).gath
    rw [Nat.succ_mul, Nat.pow_succ, NK, Nat.pow_succ]
    exact this
theorem RpOk.to {i : Nat} (h : RpOk n x d N L p k) (hi : i ≤ k) : RpOk n x d N L p i := by
  have l := Nat.pow_le_pow_right h.L0 hi
  refine ⟨h.pb, h.n1, h.d0, h.N0, h.L0, Nat.lt_of_le_of_lt (Nat.pow_le_pow_right h.d0 hi) h.dk, ?_, ?_⟩
  · have := h.lk; omega
  · refine Nat.lt_of_le_of_lt (Nat.mul_le_mul ?_ (Nat.mul_le_mul_left _ (NK_mono h.N0 h.L0 hi))) h.nk
    omega
theorem RpOk.d1 (h : RpOk n x d N L p (k + 1)) : d < 2 ^ 4000 := by
  have := h.dk
  refine Nat.lt_of_le_of_lt ?_ this
  rw [Nat.pow_succ]; exact Nat.le_mul_of_pos_left _ (Nat.pow_pos h.d0)
theorem RpOk.nk1 (h : RpOk n x d N L p k) : NK N L k < 2 ^ 4000 := by
  refine Nat.lt_of_le_of_lt ?_ h.nk
  refine Nat.le_trans (Nat.le_mul_of_pos_left _ (show 0 < 2 by decide)) (Nat.le_mul_of_pos_left _ (Nat.succ_pos _))
theorem RpOk.N1 (h : RpOk n x d N L p (k + 1)) : N < 2 ^ 4000 := by
  refine Nat.lt_of_le_of_lt ?_ h.nk1
  exact Nat.le_trans (Nat.le_mul_of_pos_left _ (NK_pos h.N0 h.L0 k)) (NK_up h.N0 h.L0 k)
theorem RpOk.lstep (h : RpOk n x d N L p (k + 1)) {G : List Sl → FR} (hG : LProdS G) : G [.val (polyD (rp n p k)), .val (polyD p)] = .ok (polyD (rp n p (k + 1))) [] := by
  have h0 := h.to (Nat.le_succ k)
  have lk := h.lk
  have L1 : L ≤ L ^ (k + 1) := by rw [Nat.pow_succ]; exact Nat.le_mul_of_pos_left _ (Nat.pow_pos h.L0)
  refine hG _ _ _ _ _ _ _ _ _ _ _ (rp_pb h.pb k) h.pb h.n1 (Nat.pow_pos h.d0) h.d0 h0.dk h.d1 ?_ h0.nk1 h.N1 ?_ ?_
  · have := h.dk; rw [Nat.pow_succ] at this; exact this
  · rw [← Nat.pow_succ]; show L ^ (k + 1) + L ≤ _; omega
  · rw [← Nat.pow_succ]
    refine Nat.lt_of_le_of_lt (Nat.mul_le_mul ?_ ?_) h.nk
    · show L ^ (k + 1) + L + 1 ≤ _; omega
    · show L ^ (k + 1) * (NK N L k * N) + NK N L k * N ≤ 2 * NK N L (k + 1)
      have := NK_up h.N0 h.L0 k
      have e : NK N L (k + 1) = L ^ (k + 1) * (NK N L k * N) := rfl
      rw [← e]; omega
theorem RpOk.pstep (h : RpOk n x d N L p (k + 1)) {G : List Sl → FR} (hG : ProdS G) : G [.val (polyD (rp n p k)), .val (polyD p)] = .ok (polyD (rp n p (k + 1))) [] := by
  have h0 := h.to (Nat.le_succ k)
  have lk := h.lk
  have pr := h.pb.lprod (rp_pb h.pb k)
  have ts : TsOk (prodL (rp n p k) p) := by
    rw [prodL_lprodL]
    refine pr.ts h.n1 (Nat.mul_pos h.d0 (Nat.pow_pos h.d0)) ?_ ?_ ?_
    · have := h.dk; rw [Nat.pow_succ, Nat.mul_comm] at this; exact this
    · rw [Nat.mul_comm, ← Nat.pow_succ]; show L ^ (k + 1) ≤ _; omega
    · rw [Nat.mul_comm L, ← Nat.pow_succ, Nat.mul_comm N]
      refine Nat.lt_of_le_of_lt (Nat.mul_le_mul ?_ ?_) h.nk
      · show L ^ (k + 1) + 1 ≤ _; omega
      · have := NK_up h.N0 h.L0 k; omega
  rw [hG _ _ ((rp_pb h.pb k).rb (Nat.pow_pos h.d0) h0.dk h0.nk1) (h.pb.rb h.d0 h.d1 h.N1) ts, gath_prod]
  rfl
end
def OneS (G : List Sl → FR) : Prop := ∀ n : Nat, n ≤ 4 → G [.val (.int n)] = .ok (polyD (oneP n)) []
theorem oneS (F : Nat → List Sl → FR) (W : Nat) : OneS (runFn F W f_one_of) := by
  intro n h
  rw [runFn_at rfl rfl]
  have m := mulD_nought (n := (n : Int)) (by omega) (by omega) 0
  rw [Int.toNat_natCast] at m
  have e : polyD (oneP n) = .tuple [.tuple [tupI (List.replicate n 0), ratD 1]] := rfl
  rw [e]
  generalize tupI (List.replicate n 0) = z at *
  simp -implicitDefEqProofs [f_one_of, m, outsOf]
def RaisedS (G : List Sl → FR) : Prop := ∀ (n x d N L : Nat) (p : List Tm) (k : Nat), RpOk n x d N L p k → n ≤ 4 → k ≤ 1000 → G [.val (.int n), .val (polyD p), .val (.int k)] = .ok (polyD (rp n p k)) []
theorem raisedS (F : Nat → List Sl → FR) (W c c2 : Nat) (ho : OneS (F c)) (hp : ProdS (F c2)) : RaisedS (runFn F W (f_raised c c2)) := by
  intro n x d N L p k h n4 hk
  suffices hw : (runFn F W (f_raised c c2) [.val (.int n), .val (polyD p), .val (.int k)]).wp fun x o => x = polyD (rp n p k) ∧ o = [] by
    obtain ⟨_, _, e, rfl, rfl⟩ := FR.wp_elim hw
    exact e
  refine wp_run rfl rfl ?_
  simp -implicitDefEqProofs [f_raised, ho n n4, rng1_ok (show (0 : Int) ≤ k by omega) (show (k : Int) ≤ 1000 by omega)]
  refine wp_forL (fun i μ => ∃ s : Sl, μ = [.val (.int n), .val (polyD p), .val (.int k), .val (polyD (rp n p i)), s] ∧ FrS s) _ _ ⟨.no, rfl, rfl⟩ ?_ ?_
  · rintro i d μ Q' hd ⟨s, rfl, f⟩ hk2
    obtain ⟨hi, rfl⟩ := rangeD_get hd
    have e := (h.to (show i + 1 ≤ k by omega)).pstep hp
    have hk2 := hk2 [.val (.int n), .val (polyD p), .val (.int k), .val (polyD (rp n p (i + 1))), .val (.int i)] ⟨_, rfl, rfl⟩
    generalize rp n p (i + 1) = A at *
    simp -implicitDefEqProofs [isLck_f f, e]
    exact hk2
  · rintro μ ⟨s, rfl, f⟩
    rw [rangeD_len]
    simp -implicitDefEqProofs [outsOf]
def letK (n j : Nat) : List Int := (List.range n).map fun i => if i = j then 1 else 0
theorem letter_comp (F : Nat → List Sl → FR) {n j v w : Nat} {μ : Mu} (h : ∀ i < n, turnR [v] false (ev F (.b1 .int (.e (.cmp .eq (.e (.var v)) (.e (.var w)))))) none (.int (i : Int)) μ = .ok (some (.int (if i = j then 1 else 0))) μ) :
    compL (turnR [v] false (ev F (.b1 .int (.e (.cmp .eq (.e (.var v)) (.e (.var w)))))) none) ((List.range n).map fun (i : Nat) => PyData.int (i : Int)) [] μ = .ok ((letK n j).map .int) μ := by
  refine (compL_on (fun (i : Nat) => PyData.int (i : Int)) (fun i => PyData.int (if i = j then 1 else 0)) (List.range n) [] fun i hi => h i (List.mem_range.mp hi)).trans ?_
  rw [List.nil_append]
  unfold letK
  rw [List.map_map]
  rfl
def LetS (G : List Sl → FR) : Prop := ∀ (n j : Nat), n ≤ 4 → G [.val (.int n), .val (.int j)] = .ok (polyD [(letK n j, 1)]) []
theorem letS (F : Nat → List Sl → FR) (W : Nat) : LetS (runFn F W f_letter_of) := by
  intro n j h
  rw [runFn_at rfl rfl]
  have e := letter_comp F (n := n) (j := j) (v := 2) (w := 1) (μ := [.val (.int n), .val (.int j), .no]) fun i hi => by
    by_cases q : i = j
    · subst q; simp -implicitDefEqProofs [intD]
    · have q' : ¬ ((i : Int) = (j : Int)) := by omega
      simp -implicitDefEqProofs [intD, q, q']
  have r0 : rng1D (.int (n : Int)) [.val (.int n), .val (.int j), .no] = .ok ((List.range n).map fun (j : Nat) => PyData.int (j : Int)) [.val (.int n), .val (.int j), .no] := by
    rw [rng1_ok (by omega) (by omega), Int.toNat_natCast, rangeD_map]
  have e2 : polyD [(letK n j, 1)] = .tuple [.tuple [.tuple ((letK n j).map .int), ratD 1]] := rfl
  rw [e2]
  generalize (letK n j).map PyData.int = z at *
  simp -implicitDefEqProofs [f_letter_of, r0, e, outsOf]
theorem shw_polyB {n x d N L : Nat} {p : List Tm} (h : Pb n x d N L p) (hn : n ≤ 4) (hx : x < 2 ^ 200) (hd : 0 < d) (h1 : d < 2 ^ 200) (h2 : N < 2 ^ 200) (hL : L ≤ 1024) : Shw 1678339 3 (polyD p) := by
  refine shw_tuple (n := 1024) (L := 1637) (k := 2) (by rw [List.length_map]; exact Nat.le_trans h.len hL) fun y hy => ?_
  obtain ⟨t, ht, rfl⟩ := List.mem_map.mp hy
  refine shw_tuple (n := 2) (L := 815) (k := 1) (Nat.le_refl 2) fun z hz => ?_
  simp at hz
  rcases hz with rfl | rfl
  · refine shw_tupI (n := 4) (b := 200) (by rw [h.wid t ht]; exact hn) (by decide) (by decide) fun v hv => ?_
    have := h.rng t ht v hv
    exact Nat.lt_of_le_of_lt (show v.natAbs ≤ x by omega) hx
  · obtain ⟨a, b⟩ := (h.cd t ht).le hd
    refine (shw_tuple (n := 2) (L := 201) (k := 0) (Nat.le_refl 2) fun x hx => ?_ : Shw 409 1 (ratD t.2)).mono (by decide) (Nat.le_refl _)
    simp at hx
    rcases hx with rfl | rfl
    · exact shw_int (b := 200) (by decide) (by decide) (Nat.lt_of_le_of_lt b h2)
    · exact shw_int (b := 200) (by decide) (by decide) (by rw [Int.natAbs_natCast]; exact Nat.lt_of_le_of_lt a h1)
theorem joinP_zero {n : Nat} : ∀ {xs : List Int}, xs.length = n → joinP xs (List.replicate n 0) = xs := by
  intro xs h
  subst h
  induction xs with
  | nil => rfl
  | cons x xs ih =>
    show (x + 0) :: joinP xs (List.replicate xs.length 0) = _
    rw [ih, Int.add_zero]
theorem cn_one {t : Tm} (h : t.2 ≠ 0) : Cn2 [t] := ⟨List.pairwise_singleton _ _, fun u hu => by rw [List.mem_singleton] at hu; subst hu; exact h⟩
/-- the powers of a letter -/
theorem rp_letter (n : Nat) (e : List Int) (f : Nat → List Int) (h0 : f 0 = List.replicate n 0) (h1 : ∀ k, joinP (f k) e = f (k + 1)) : ∀ k, rp n [(e, 1)] k = [(f k, 1)]
  | 0 => by rw [h0]; rfl
  | k + 1 => by
    show gath (lprodL (rp n [(e, 1)] k) [(e, 1)]) = _
    rw [rp_letter n e f h0 h1 k]
    show gath [(joinP (f k) e, (1 : Rat) * 1)] = _
    rw [h1, Rat.one_mul]
    exact gath_self (cn_one (show (1 : Rat) ≠ 0 by decide))
end Mn
set_option Elab.async false
set_option linter.all false
set_option maxRecDepth 100000
set_option autoImplicit false
set_option maxHeartbeats 1000000
set_option exponentiation.threshold 10000
namespace Mn
open PySem PySem.Spec Lb
/-! ## things that are polynomials -/
def isI : D → Bool
  | .int _ => true
  | _ => false
theorem isi_at {d : D} (h : d.plain = true) (t : Ty) : isiD d t = some (match t with
  | .int => d.isInt
  | .bool => d.isBool
  | .tuple => d.isTuple
  | .list => d.isList
  | .str => d.isStr) := if_pos h
def CountS (G : List Sl → FR) : Prop := ∀ d : D, d.plain = true → G [.val d] = .ok (.bool (isI d)) []
theorem countS1 (F : Nat → List Sl → FR) (W : Nat) : CountS (runFn F W f_is_count) := by
  intro d h
  rw [runFn_at rfl rfl]
  have h1 := isi_at h .int
  have h2 := isi_at h .bool
  cases d with
  | dict es => cases h
  | _ => 
    simp only [PyData.isInt, PyData.isBool] at h1 h2
    simp -implicitDefEqProofs [f_is_count, h1, h2, outsOf, isI]
theorem countS2 (F : Nat → List Sl → FR) (W : Nat) : CountS (runFn F W f_l_whole) := by
  intro d h
  rw [runFn_at rfl rfl]
  have h1 := isi_at h .int
  have h2 := isi_at h .bool
  cases d with
  | dict es => cases h
  | _ => 
    simp only [PyData.isInt, PyData.isBool] at h1 h2
    simp -implicitDefEqProofs [f_l_whole, h1, h2, outsOf, isI]
/-- what is told of a thing: plain, its numbers not too great -/
structure Pls (d : D) : Prop where
  pl : d.plain = true
  sh : d.showable = true
theorem plainAll_iff {xs : List D} : PyData.plainAll xs = true ↔ ∀ d ∈ xs, d.plain = true := by
  induction xs with
  | nil => simp [PyData.plainAll]
  | cons x xs ih => simp [PyData.plainAll, ih]
theorem showAll_iff {xs : List D} : PyData.showableAll xs = true ↔ ∀ d ∈ xs, d.showable = true := by
  induction xs with
  | nil => simp [PyData.showableAll]
  | cons x xs ih => simp [PyData.showableAll, ih]
theorem Pls.tup {xs : List D} : Pls (.tuple xs) ↔ ∀ d ∈ xs, Pls d :=
  ⟨fun h d hd => ⟨plainAll_iff.mp h.pl d hd, showAll_iff.mp h.sh d hd⟩, fun h => ⟨plainAll_iff.mpr fun d hd => (h d hd).pl, showAll_iff.mpr fun d hd => (h d hd).sh⟩⟩
theorem Pls.lst {xs : List D} : Pls (.list xs) ↔ ∀ d ∈ xs, Pls d :=
  ⟨fun h d hd => ⟨plainAll_iff.mp h.pl d hd, showAll_iff.mp h.sh d hd⟩, fun h => ⟨plainAll_iff.mpr fun d hd => (h d hd).pl, showAll_iff.mpr fun d hd => (h d hd).sh⟩⟩
theorem Pls.int {i : Int} (h : Pls (.int i)) : i.natAbs < 2 ^ 1920 := by
  have := of_decide_eq_true (show decide (i.natAbs.log2 < 1920) = true from h.sh)
  by_cases z : i.natAbs = 0
  · rw [z]; exact Nat.two_pow_pos _
  · exact (Nat.log2_lt z).mp this
def ratB : D → Bool
  | .tuple [.int a, .int b] => decide (1 ≤ b) && decide (Nat.gcd a.natAbs b.natAbs = 1)
  | _ => false
theorem big_line {i : Int} (h : i.natAbs < 2 ^ 1920) : i.natAbs < 2 ^ 8900 := pow_up h (by decide)
def IsRatS (G : List Sl → FR) : Prop := ∀ d : D, Pls d → G [.val d] = .ok (.bool (ratB d)) []
theorem ix2_0 (x y : D) : ixD (.tuple [x, y]) (.int 0) = some x := atI_nat (by decide) rfl
theorem ix2_1 (x y : D) : ixD (.tuple [x, y]) (.int 1) = some y := atI_nat (by decide) rfl
theorem isRatS (F : Nat → List Sl → FR) (W c c2 : Nat) (hc : CountS (F c)) (hg : GcdS (F c2)) : IsRatS (runFn F W (f_is_ratio c c2)) := by
  intro d h
  rw [runFn_at rfl rfl]
  have h1 := isi_at h.pl .tuple
  cases d with
  | dict es => cases h.pl
  | tuple xs =>
    simp only [PyData.isTuple] at h1
    match xs, h, h1 with
    | [], h, h1 => simp -implicitDefEqProofs [f_is_ratio, h1, outsOf, ratB]
    | [x], h, h1 => simp -implicitDefEqProofs [f_is_ratio, h1, outsOf, ratB]
    | x :: y :: z :: r, h, h1 =>
      have l3 : ¬ (((r.length : Int) + 1 + 1 + 1) = 2) := by omega
      simp -implicitDefEqProofs [f_is_ratio, h1, outsOf, ratB, l3]
    | [x, y], h, h1 =>
      have hx := Pls.tup.mp h x (by simp)
      have hy := Pls.tup.mp h y (by simp)
      have c1 := hc x hx.pl
      have c2' := hc y hy.pl
      have i0 := ix2_0 x y
      have i1 := ix2_1 x y
      by_cases zx : isI x = true
      · by_cases zy : isI y = true
        · cases x <;> simp [isI] at zx
          cases y <;> simp [isI] at zy
          rename_i a b
          have c1 : F c [.val (.int a)] = .ok (.bool true) [] := c1
          have c2' : F c [.val (.int b)] = .ok (.bool true) [] := c2'
          by_cases q : 1 ≤ b
          · obtain ⟨bn, rfl⟩ : ∃ bn : Nat, b = bn := ⟨b.toNat, by omega⟩
            have g := hg a.natAbs bn (by have := big_line hy.int; rwa [Int.natAbs_natCast] at this)
            simp -implicitDefEqProofs [f_is_ratio, h1, outsOf, ratB, c1, c2', q, g, i0, i1]
            have e : ((a.natAbs.gcd bn : Nat) : Int) = 1 ↔ a.natAbs.gcd bn = 1 := by omega
            simp [e]
          · simp -implicitDefEqProofs [f_is_ratio, h1, outsOf, ratB, c1, c2', q, i0, i1]
        · have zy' : isI y = false := by simpa using zy
          rw [zy'] at c2'
          have e : ratB (.tuple [x, y]) = false := by
            unfold ratB
            split
            · rename_i q; cases q; cases zy'
            · rfl
          simp -implicitDefEqProofs [f_is_ratio, h1, outsOf, e, c1, c2', zx, i0, i1]
      · have zx' : isI x = false := by simpa using zx
        rw [zx'] at c1
        have e : ratB (.tuple [x, y]) = false := by
          unfold ratB
          split
          · rename_i q; cases q; cases zx'
          · rfl
        simp -implicitDefEqProofs [f_is_ratio, h1, outsOf, e, c1, i0]
  | _ => 
    simp only [PyData.isTuple] at h1
    simp -implicitDefEqProofs [f_is_ratio, h1, outsOf, ratB]
end Mn
set_option Elab.async false
set_option linter.all false
set_option maxRecDepth 100000
set_option autoImplicit false
set_option maxHeartbeats 1000000
namespace Mn
open PySem PySem.Spec Lb
def natB : D → Bool
  | .int i => decide (0 ≤ i)
  | _ => false
def powB (n : Nat) : D → Bool
  | .tuple xs => decide (xs.length = n) && xs.all natB
  | _ => false
def ratNz : D → Bool
  | .tuple [.int a, .int b] => decide (1 ≤ b) && decide (Nat.gcd a.natAbs b.natAbs = 1) && decide (a ≠ 0)
  | _ => false
def termB (n : Nat) : D → Bool
  | .tuple [x, y] => powB n x && ratNz y
  | _ => false
theorem isPair_plain {d : D} (h : d.plain = true) : isPair d = false := by
  cases d <;> first | rfl | cases h
def PowBS (G : List Sl → FR) : Prop := ∀ (n : Nat) (d : D), Pls d → G [.val (.int n), .val d] = .ok (.bool (powB n d)) []
theorem powBS (F : Nat → List Sl → FR) (W c : Nat) (hc : CountS (F c)) : PowBS (runFn F W (f_are_powers c)) := by
  intro n d h
  rw [runFn_at rfl rfl]
  have h1 := isi_at h.pl .tuple
  cases d with
  | dict es => cases h.pl
  | tuple xs =>
    simp only [PyData.isTuple] at h1
    by_cases hl : xs.length = n
    · have hl' : ((xs.length : Int) = n) := by omega
      have e : compL (turnR [2] false (ev F (.and (.cons (.call c (.cons (.v (.var 2)) .nil)) (.cons (.cmp .ge (.e (.var 2)) (.e (.int 0))) .nil)))) none) xs [] [.val (.int n), .val (.tuple xs), .no] = .ok ((xs.map natB).map .bool) [.val (.int n), .val (.tuple xs), .no] := by
        have := compL_map (f := turnR [2] false (ev F (.and (.cons (.call c (.cons (.v (.var 2)) .nil)) (.cons (.cmp .ge (.e (.var 2)) (.e (.int 0))) .nil)))) none) (μ := [.val (.int n), .val (.tuple xs), .no]) (fun x => PyData.bool (natB x)) xs [] fun x hx => by
          have px := (Pls.tup.mp h x hx).pl
          have c1 := hc x px
          have pp := isPair_plain px
          cases x with
          | int i =>
            have c1 : F c [.val (.int i)] = .ok (.bool true) [] := c1
            simp -implicitDefEqProofs [c1, natB]
          | dict _ => cases px
          | _ =>
            simp only [isI] at c1
            simp -implicitDefEqProofs [c1, natB, pp]
        rw [this, List.map_map]; rfl
      have ep : powB n (.tuple xs) = (xs.map natB).all id := by
        show (decide (xs.length = n) && xs.all natB) = _
        rw [decide_eq_true hl, Bool.true_and, List.all_map]; rfl
      rw [ep]
      generalize xs.map natB = B at *
      simp -implicitDefEqProofs [f_are_powers, h1, hl', e, outsOf]
    · have hl' : ¬ ((xs.length : Int) = n) := by omega
      have ep : powB n (.tuple xs) = false := by
        show (decide (xs.length = n) && xs.all natB) = _
        rw [decide_eq_false hl]; rfl
      simp -implicitDefEqProofs [f_are_powers, h1, hl', ep, outsOf]
  | _ =>
    simp only [PyData.isTuple] at h1
    simp -implicitDefEqProofs [f_are_powers, h1, outsOf, powB]
def TermBS (G : List Sl → FR) : Prop := ∀ (n : Nat) (d : D), Pls d → G [.val (.int n), .val d] = .ok (.bool (termB n d)) []
theorem ratB_inv {y : D} (h : ratB y = true) : ∃ a b : Int, y = .tuple [.int a, .int b] ∧ 1 ≤ b ∧ Nat.gcd a.natAbs b.natAbs = 1 := by
  unfold ratB at h
  split at h
  · rename_i a b
    simp only [Bool.and_eq_true, decide_eq_true_eq] at h
    exact ⟨a, b, rfl, h⟩
  · cases h
theorem ratNz_of {y : D} (h : ratB y = false) : ratNz y = false := by
  unfold ratNz
  split
  · rename_i a b
    have h : (decide (1 ≤ b) && decide (Nat.gcd a.natAbs b.natAbs = 1)) = false := h
    rw [h]; rfl
  · rfl
theorem nought_at {a b : Int} (h1 : 1 ≤ b) (h2 : Nat.gcd a.natAbs b.natAbs = 1) : eqD (.tuple [.int a, .int b]) (ratD 0) = some (decide (a = 0)) := by
  have e := eqD_tupI [a, b] [0, 1]
  have e : eqD (.tuple [.int a, .int b]) (ratD 0) = some (decide ([a, b] = [0, 1])) := e
  rw [e]
  congr 1
  by_cases z : a = 0
  · subst z
    have : b = 1 := by
      simp at h2; omega
    simp [this]
  · simp [z]
theorem termBS (F : Nat → List Sl → FR) (W c c2 : Nat) (hp : PowBS (F c)) (hr : IsRatS (F c2)) : TermBS (runFn F W (f_is_term c c2)) := by
  intro n d h
  rw [runFn_at rfl rfl]
  have h1 := isi_at h.pl .tuple
  cases d with
  | dict es => cases h.pl
  | tuple xs =>
    simp only [PyData.isTuple] at h1
    match xs, h, h1 with
    | [], h, h1 => simp -implicitDefEqProofs [f_is_term, h1, outsOf, termB]
    | [x], h, h1 => simp -implicitDefEqProofs [f_is_term, h1, outsOf, termB]
    | x :: y :: z :: r, h, h1 =>
      have l3 : ¬ (((r.length : Int) + 1 + 1 + 1) = 2) := by omega
      simp -implicitDefEqProofs [f_is_term, h1, outsOf, termB, l3]
    | [x, y], h, h1 =>
      have p1 := hp n x (Pls.tup.mp h x (by simp))
      have p2 := hr y (Pls.tup.mp h y (by simp))
      have i0 := ix2_0 x y
      have i1 := ix2_1 x y
      have et : termB n (.tuple [x, y]) = (powB n x && ratNz y) := rfl
      rw [et]
      generalize powB n x = B at *
      cases B with
      | false => simp -implicitDefEqProofs [f_is_term, h1, outsOf, p1, i0]
      | true =>
        cases hy : ratB y with
        | false =>
          rw [hy] at p2
          rw [ratNz_of hy]
          simp -implicitDefEqProofs [f_is_term, h1, outsOf, p1, p2, i0, i1]
        | true =>
          rw [hy] at p2
          obtain ⟨a, b, rfl, g1, g2⟩ := ratB_inv hy
          have e := nought_at g1 g2
          have en : ratNz (.tuple [.int a, .int b]) = !decide (a = 0) := by
            show (decide (1 ≤ b) && decide (Nat.gcd a.natAbs b.natAbs = 1) && decide (a ≠ 0)) = _
            rw [decide_eq_true g1, decide_eq_true g2]; simp
          rw [en]
          simp -implicitDefEqProofs [f_is_term, h1, outsOf, p1, p2, i0, i1, e]
  | _ =>
    simp only [PyData.isTuple] at h1
    simp -implicitDefEqProofs [f_is_term, h1, outsOf, termB]
theorem eqD_nilG {l : List D} (h : ∀ d ∈ l, d.plain = true) : eqD (.list l) (.list []) = some l.isEmpty := by
  unfold eqD
  rw [if_pos]
  · cases l <;> rfl
  · have h1 : PyData.plain (.list l) = true := plainAll_of (xs := l) h
    have h2 : PyData.depth (.list []) = 1 := rfl
    rw [h1]
    simp [PyData.plain, PyData.plainAll, h2]
    omega
theorem ltermBS (F : Nat → List Sl → FR) (W c c2 : Nat) (hc : CountS (F c)) (hg : GcdS (F c2)) : TermBS (runFn F W (f_l_is_term c c2)) := by
  intro n d h
  rw [runFn_at rfl rfl]
  have h1 := isi_at h.pl .tuple
  cases d with
  | dict es => cases h.pl
  | tuple xs =>
    simp only [PyData.isTuple] at h1
    match xs, h, h1 with
    | [], h, h1 => simp -implicitDefEqProofs [f_l_is_term, h1, outsOf, termB]
    | [x], h, h1 => simp -implicitDefEqProofs [f_l_is_term, h1, outsOf, termB]
    | x :: y :: z :: r, h, h1 =>
      have l3 : ¬ (((r.length : Int) + 1 + 1 + 1) = 2) := by omega
      simp -implicitDefEqProofs [f_l_is_term, h1, outsOf, termB, l3]
    | [x, y], h, h1 =>
      have hx := Pls.tup.mp h x (by simp)
      have hy := Pls.tup.mp h y (by simp)
      have i0 := ix2_0 x y
      have i1 := ix2_1 x y
      have et : termB n (.tuple [x, y]) = (powB n x && ratNz y) := rfl
      rw [et]
      have x1 := isi_at hx.pl .tuple
      cases x with
      | dict es => cases hx.pl
      | tuple ks =>
        simp only [PyData.isTuple] at x1
        have ep : powB n (.tuple ks) = (decide (ks.length = n) && ks.all natB) := rfl
        rw [ep]
        by_cases hl : ks.length = n
        · have hl' : ((ks.length : Int) = n) := by omega
          have e : compL (turnR [3] false (ev F (.var 3)) (some (testB F (.or (.cons (.not (.call c (.cons (.v (.var 3)) .nil))) (.cons (.cmp .lt (.e (.var 3)) (.e (.int 0))) .nil)))))) ks [] [.val (.int n), .val (.tuple [.tuple ks, y]), .no, .no] = .ok (ks.filter fun x => !natB x) [.val (.int n), .val (.tuple [.tuple ks, y]), .no, .no] := by
            have := compL_filter (f := turnR [3] false (ev F (.var 3)) (some (testB F (.or (.cons (.not (.call c (.cons (.v (.var 3)) .nil))) (.cons (.cmp .lt (.e (.var 3)) (.e (.int 0))) .nil)))))) (μ := [.val (.int n), .val (.tuple [.tuple ks, y]), .no, .no]) id id (fun x => !natB x) ks [] fun x hx' => by
              have px := (Pls.tup.mp hx x hx').pl
              have c1 := hc x px
              have pp := isPair_plain px
              cases x with
              | int i =>
                have c1 : F c [.val (.int i)] = .ok (.bool true) [] := c1
                by_cases z : 0 ≤ i
                · have z' : ¬ i < 0 := by omega
                  simp -implicitDefEqProofs [c1, natB, z, z']
                · have z' : i < 0 := by omega
                  simp -implicitDefEqProofs [c1, natB, z, z']
              | dict _ => cases px
              | _ =>
                simp only [isI] at c1
                simp -implicitDefEqProofs [c1, natB, pp]
            rw [List.map_id, List.map_id, List.nil_append] at this
            exact this
          have en := eqD_nilG (l := ks.filter fun x => !natB x) fun d hd => (Pls.tup.mp hx d ((List.mem_filter.mp hd).1)).pl
          have ea : (ks.filter fun x => !natB x).isEmpty = ks.all natB := by
            clear e en hl hl' hx x1 h h1 i0 i1 et ep
            induction ks with
            | nil => rfl
            | cons k ks ih =>
              rw [List.all_cons]
              cases q : natB k with
              | true => rw [List.filter_cons_of_neg (by rw [q]; decide), ih]; rfl
              | false => rw [List.filter_cons_of_pos (by rw [q]; rfl)]; rfl
          rw [ea] at en
          generalize (ks.filter fun x => !natB x) = L1 at *
          generalize ks.all natB = B at *
          rw [decide_eq_true hl]
          cases B with
          | false =>
            simp -implicitDefEqProofs [f_l_is_term, h1, outsOf, i0, x1, hl', e, en]
          | true =>
            have y1 := isi_at hy.pl .tuple
            cases y with
            | dict es => cases hy.pl
            | tuple qs =>
              simp only [PyData.isTuple] at y1
              match qs, hy, y1, i1, i0, e, h1 with
              | [], hy, y1, i1, i0, e, h1 => simp -implicitDefEqProofs [f_l_is_term, h1, outsOf, i0, i1, x1, hl', e, en, y1, ratNz]
              | [u], hy, y1, i1, i0, e, h1 => simp -implicitDefEqProofs [f_l_is_term, h1, outsOf, i0, i1, x1, hl', e, en, y1, ratNz]
              | u :: v :: w :: r, hy, y1, i1, i0, e, h1 =>
                have l3 : ¬ (((r.length : Int) + 1 + 1 + 1) = 2) := by omega
                simp -implicitDefEqProofs [f_l_is_term, h1, outsOf, i0, i1, x1, hl', e, en, y1, l3, ratNz]
              | [u, v], hy, y1, i1, i0, e, h1 =>
                have hu := Pls.tup.mp hy u (by simp)
                have hv := Pls.tup.mp hy v (by simp)
                have cu := hc u hu.pl
                have cv := hc v hv.pl
                have j0 := ix2_0 u v
                have j1 := ix2_1 u v
                by_cases zu : isI u = true
                · by_cases zv : isI v = true
                  · cases u <;> simp [isI] at zu
                    cases v <;> simp [isI] at zv
                    rename_i a b
                    have cu : F c [.val (.int a)] = .ok (.bool true) [] := cu
                    have cv : F c [.val (.int b)] = .ok (.bool true) [] := cv
                    have er : ratNz (.tuple [.int a, .int b]) = (decide (1 ≤ b) && decide (Nat.gcd a.natAbs b.natAbs = 1) && decide (a ≠ 0)) := rfl
                    rw [er]
                    by_cases q : 1 ≤ b
                    · have q' : ¬ b < 1 := by omega
                      obtain ⟨bn, rfl⟩ : ∃ bn : Nat, b = bn := ⟨b.toNat, by omega⟩
                      have g := hg a.natAbs bn (by have := big_line hv.int; rwa [Int.natAbs_natCast] at this)
                      have ei : ((a.natAbs.gcd bn : Nat) : Int) = 1 ↔ a.natAbs.gcd bn = 1 := by omega
                      rw [decide_eq_true q, Int.natAbs_natCast]
                      by_cases z : a = 0
                      · subst z
                        simp -implicitDefEqProofs [f_l_is_term, h1, outsOf, i0, i1, x1, hl', e, en, y1, cu, cv, j0, j1, q']
                      · simp -implicitDefEqProofs [f_l_is_term, h1, outsOf, i0, i1, x1, hl', e, en, y1, cu, cv, j0, j1, q', z, g]
                        simp [ei]
                    · have q' : b < 1 := by omega
                      rw [decide_eq_false q]
                      simp -implicitDefEqProofs [f_l_is_term, h1, outsOf, i0, i1, x1, hl', e, en, y1, cu, cv, j0, j1, q']
                  · have zv' : isI v = false := by simpa using zv
                    rw [zv'] at cv
                    have er : ratNz (.tuple [u, v]) = false := by
                      unfold ratNz
                      split
                      · rename_i q; cases q; cases zv'
                      · rfl
                    simp -implicitDefEqProofs [f_l_is_term, h1, outsOf, i0, i1, x1, hl', e, en, y1, cu, cv, zu, j0, j1, er]
                · have zu' : isI u = false := by simpa using zu
                  rw [zu'] at cu
                  have er : ratNz (.tuple [u, v]) = false := by
                    unfold ratNz
                    split
                    · rename_i q; cases q; cases zu'
                    · rfl
                  simp -implicitDefEqProofs [f_l_is_term, h1, outsOf, i0, i1, x1, hl', e, en, y1, cu, j0, er]
            | _ =>
              simp only [PyData.isTuple] at y1
              simp -implicitDefEqProofs [f_l_is_term, h1, outsOf, i0, i1, x1, hl', e, en, y1, ratNz]
        · have hl' : ¬ ((ks.length : Int) = n) := by omega
          rw [decide_eq_false hl]
          simp -implicitDefEqProofs [f_l_is_term, h1, outsOf, i0, x1, hl']
      | _ =>
        simp only [PyData.isTuple] at x1
        simp -implicitDefEqProofs [f_l_is_term, h1, outsOf, i0, x1, powB]
  | _ =>
    simp only [PyData.isTuple] at h1
    simp -implicitDefEqProofs [f_l_is_term, h1, outsOf, termB]
end Mn
set_option Elab.async false
set_option linter.all false
set_option maxRecDepth 100000
set_option autoImplicit false
set_option maxHeartbeats 1000000
namespace Mn
open PySem PySem.Spec Lb
def keyOf : D → List Int
  | .tuple [.tuple ks, _] => (intsOf ks).getD []
  | _ => []
theorem keyOf_term (t : Tm) : keyOf (termD t) = t.1 := by
  show (intsOf (t.1.map .int)).getD [] = _
  rw [intsOf_map]; rfl
def fallB : List (List Int) → Bool
  | a :: b :: r => decide (b < a) && fallB (b :: r)
  | _ => true
def polyB (n : Nat) : D → Bool
  | .tuple xs => xs.all (termB n) && fallB (xs.map keyOf)
  | _ => false
theorem fall_range : ∀ ks : List (List Int), ((List.range (ks.length - 1)).map fun i => decide (ks.getD (i + 1) [] < ks.getD i [])).all id = fallB ks
  | [] => rfl
  | [_] => rfl
  | a :: b :: r => by
    have ih := fall_range (b :: r)
    show ((List.range (r.length + 1)).map _).all id = (decide (b < a) && fallB (b :: r))
    rw [← ih, List.range_succ_eq_map, List.map_cons, List.all_cons, List.map_map]
    rfl
structure TmOk (n : Nat) (t : Tm) : Prop where
  wid : t.1.length = n
  nn : ∀ y ∈ t.1, 0 ≤ y
  nz : t.2 ≠ 0
theorem natB_ints : ∀ {xs : List D}, xs.all natB = true → ∃ ks : List Int, xs = ks.map .int ∧ ∀ y ∈ ks, 0 ≤ y
  | [], _ => ⟨[], rfl, by simp⟩
  | x :: xs, h => by
    rw [List.all_cons, Bool.and_eq_true] at h
    obtain ⟨ks, rfl, hk⟩ := natB_ints h.2
    cases x <;> simp [natB] at h
    rename_i i
    refine ⟨i :: ks, rfl, fun y hy => ?_⟩
    rcases List.mem_cons.mp hy with rfl | hy
    · exact h.1
    · exact hk y hy
theorem termB_inv {n : Nat} {x : D} (h : termB n x = true) : ∃ t : Tm, x = termD t ∧ TmOk n t := by
  unfold termB at h
  split at h
  · rename_i x y
    rw [Bool.and_eq_true] at h
    obtain ⟨h1, h2⟩ := h
    unfold powB at h1
    split at h1
    · rename_i xs
      rw [Bool.and_eq_true, decide_eq_true_eq] at h1
      obtain ⟨ks, rfl, hk⟩ := natB_ints h1.2
      unfold ratNz at h2
      split at h2
      · rename_i a b
        simp only [Bool.and_eq_true, decide_eq_true_eq] at h2
        obtain ⟨⟨g1, g2⟩, g3⟩ := h2
        refine ⟨(ks, ⟨a, b.toNat, by omega, by rw [Nat.Coprime]; rw [show b.toNat = b.natAbs by omega]; exact g2⟩), ?_, by have := h1.1; simpa using this, hk, ?_⟩
        · show PyData.tuple [.tuple (ks.map .int), .tuple [.int a, .int b]] = .tuple [.tuple (ks.map .int), .tuple [.int a, .int (b.toNat : Int)]]
          rw [show (b.toNat : Int) = b by omega]
        · intro z
          have := Rat.num_eq_zero.mpr z
          exact g3 this
      · cases h2
    · cases h1
  · cases h
theorem termB_of {n : Nat} {t : Tm} (h : TmOk n t) : termB n (termD t) = true := by
  show (powB n (.tuple (t.1.map .int)) && ratNz (.tuple [.int t.2.num, .int (t.2.den : Int)])) = true
  have h1 : powB n (.tuple (t.1.map .int)) = true := by
    show (decide ((t.1.map PyData.int).length = n) && (t.1.map PyData.int).all natB) = true
    rw [List.length_map, decide_eq_true h.wid, Bool.true_and, List.all_map, List.all_eq_true]
    intro y hy
    exact decide_eq_true (h.nn y hy)
  have h2 : ratNz (.tuple [.int t.2.num, .int (t.2.den : Int)]) = true := by
    show (decide (1 ≤ (t.2.den : Int)) && decide (Nat.gcd t.2.num.natAbs (t.2.den : Int).natAbs = 1) && decide (t.2.num ≠ 0)) = true
    have hd := t.2.den_nz
    have hr := t.2.reduced
    rw [Int.natAbs_natCast, decide_eq_true (show 1 ≤ (t.2.den : Int) by omega), decide_eq_true (show Nat.gcd t.2.num.natAbs t.2.den = 1 from hr), decide_eq_true (show t.2.num ≠ 0 from fun z => h.nz (Rat.num_eq_zero.mp z))]
    rfl
  rw [h1, h2]; rfl
theorem allB_inv {n : Nat} : ∀ {xs : List D}, xs.all (termB n) = true → ∃ p : List Tm, xs = p.map termD ∧ ∀ t ∈ p, TmOk n t
  | [], _ => ⟨[], rfl, by simp⟩
  | x :: xs, h => by
    rw [List.all_cons, Bool.and_eq_true] at h
    obtain ⟨t, rfl, ht⟩ := termB_inv h.1
    obtain ⟨p, rfl, hp⟩ := allB_inv h.2
    refine ⟨t :: p, rfl, fun u hu => ?_⟩
    rcases List.mem_cons.mp hu with rfl | hu
    · exact ht
    · exact hp u hu
theorem keys_terms (p : List Tm) : (p.map termD).map keyOf = p.map (·.1) := by
  rw [List.map_map]
  apply List.map_congr_left
  intro t _
  exact keyOf_term t
theorem rng2_one {j : Nat} (h : j ≤ 1000000) (μ : Mu) : rng2D (.int 1) (.int (j : Int)) μ = .ok ((List.range (j - 1)).map fun (i : Nat) => PyData.int (1 + (i : Int))) μ := by
  show (if smallI 1 && smallI (j : Int) && sizeOkN ((j : Int) - 1).toNat then Rs.ok (rangeD 1 ((j : Int) - 1).toNat) μ else .st) = _
  rw [if_pos]
  · rw [show ((j : Int) - 1).toNat = j - 1 by omega]; rfl
  · have h1 : smallI (j : Int) = true := by
      unfold smallI
      simp only [Bool.and_eq_true, decide_eq_true_eq]
      omega
    have h2 : sizeOkN ((j : Int) - 1).toNat = true := decide_eq_true (by omega)
    rw [h1, h2]; rfl
def PolyBS (G : List Sl → FR) : Prop := ∀ (n : Nat) (d : D), Pls d → (∀ xs, d = .tuple xs → xs.length ≤ 1000000) → G [.val (.int n), .val d] = .ok (.bool (polyB n d)) []
theorem get_key {p : List Tm} {i : Nat} {t : Tm} (h : p[i]? = some t) : (p.map (·.1)).getD i [] = t.1 := by
  simp [List.getD, h]
theorem polyBS (F : Nat → List Sl → FR) (W c : Nat) (ht : TermBS (F c)) : PolyBS (runFn F W (f_is_poly c)) := by
  intro n d h hl
  rw [runFn_at rfl rfl]
  have h1 := isi_at h.pl .tuple
  cases d with
  | dict es => cases h.pl
  | tuple xs =>
    have hl := hl xs rfl
    simp only [PyData.isTuple] at h1
    have e : compL (turnR [3] false (ev F (.call c (.cons (.v (.var 0)) (.cons (.v (.var 3)) .nil)))) none) xs [] [.val (.int n), .val (.tuple xs), .no, .no] = .ok ((xs.map (termB n)).map .bool) [.val (.int n), .val (.tuple xs), .no, .no] := by
      have := compL_map (f := turnR [3] false (ev F (.call c (.cons (.v (.var 0)) (.cons (.v (.var 3)) .nil)))) none) (μ := [.val (.int n), .val (.tuple xs), .no, .no]) (fun x => PyData.bool (termB n x)) xs [] fun x hx => by
        have px := Pls.tup.mp h x hx
        have c1 := ht n x px
        have pp := isPair_plain px.pl
        generalize termB n x = B at *
        simp -implicitDefEqProofs [c1, pp]
      rw [this, List.map_map]; rfl
    have ep : polyB n (.tuple xs) = (xs.all (termB n) && fallB (xs.map keyOf)) := rfl
    rw [ep]
    have ea : (xs.map (termB n)).all id = xs.all (termB n) := by rw [List.all_map]; rfl
    cases hb : xs.all (termB n) with
    | false =>
      rw [hb] at ea
      generalize xs.map (termB n) = B at *
      simp -implicitDefEqProofs [f_is_poly, h1, e, ea, outsOf]
    | true =>
      rw [hb] at ea
      obtain ⟨p, rfl, hp⟩ := allB_inv hb
      rw [keys_terms, ← fall_range, List.length_map]
      rw [List.length_map] at hl
      have tp : PyData.tuple (p.map termD) = polyD p := rfl
      have e2 : compL (turnR [2] false (ev F (.cmp .gt (.e (.ix (.e (.ix (.e (.var 1)) (.bin .sub (.var 2) (.int 1)))) (.int 0))) (.e (.ix (.e (.ix (.e (.var 1)) (.var 2))) (.int 0))))) none) ((List.range (p.length - 1)).map fun (i : Nat) => PyData.int (1 + (i : Int))) [] [.val (.int n), .val (polyD p), .no, .no] = .ok (((List.range (p.length - 1)).map fun i => decide ((p.map (·.1)).getD (i + 1) [] < (p.map (·.1)).getD i [])).map .bool) [.val (.int n), .val (polyD p), .no, .no] := by
        have := compL_on (f := turnR [2] false (ev F (.cmp .gt (.e (.ix (.e (.ix (.e (.var 1)) (.bin .sub (.var 2) (.int 1)))) (.int 0))) (.e (.ix (.e (.ix (.e (.var 1)) (.var 2))) (.int 0))))) none) (μ := [.val (.int n), .val (polyD p), .no, .no]) (fun (i : Nat) => PyData.int (1 + (i : Int))) (fun i => PyData.bool (decide ((p.map (·.1)).getD (i + 1) [] < (p.map (·.1)).getD i []))) (List.range (p.length - 1)) [] fun i hi => by
          have hi := List.mem_range.mp hi
          obtain ⟨t, ht'⟩ : ∃ t, p[i]? = some t := ⟨_, List.getElem?_eq_getElem (by omega)⟩
          obtain ⟨u, hu'⟩ : ∃ u, p[i + 1]? = some u := ⟨_, List.getElem?_eq_getElem (by omega)⟩
          have i1 : ixD (polyD p) (.int (i : Int)) = some (termD t) := atI_nat (xs := p.map termD) (by omega) (by rw [Int.toNat_natCast, List.getElem?_map, ht']; rfl)
          have i2 : ixD (polyD p) (.int (1 + (i : Int))) = some (termD u) := atI_nat (xs := p.map termD) (by omega) (by rw [show (1 + (i : Int)).toNat = i + 1 by omega, List.getElem?_map, hu']; rfl)
          rw [get_key ht', get_key hu']
          have sb : (1 : Int) + (i : Int) - 1 = i := by omega
          simp -implicitDefEqProofs [sb, i1, i2]
        rw [this, List.map_map]; rfl
      have r2 := rng2_one (j := p.length) hl
      have ll : lenD (polyD p) = some (.int (p.length : Int)) := by
        show some (PyData.int ((p.map termD).length : Int)) = _
        rw [List.length_map]
      have sq : seqD (polyD p) = some (p.map termD) := rfl
      rw [tp] at e h1 ⊢
      generalize (List.range (p.length - 1)).map (fun i => decide ((p.map (·.1)).getD (i + 1) [] < (p.map (·.1)).getD i [])) = B2 at *
      generalize (p.map termD).map (termB n) = B at *
      simp -implicitDefEqProofs [f_is_poly, h1, e, ea, outsOf, ll, r2, e2]
  | _ =>
    simp only [PyData.isTuple] at h1
    simp -implicitDefEqProofs [f_is_poly, h1, outsOf, polyB]
theorem leD_tupI (xs ys : List Int) : leD (tupI xs) (tupI ys) = some (!decide (ys < xs)) := by
  refine (if_pos (show ltOk (tupI xs) (tupI ys) = true from ltOkT xs ys)).trans ?_
  exact congrArg (fun b => some (!b)) ((PySem.W.dataLt_tuple _ _).trans (PySem.W.dataLt_ints ys xs))
theorem filter_isE {α : Type} (f : α → Bool) : ∀ xs : List α, (xs.filter fun x => !f x).isEmpty = xs.all f
  | [] => rfl
  | k :: ks => by
    rw [List.all_cons]
    cases q : f k with
    | true => rw [List.filter_cons_of_neg (by rw [q]; decide), filter_isE f ks]; rfl
    | false => rw [List.filter_cons_of_pos (by rw [q]; rfl)]; rfl
theorem lpolyBS (F : Nat → List Sl → FR) (W c : Nat) (ht : TermBS (F c)) : PolyBS (runFn F W (f_l_is_poly c)) := by
  intro n d h hl
  rw [runFn_at rfl rfl]
  have h1 := isi_at h.pl .tuple
  cases d with
  | dict es => cases h.pl
  | tuple xs =>
    have hl := hl xs rfl
    simp only [PyData.isTuple] at h1
    have e : compL (turnR [5] false (ev F (.var 5)) (some (testB F (.not (.call c (.cons (.v (.var 0)) (.cons (.v (.var 5)) .nil))))))) xs [] [.val (.int n), .val (.tuple xs), .no, .no, .no, .no] = .ok (xs.filter fun x => !termB n x) [.val (.int n), .val (.tuple xs), .no, .no, .no, .no] := by
      have := compL_filter (f := turnR [5] false (ev F (.var 5)) (some (testB F (.not (.call c (.cons (.v (.var 0)) (.cons (.v (.var 5)) .nil))))))) (μ := [.val (.int n), .val (.tuple xs), .no, .no, .no, .no]) id id (fun x => !termB n x) xs [] fun x hx => by
        have px := Pls.tup.mp h x hx
        have c1 := ht n x px
        have pp := isPair_plain px.pl
        generalize termB n x = B at *
        cases B with
        | true => simp -implicitDefEqProofs [c1, pp]
        | false => simp -implicitDefEqProofs [c1, pp]
      rw [List.map_id, List.map_id, List.nil_append] at this
      exact this
    have en := eqD_nilG (l := xs.filter fun x => !termB n x) fun d hd => (Pls.tup.mp h d (List.mem_filter.mp hd).1).pl
    have ea : (xs.filter fun x => !termB n x).isEmpty = xs.all (termB n) := filter_isE _ xs
    rw [ea] at en
    have ep : polyB n (.tuple xs) = (xs.all (termB n) && fallB (xs.map keyOf)) := rfl
    rw [ep]
    cases hb : xs.all (termB n) with
    | false =>
      rw [hb] at en
      generalize (xs.filter fun x => !termB n x) = L1 at *
      simp -implicitDefEqProofs [f_l_is_poly, h1, e, en, outsOf]
    | true =>
      rw [hb] at en
      generalize (xs.filter fun x => !termB n x) = L1 at *
      obtain ⟨p, rfl, hp⟩ := allB_inv hb
      rw [keys_terms, ← fall_range, List.length_map]
      rw [List.length_map] at hl
      have tp : PyData.tuple (p.map termD) = polyD p := rfl
      have c1 : compL (turnR [3] false (ev F (.ix (.e (.var 3)) (.int 0))) none) (p.map termD) [] [.val (.int n), .val (polyD p), .no, .no, .no, .no] = .ok ([] ++ p.map fun t => tupI t.1) [.val (.int n), .val (polyD p), .no, .no, .no, .no] := by
        refine compL_on _ _ _ _ fun t ht => ?_
        simp -implicitDefEqProofs
      rw [List.nil_append] at c1
      have e2 : compL (turnR [4] false (ev F (.var 4)) (some (testB F (.cmp .le (.e (.ix (.e (.var 2)) (.bin .sub (.var 4) (.int 1)))) (.e (.ix (.e (.var 2)) (.var 4))))))) ((List.range (p.length - 1)).map fun (i : Nat) => PyData.int (1 + (i : Int))) [] [.val (.int n), .val (polyD p), .val (.list (p.map fun t => tupI t.1)), .no, .no, .no] = .ok (((List.range (p.length - 1)).filter fun i => !decide ((p.map (·.1)).getD (i + 1) [] < (p.map (·.1)).getD i [])).map fun (i : Nat) => PyData.int (1 + (i : Int))) [.val (.int n), .val (polyD p), .val (.list (p.map fun t => tupI t.1)), .no, .no, .no] := by
        have := compL_filter (f := turnR [4] false (ev F (.var 4)) (some (testB F (.cmp .le (.e (.ix (.e (.var 2)) (.bin .sub (.var 4) (.int 1)))) (.e (.ix (.e (.var 2)) (.var 4))))))) (μ := [.val (.int n), .val (polyD p), .val (.list (p.map fun t => tupI t.1)), .no, .no, .no]) (fun (i : Nat) => PyData.int (1 + (i : Int))) (fun (i : Nat) => PyData.int (1 + (i : Int))) (fun i => !decide ((p.map (·.1)).getD (i + 1) [] < (p.map (·.1)).getD i [])) (List.range (p.length - 1)) [] fun i hi => by
          have hi := List.mem_range.mp hi
          obtain ⟨t, ht'⟩ : ∃ t, p[i]? = some t := ⟨_, List.getElem?_eq_getElem (by omega)⟩
          obtain ⟨u, hu'⟩ : ∃ u, p[i + 1]? = some u := ⟨_, List.getElem?_eq_getElem (by omega)⟩
          have i1 : L2.atI (p.map fun t => tupI t.1) (i : Int) = some (tupI t.1) := atI_nat (by omega) (by rw [Int.toNat_natCast, List.getElem?_map, ht']; rfl)
          have i2 : L2.atI (p.map fun t => tupI t.1) (1 + (i : Int)) = some (tupI u.1) := atI_nat (by omega) (by rw [show (1 + (i : Int)).toNat = i + 1 by omega, List.getElem?_map, hu']; rfl)
          rw [get_key ht', get_key hu']
          have sb : (1 : Int) + (i : Int) - 1 = i := by omega
          have lt := leD_tupI t.1 u.1
          generalize (p.map fun t => tupI t.1) = LL at *
          by_cases z : u.1 < t.1
          · rw [decide_eq_true z] at lt ⊢
            simp -implicitDefEqProofs [sb, i1, i2, lt]
          · rw [decide_eq_false z] at lt ⊢
            simp -implicitDefEqProofs [sb, i1, i2, lt]
        exact this
      have ef : ((List.range (p.length - 1)).map fun i => decide ((p.map (·.1)).getD (i + 1) [] < (p.map (·.1)).getD i [])).all id = (((List.range (p.length - 1)).filter fun i => !decide ((p.map (·.1)).getD (i + 1) [] < (p.map (·.1)).getD i [])).map fun (i : Nat) => PyData.int (1 + (i : Int))).isEmpty := by
        rw [List.all_map]
        generalize List.range (p.length - 1) = l
        induction l with
        | nil => rfl
        | cons k ks ih =>
          rw [List.all_cons]
          by_cases q : (p.map (·.1)).getD (k + 1) [] < (p.map (·.1)).getD k []
          · rw [List.filter_cons_of_neg (by rw [decide_eq_true q]; decide), ← ih]
            show (decide _ && _) = _
            rw [decide_eq_true q, Bool.true_and]
          · rw [List.filter_cons_of_pos (by rw [decide_eq_false q]; rfl)]
            show (decide _ && _) = _
            rw [decide_eq_false q]; rfl
      rw [ef]
      have en2 := eqD_nilG (l := ((List.range (p.length - 1)).filter fun i => !decide ((p.map (·.1)).getD (i + 1) [] < (p.map (·.1)).getD i [])).map fun (i : Nat) => PyData.int (1 + (i : Int))) fun d hd => by
        obtain ⟨i, _, rfl⟩ := List.mem_map.mp hd; rfl
      have r2 := rng2_one (j := p.length) hl
      have ll : lenD (.list (p.map fun t => tupI t.1)) = some (.int (p.length : Int)) := by
        show some (PyData.int ((p.map fun t => tupI t.1).length : Int)) = _
        rw [List.length_map]
      rw [tp] at e h1 ⊢
      generalize (((List.range (p.length - 1)).filter fun i => !decide ((p.map (·.1)).getD (i + 1) [] < (p.map (·.1)).getD i [])).map fun (i : Nat) => PyData.int (1 + (i : Int))) = L2 at *
      generalize (p.map fun t => tupI t.1) = LL at *
      simp -implicitDefEqProofs [f_l_is_poly, h1, e, en, c1, outsOf, ll, -lenD_list, r2, e2, en2]
  | _ =>
    simp only [PyData.isTuple] at h1
    simp -implicitDefEqProofs [f_l_is_poly, h1, outsOf, polyB]
theorem fall_of {p : List Tm} (h : Cn2 p) : fallB (p.map (·.1)) = true := by
  induction p with
  | nil => rfl
  | cons t p ih =>
    have := ih h.tail
    cases p with
    | nil => rfl
    | cons u p =>
      show (decide (u.1 < t.1) && fallB ((u :: p).map (·.1))) = true
      rw [this, Bool.and_true, decide_eq_true_eq]
      exact (List.pairwise_cons.mp h.fall).1 u List.mem_cons_self
theorem polyB_of {n : Nat} {p : List Tm} (h : Cn2 p) (hw : ∀ t ∈ p, t.1.length = n) (h0 : ∀ t ∈ p, ∀ y ∈ t.1, 0 ≤ y) : polyB n (polyD p) = true := by
  show ((p.map termD).all (termB n) && fallB ((p.map termD).map keyOf)) = true
  rw [keys_terms, fall_of h, Bool.and_true, List.all_map, List.all_eq_true]
  intro t ht
  exact termB_of ⟨hw t ht, h0 t ht, h.nz t ht⟩
end Mn
set_option Elab.async false
set_option linter.all false
set_option maxRecDepth 100000
set_option autoImplicit false
set_option maxHeartbeats 1000000
set_option exponentiation.threshold 10000
namespace Mn
open PySem PySem.Spec Lb
/-! ## things bent: their weights -/
mutual
def wt : D → Nat
  | .list xs => wts xs + 3
  | .tuple xs => wts xs + 3
  | _ => 2000
def wts : List D → Nat
  | [] => 0
  | x :: xs => wt x + 2 + wts xs
end
mutual
def lfB (b : Nat) : D → Bool
  | .none => true
  | .bool _ => true
  | .int i => decide (i.natAbs < 2 ^ b)
  | .str x => decide ((reprText x).length ≤ 2000)
  | .list xs => lfsB b xs
  | .tuple xs => lfsB b xs
  | .dict _ => false
def lfsB (b : Nat) : List D → Bool
  | [] => true
  | x :: xs => lfB b x && lfsB b xs
end
theorem lfs_iff {b : Nat} {xs : List D} : lfsB b xs = true ↔ ∀ d ∈ xs, lfB b d = true := by
  induction xs with
  | nil => simp [lfsB]
  | cons x xs ih => simp [lfsB, ih]
theorem wts_append : ∀ xs ys : List D, wts (xs ++ ys) = wts xs + wts ys
  | [], ys => by simp [wts]
  | x :: xs, ys => by
    rw [List.cons_append, wts, wts, wts_append xs ys]; omega
theorem wts_len : ∀ xs : List D, 2 * xs.length ≤ wts xs
  | [] => Nat.le_refl _
  | x :: xs => by
    have := wts_len xs
    rw [wts, List.length_cons]; omega
theorem wts_rev : ∀ xs : List D, wts xs.reverse = wts xs
  | [] => rfl
  | x :: xs => by
    rw [List.reverse_cons, wts_append, wts_rev xs, wts, wts, wts]; omega
theorem wts_take (xs : List D) (i : Nat) : wts (xs.take i) + wts (xs.drop i) = wts xs := by
  rw [← wts_append, List.take_append_drop]
mutual
theorem lf_mono {b c : Nat} (h : b ≤ c) : ∀ {d : D}, lfB b d = true → lfB c d = true
  | .none, _ => rfl
  | .bool _, _ => rfl
  | .int i, q => by
    have q := of_decide_eq_true (show decide (i.natAbs < 2 ^ b) = true from q)
    exact decide_eq_true (pow_up q h)
  | .str x, q => q
  | .list xs, q => lfs_mono h (xs := xs) q
  | .tuple xs, q => lfs_mono h (xs := xs) q
  | .dict _, q => by cases q
theorem lfs_mono {b c : Nat} (h : b ≤ c) : ∀ {xs : List D}, lfsB b xs = true → lfsB c xs = true
  | [], _ => rfl
  | x :: xs, q => by
    have q : (lfB b x && lfsB b xs) = true := q
    rw [Bool.and_eq_true] at q
    show (lfB c x && lfsB c xs) = true
    rw [lf_mono h q.1, lfs_mono h q.2]; rfl
end
mutual
theorem lf_shw {b : Nat} (hb : b ≤ 1000) (hb0 : 0 < b) : ∀ {d : D}, lfB b d = true → Shw (wt d) d.depth d
  | .none, _ => ⟨rfl, rfl, Nat.le_refl _, by decide⟩
  | .bool c, _ => by cases c <;> exact ⟨rfl, rfl, Nat.le_refl _, by decide⟩
  | .int i, q => by
    have q := of_decide_eq_true (show decide (i.natAbs < 2 ^ b) = true from q)
    exact (shw_int hb0 (by omega) q).mono (show b + 1 ≤ 2000 by omega) (Nat.le_refl _)
  | .str x, q => ⟨rfl, rfl, Nat.le_refl _, of_decide_eq_true (show decide ((reprText x).length ≤ 2000) = true from q)⟩
  | .list xs, q => by
    obtain ⟨h1, h2, h3⟩ := lfs_shw hb hb0 (xs := xs) q
    have l := listText_len_le (PyData.shownAll xs)
    refine ⟨h1, h2, Nat.le_refl _, ?_⟩
    show (listText (PyData.shownAll xs)).length ≤ wts xs + 3
    omega
  | .tuple xs, q => by
    obtain ⟨h1, h2, h3⟩ := lfs_shw hb hb0 (xs := xs) q
    have l := tupleText_len_le (PyData.shownAll xs)
    refine ⟨h1, h2, Nat.le_refl _, ?_⟩
    show (tupleText (PyData.shownAll xs)).length ≤ wts xs + 3
    omega
  | .dict _, q => by cases q
theorem lfs_shw {b : Nat} (hb : b ≤ 1000) (hb0 : 0 < b) : ∀ {xs : List D}, lfsB b xs = true → PyData.plainAll xs = true ∧ PyData.showableAll xs = true ∧ ((PyData.shownAll xs).map (·.length)).sum + 2 * (PyData.shownAll xs).length ≤ wts xs
  | [], _ => ⟨rfl, rfl, Nat.le_refl _⟩
  | x :: xs, q => by
    have q : (lfB b x && lfsB b xs) = true := q
    rw [Bool.and_eq_true] at q
    obtain ⟨h1, h2, h3⟩ := lfs_shw hb hb0 (xs := xs) q.2
    have h := lf_shw hb hb0 (d := x) q.1
    refine ⟨?_, ?_, ?_⟩
    · show (x.plain && PyData.plainAll xs) = true
      rw [h.pl, h1]; rfl
    · show (x.showable && PyData.showableAll xs) = true
      rw [h.sh, h2]; rfl
    · have := h.ln
      show ((x.shown :: PyData.shownAll xs).map (·.length)).sum + 2 * (x.shown :: PyData.shownAll xs).length ≤ wt x + 2 + wts xs
      rw [List.map_cons, List.sum_cons, List.length_cons]
      omega
end
end Mn
set_option Elab.async false
set_option linter.all false
set_option maxRecDepth 100000
set_option autoImplicit false
set_option maxHeartbeats 1000000
set_option exponentiation.threshold 10000
namespace Mn
open PySem PySem.Spec Lb
structure Bn (b w k : Nat) (d : D) : Prop where
  lf : lfB b d = true
  wt : wt d ≤ w
  dp : d.depth ≤ k
theorem depthAll_iff {xs : List D} {k : Nat} : PyData.depthAll xs ≤ k ↔ ∀ d ∈ xs, d.depth ≤ k := by
  induction xs with
  | nil => simp [PyData.depthAll]
  | cons x xs ih =>
    show max x.depth (PyData.depthAll xs) ≤ k ↔ _
    rw [Nat.max_le, ih]; simp
theorem Bn.mkT {b w k : Nat} {xs : List D} (h : ∀ x ∈ xs, lfB b x = true ∧ x.depth ≤ k) (hw : wts xs + 3 ≤ w) : Bn b w (k + 1) (.tuple xs) :=
  ⟨lfs_iff.mpr fun x hx => (h x hx).1, hw, Nat.succ_le_succ (depthAll_iff.mpr fun x hx => (h x hx).2)⟩
theorem Bn.mkL {b w k : Nat} {xs : List D} (h : ∀ x ∈ xs, lfB b x = true ∧ x.depth ≤ k) (hw : wts xs + 3 ≤ w) : Bn b w (k + 1) (.list xs) :=
  ⟨lfs_iff.mpr fun x hx => (h x hx).1, hw, Nat.succ_le_succ (depthAll_iff.mpr fun x hx => (h x hx).2)⟩
theorem Bn.tup {b w k : Nat} {xs : List D} (h : Bn b w k (.tuple xs)) : (∀ x ∈ xs, lfB b x = true ∧ x.depth + 1 ≤ k) ∧ wts xs + 3 ≤ w ∧ 1 ≤ k := by
  have d : PyData.depthAll xs + 1 ≤ k := h.dp
  refine ⟨fun x hx => ⟨lfs_iff.mp h.lf x hx, ?_⟩, h.wt, by omega⟩
  have := depthAll_iff.mp (Nat.le_refl (PyData.depthAll xs)) x hx
  omega
theorem slT_to {xs : List D} {v : Int} (h : 0 ≤ v) : slD (.tuple xs) none (some v) = some (.tuple (xs.take v.toNat)) := by
  show some (PyData.tuple (cutD _ _ _)) = _
  unfold cutD
  rw [HT.sIx_none, sIx_at h, List.drop_zero, Nat.sub_zero]
  congr 2
  rw [List.take_eq_take_iff]
  simp
theorem slT_from {xs : List D} {v : Int} (h : 0 ≤ v) : slD (.tuple xs) (some v) none = some (.tuple (xs.drop v.toNat)) := by
  show some (PyData.tuple (cutD _ _ _)) = _
  unfold cutD
  rw [HT.sIx_none, sIx_at h]
  congr 2
  rw [List.take_of_length_le (by rw [List.length_drop]; exact Nat.le_refl _)]
  by_cases q : v.toNat ≤ xs.length
  · rw [Nat.min_eq_left q]
  · rw [Nat.min_eq_right (by omega), List.drop_of_length_le (by simp), List.drop_of_length_le (by omega)]
theorem addT_ok {xs ys : List D} (h : xs.length + ys.length ≤ 16777216) : addD (.tuple xs) (.tuple ys) = some (.tuple (xs ++ ys)) := if_pos (decide_eq_true h)
theorem eqD_nilT {xs : List D} (h : ∀ d ∈ xs, d.plain = true) : eqD (.tuple xs) (.tuple []) = some xs.isEmpty := by
  unfold eqD
  rw [if_pos]
  · cases xs <;> rfl
  · have h1 : PyData.plain (.tuple xs) = true := plainAll_of (xs := xs) h
    have h2 : PyData.depth (.tuple []) = 1 := rfl
    rw [h1]
    simp [PyData.plain, PyData.plainAll, h2]
    omega
theorem str_short {i : Int} {b : Nat} (hb : 0 < b) (hb2 : b ≤ 190) (h : i.natAbs < 2 ^ b) : lfB (b + 1) (.str (toString i)) = true := by
  refine decide_eq_true ?_
  have l := shown_int hb h
  have e : PyData.shown (.int i) = Str.ofString (toString i) := by unfold PyData.shown; rfl
  rw [e] at l
  have := PySem.StrLaws.reprText_len (Str.ofString (toString i)) fun c hc => by
    have hc : c ∈ ((toString i).toList.map fun x => x.toNat) := by
      have e : (Str.ofString (toString i)).cps.toList = (toString i).toList.map fun x => x.toNat := PyProof.Rows.signs_ofString _
      rw [e] at hc; exact hc
    obtain ⟨x, _, rfl⟩ := List.mem_map.mp hc
    have := x.val.toNat_lt
    exact this
  show (reprText (Str.ofString (toString i))).length ≤ 2000
  omega
def BentS (k : Nat) (G : List Sl → FR) : Prop := ∀ (m b w : Nat) (T d : D), TapeB m T → m + 2 * k ≤ 10000000000 → 10 ≤ b → b ≤ 190 → w ≤ 3000000 → Bn b w k d → ∃ d' T', G [.own T, .val d] = .ok d' [T'] ∧ Bn (b + 1) (2 * w + 5000) (k + 1) d' ∧ TapeB (m + 3 * (k + 1)) T'
/-- the things for a tuple -/
theorem bent_pick {b w k : Nat} {xs : List D} (h : Bn b w k (.tuple xs)) (b10 : 10 ≤ b) {i : Nat} : ∀ d ∈ [PyData.list xs, .tuple (xs.take i ++ xs.drop (i + 1)), .tuple (xs ++ xs.take 1), .tuple xs.reverse, .tuple (xs ++ [.int 0]), ratD 0, .tuple [.int 2, .int 4]], Bn (b + 1) (2 * w + 5000) (k + 1) d := by
  obtain ⟨hx, hw, hk⟩ := h.tup
  have up : ∀ x ∈ xs, lfB (b + 1) x = true ∧ x.depth ≤ k := fun x q => ⟨lf_mono (Nat.le_succ b) (hx x q).1, by have := (hx x q).2; omega⟩
  have i2 : ∀ v : Int, v.natAbs < 1024 → lfB (b + 1) (.int v) = true := fun v hv => decide_eq_true (pow_up (a := 10) hv (by omega))
  have w1 := wts_take xs i
  have w2 := wts_take xs (i + 1)
  have w3 := wts_take xs 1
  have w4 := wts_rev xs
  intro d hd
  simp only [List.mem_cons, List.not_mem_nil, or_false] at hd
  rcases hd with rfl | rfl | rfl | rfl | rfl | rfl | rfl
  · exact Bn.mkL up (by omega)
  · refine Bn.mkT (fun x q => ?_) (by rw [wts_append]; omega)
    rcases List.mem_append.mp q with q | q
    · exact up x (List.mem_of_mem_take q)
    · exact up x (List.mem_of_mem_drop q)
  · refine Bn.mkT (fun x q => ?_) (by rw [wts_append]; omega)
    rcases List.mem_append.mp q with q | q
    · exact up x q
    · exact up x (List.mem_of_mem_take q)
  · exact Bn.mkT (fun x q => up x (List.mem_reverse.mp q)) (by omega)
  · refine Bn.mkT (fun x q => ?_) (by rw [wts_append]; show wts xs + (2000 + 2 + 0) + 3 ≤ _; omega)
    rcases List.mem_append.mp q with q | q
    · exact up x q
    · rw [List.mem_singleton] at q; subst q; exact ⟨i2 0 (by decide), Nat.zero_le _⟩
  · refine Bn.mkT (xs := [.int 0, .int 1]) (fun x q => ?_) (by show 2000 + 2 + (2000 + 2 + 0) + 3 ≤ _; omega)
    simp at q
    rcases q with rfl | rfl
    · exact ⟨i2 0 (by decide), Nat.zero_le _⟩
    · exact ⟨i2 1 (by decide), Nat.zero_le _⟩
  · refine Bn.mkT (fun x q => ?_) (by show 2000 + 2 + (2000 + 2 + 0) + 3 ≤ _; omega)
    simp at q
    rcases q with rfl | rfl
    · exact ⟨i2 2 (by decide), Nat.zero_le _⟩
    · exact ⟨i2 4 (by decide), Nat.zero_le _⟩
theorem bentS (F : Nat → List Sl → FR) (W c c2 k : Nat) (hd : DrawS (F c)) (hb : ∀ k', k = k' + 1 → BentS k' (F c2)) : BentS k (runFn F W (f_l_bent c c2)) := by
  intro m b w T d t hm b10 b9 hw h
  suffices hh : ∀ Q : D → List D → Prop, (∀ d' T', Bn (b + 1) (2 * w + 5000) (k + 1) d' ∧ TapeB (m + 3 * (k + 1)) T' → Q d' [T']) → (runFn F W (f_l_bent c c2) [.own T, .val d]).wp Q by
    obtain ⟨x, o, e, d', T', rfl, rfl, r⟩ := FR.wp_elim (hh (fun x o => ∃ d' T', x = d' ∧ o = [T'] ∧ Bn (b + 1) (2 * w + 5000) (k + 1) d' ∧ TapeB (m + 3 * (k + 1)) T') fun d' T' r => ⟨d', T', rfl, rfl, r⟩)
    exact ⟨x, T', e, r⟩
  intro Q hQ
  refine wp_run rfl rfl ?_
  have pl := (lf_shw (by omega) (by omega) h.lf).pl
  have h1 := isi_at pl .tuple
  have h2 := isi_at pl .int
  have h3 := isi_at pl .bool
  have leaf : ∀ x : D, lfB (b + 1) x = true → wt x = 2000 → x.depth = 0 → Bn (b + 1) (2 * w + 5000) (k + 1) x := fun x q1 q2 q3 => ⟨q1, by omega, by omega⟩
  have i2 : ∀ v : Int, v.natAbs < 1024 → lfB (b + 1) (.int v) = true := fun v hv => decide_eq_true (pow_up (a := 10) hv (by omega))
  -- what is drawn for things that are neither tuples nor whole numbers
  obtain ⟨rD, TD, eD, aD, bD, tD⟩ := hd m T 8 t (by omega) (by decide) (by decide)
  obtain ⟨dD, hvD, okD⟩ := atI_pick (P := fun d => Bn (b + 1) (2 * w + 5000) (k + 1) d) (l := [PyData.none, .bool true, .int 0, .int 1, .str "a", .tuple [], .list [], .tuple [.int 0]]) aD bD (by
    intro d hd
    simp only [List.mem_cons, List.not_mem_nil, or_false] at hd
    rcases hd with rfl | rfl | rfl | rfl | rfl | rfl | rfl | rfl
    · exact leaf _ rfl rfl rfl
    · exact leaf _ rfl rfl rfl
    · exact leaf _ (i2 0 (by decide)) rfl rfl
    · exact leaf _ (i2 1 (by decide)) rfl rfl
    · exact leaf _ (decide_eq_true (by decide +kernel)) rfl rfl
    · exact Bn.mkT (xs := []) (by simp) (by show 0 + 3 ≤ _; omega)
    · exact Bn.mkL (xs := []) (by simp) (by show 0 + 3 ≤ _; omega)
    · refine Bn.mkT (xs := [.int 0]) (fun x q => ?_) (by show 2000 + 2 + 0 + 3 ≤ _; omega)
      rw [List.mem_singleton] at q; subst q; exact ⟨i2 0 (by decide), Nat.zero_le _⟩)
  have hQD := hQ dD TD ⟨okD, tD.mono (by omega)⟩
  cases d with
  | dict es => cases pl
  | tuple xs =>
    simp only [PyData.isTuple] at h1
    obtain ⟨hx, hwx, hk⟩ := h.tup
    have hlen := wts_len xs
    have en := eqD_nilT (xs := xs) fun d hd => plainAll_iff.mp pl d hd
    -- the second case, for any tape
    have second : ∀ (T1 : D) (m1 : Nat), TapeB m1 T1 → m1 ≤ m + 1 → ∃ r1 T2 r2 T3 A1 A2 A3 A4 A5 A6 d', F c [.own T1, .val (.int ((xs.length : Int) + 1))] = .ok (.int r1) [T2] ∧ F c [.own T2, .val (.int 7)] = .ok (.int r2) [T3] ∧ slD (.tuple xs) none (some r1) = some (.tuple A1) ∧ slD (.tuple xs) (some (r1 + 1)) none = some (.tuple A2) ∧ addD (.tuple A1) (.tuple A2) = some (.tuple A3) ∧ slD (.tuple xs) none (some 1) = some (.tuple A4) ∧ addD (.tuple xs) (.tuple A4) = some (.tuple A5) ∧ addD (.tuple xs) (.tuple [.int 0]) = some (.tuple A6) ∧ L2.atI [PyData.list xs, .tuple A3, .tuple A5, .tuple xs.reverse, .tuple A6, ratD 0, .tuple [.int 2, .int 4]] r2 = some d' ∧ Bn (b + 1) (2 * w + 5000) (k + 1) d' ∧ TapeB (m1 + 2) T3 := fun T1 m1 t1 hm1 => by
      obtain ⟨r1, T2, e1, a1, b1, t2⟩ := hd m1 T1 ((xs.length : Int) + 1) t1 (by omega) (by omega) (by omega)
      obtain ⟨r2, T3, e2, a2, b2, t3⟩ := hd _ T2 7 t2 (by omega) (by decide) (by decide)
      obtain ⟨d', hv, ok⟩ := atI_pick (P := fun d => Bn (b + 1) (2 * w + 5000) (k + 1) d) (l := [PyData.list xs, .tuple (xs.take r1.toNat ++ xs.drop (r1.toNat + 1)), .tuple (xs ++ xs.take 1), .tuple xs.reverse, .tuple (xs ++ [.int 0]), ratD 0, .tuple [.int 2, .int 4]]) a2 b2 (bent_pick h b10 (i := r1.toNat))
      refine ⟨r1, T2, r2, T3, _, _, _, _, _, _, d', e1, e2, slT_to a1, slT_from (by omega), addT_ok ?_, slT_to (by decide), addT_ok ?_, addT_ok ?_, ?_, ok, t3⟩
      · simp; omega
      · simp; omega
      · simp; omega
      · rw [show (r1 + 1).toNat = r1.toNat + 1 by omega]; exact hv
    by_cases z : xs = []
    · rw [z] at en
      obtain ⟨r1, T2, r2, T3, A1, A2, A3, A4, A5, A6, d', e1, e2, g1, g2, g3, g4, g5, g6, g7, ok, t3⟩ := second T m t (by omega)
      subst z
      have st : slStD (-1) (.tuple []) = some (.tuple []) := rfl
      have g7 : L2.atI [PyData.list [], .tuple A3, .tuple A5, .tuple [], .tuple A6, ratD 0, .tuple [.int 2, .int 4]] r2 = some d' := g7
      have en : eqD (.tuple []) (.tuple []) = some true := en
      have e1 : F c [.own T, .val (.int 1)] = .ok (.int r1) [T2] := e1
      simp -implicitDefEqProofs [f_l_bent, h1, en, e1, e2, g1, g2, g3, g4, g5, g6, st, g7, outsOf]
      exact hQ d' T3 ⟨ok, t3.mono (by omega)⟩
    · have en : eqD (.tuple xs) (.tuple []) = some false := by
        rw [en]; cases xs with
        | nil => exact absurd rfl z
        | cons _ _ => rfl
      obtain ⟨r5, T5, e5, a5, b5, t5⟩ := hd m T 5 t (by omega) (by decide) (by decide)
      by_cases z5 : r5 = 0
      · subst z5
        obtain ⟨r1, T2, r2, T3, A1, A2, A3, A4, A5, A6, d', e1, e2, g1, g2, g3, g4, g5, g6, g7, ok, t3⟩ := second T5 _ t5 (by omega)
        have st : slStD (-1) (.tuple xs) = some (.tuple xs.reverse) := rfl
        have pt : PyData.list xs = PyData.list xs := rfl
        generalize xs.reverse = A7 at *
        simp -implicitDefEqProofs [f_l_bent, h1, en, e5, e1, e2, g1, g2, g3, g4, g5, g6, st, g7, outsOf]
        exact hQ d' T3 ⟨ok, t3.mono (by omega)⟩
      · obtain ⟨r6, T6, e6, a6, b6, t6⟩ := hd _ T5 (xs.length : Int) t5 (by omega) (by cases xs with | nil => exact absurd rfl z | cons x l => simp) (by omega)
        obtain ⟨k', rfl⟩ : ∃ k', k = k' + 1 := ⟨k - 1, by omega⟩
        have hr : r6.toNat < xs.length := by omega
        obtain ⟨x, hxe⟩ : ∃ x, xs[r6.toNat]? = some x := ⟨_, List.getElem?_eq_getElem hr⟩
        have hxm : x ∈ xs := List.mem_of_getElem? hxe
        have ixe : ixD (.tuple xs) (.int r6) = some x := atI_nat a6 hxe
        have spl : xs = xs.take r6.toNat ++ x :: xs.drop (r6.toNat + 1) := by
          have := List.getElem?_eq_some_iff.mp hxe
          rw [← this.2]; simp
        have wsp : wts xs = wts (xs.take r6.toNat) + (wt x + 2 + wts (xs.drop (r6.toNat + 1))) := by
          have : wts xs = wts (xs.take r6.toNat ++ x :: xs.drop (r6.toNat + 1)) := by rw [← spl]
          rw [this, wts_append, wts]
        obtain ⟨y, T7, e7, ok7, t7⟩ := hb k' rfl _ b (wt x) T6 x t6 (by omega) b10 b9 (by omega) ⟨(hx x hxm).1, Nat.le_refl _, by have := (hx x hxm).2; omega⟩
        have s1 := slT_to (xs := xs) a6
        have s2 := slT_from (xs := xs) (v := r6 + 1) (by omega)
        have d1 : addD (.tuple (xs.take r6.toNat)) (.tuple [y]) = some (.tuple (xs.take r6.toNat ++ [y])) := addT_ok (by simp; omega)
        have d2 : addD (.tuple (xs.take r6.toNat ++ [y])) (.tuple (xs.drop (r6 + 1).toNat)) = some (.tuple (xs.take r6.toNat ++ [y] ++ xs.drop (r6 + 1).toNat)) := addT_ok (by simp; omega)
        have ok : Bn (b + 1) (2 * w + 5000) (k' + 1 + 1) (.tuple (xs.take r6.toNat ++ [y] ++ xs.drop (r6 + 1).toNat)) := by
          refine Bn.mkT (fun u q => ?_) ?_
          · have up : ∀ x ∈ xs, lfB (b + 1) x = true ∧ x.depth ≤ k' + 1 := fun x q => ⟨lf_mono (Nat.le_succ b) (hx x q).1, by have := (hx x q).2; omega⟩
            rcases List.mem_append.mp q with q | q
            · rcases List.mem_append.mp q with q | q
              · exact up u (List.mem_of_mem_take q)
              · rw [List.mem_singleton] at q; subst q; exact ⟨ok7.lf, ok7.dp⟩
            · exact up u (List.mem_of_mem_drop q)
          · have := ok7.wt
            rw [wts_append, wts_append, show (r6 + 1).toNat = r6.toNat + 1 by omega]
            show wts (xs.take r6.toNat) + (wt y + 2 + 0) + wts (xs.drop (r6.toNat + 1)) + 3 ≤ _
            omega
        have z6 : 0 < r5 := by omega
        generalize xs.take r6.toNat ++ [y] ++ xs.drop (r6 + 1).toNat = A3 at *
        generalize xs.take r6.toNat ++ [y] = A2 at *
        generalize xs.take r6.toNat = A1 at *
        generalize xs.drop (r6 + 1).toNat = A4 at *
        simp -implicitDefEqProofs [f_l_bent, h1, en, e5, z6, e6, s1, s2, ixe, e7, d1, d2, outsOf]
        exact hQ _ T7 ⟨ok, t7.mono (by omega)⟩
  | int i =>
    simp only [PyData.isTuple, PyData.isInt, PyData.isBool] at h1 h2 h3
    have hi : i.natAbs < 2 ^ b := of_decide_eq_true (show decide (i.natAbs < 2 ^ b) = true from h.lf)
    have h2b : 2 ^ (b + 1) = 2 ^ b + 2 ^ b := by rw [Nat.pow_succ]; omega
    have p1 : 1 ≤ 2 ^ b := Nat.two_pow_pos b
    have sD : strD (.int i) = some (.str (toString i)) := if_pos (decide_eq_true (by
      by_cases q : i.natAbs = 0
      · rw [q]; decide
      · have := (Nat.log2_lt q).mpr hi; omega))
    obtain ⟨r9, T9, e9, a9, b9', t9⟩ := hd m T 9 t (by omega) (by decide) (by decide)
    obtain ⟨d', hv, ok⟩ := atI_pick (P := fun d => Bn (b + 1) (2 * w + 5000) (k + 1) d) (l := [PyData.int (i + 1), .int (i - 1), .bool (decide (i = 1)), .none, .int 0, .int (0 - i), .int 999, .int 1000, .str (toString i)]) a9 b9' (by
      intro d hd
      simp only [List.mem_cons, List.not_mem_nil, or_false] at hd
      rcases hd with rfl | rfl | rfl | rfl | rfl | rfl | rfl | rfl | rfl
      · exact leaf _ (decide_eq_true (by omega)) rfl rfl
      · exact leaf _ (decide_eq_true (by omega)) rfl rfl
      · exact leaf _ rfl rfl rfl
      · exact leaf _ rfl rfl rfl
      · exact leaf _ (i2 0 (by decide)) rfl rfl
      · exact leaf _ (decide_eq_true (by omega)) rfl rfl
      · exact leaf _ (i2 999 (by decide)) rfl rfl
      · exact leaf _ (i2 1000 (by decide)) rfl rfl
      · exact leaf _ (str_short (by omega) b9 hi) rfl rfl)
    generalize hst : (PyData.str (toString i)) = ST at *
    have zs : (0 : Int) - i = -i := by omega
    rw [zs] at hv
    simp -implicitDefEqProofs [f_l_bent, h1, h2, h3, sD, e9, hv, outsOf]
    exact hQ d' T9 ⟨ok, t9.mono (by omega)⟩
  | _ =>
    simp only [PyData.isTuple, PyData.isInt, PyData.isBool] at h1 h2 h3
    simp -implicitDefEqProofs [f_l_bent, h1, h2, h3, eD, hvD, outsOf]
    exact hQD
end Mn
set_option Elab.async false
set_option linter.all false
set_option maxRecDepth 100000
set_option autoImplicit false
set_option maxHeartbeats 1000000
set_option exponentiation.threshold 10000
namespace Mn
open PySem PySem.Spec Lb
/-! ## values: sums, products, letters put in -/
theorem Lf_congr {φ ψ : List Int → Rat} : ∀ {a : List Tm}, (∀ t ∈ a, φ t.1 = ψ t.1) → Lf φ a = Lf ψ a
  | [], _ => rfl
  | t :: a, h => by
    show t.2 * φ t.1 + Lf φ a = t.2 * ψ t.1 + Lf ψ a
    rw [h t List.mem_cons_self, Lf_congr fun u hu => h u (List.mem_cons_of_mem _ hu)]
theorem Lf_none {φ : List Int → Rat} {a : List Tm} (h : ∀ t ∈ a, φ t.1 = 0) : Lf φ a = 0 := by
  rw [Lf_congr (ψ := fun _ => 0) h, Lf_zero]
theorem rpw_add (q : Rat) (a : Nat) : ∀ b, rpw q (a + b) = rpw q a * rpw q b
  | 0 => by show rpw q a = rpw q a * 1; rw [Rat.mul_one]
  | b + 1 => by
    show rpw q (a + b) * q = rpw q a * (rpw q b * q)
    rw [rpw_add q a b, Rat.mul_assoc]
theorem mono_cons (q : Rat) (pt : List Rat) (k : Int) (ks : List Int) : mono (q :: pt) (k :: ks) = rpw q k.toNat * mono pt ks := by
  show pm (1 * rpw q k.toNat) (ks.zip pt) = _
  rw [Rat.one_mul, pm_mono]
theorem mono_nil (pt : List Rat) : mono pt [] = 1 := rfl
structure Wd (n : Nat) (p : List Tm) : Prop where
  wid : ∀ t ∈ p, t.1.length = n
  nn : ∀ t ∈ p, ∀ y ∈ t.1, 0 ≤ y
theorem Pb.wd {n x d N L : Nat} {p : List Tm} (h : Pb n x d N L p) : Wd n p := ⟨h.wid, fun t ht y hy => (h.rng t ht y hy).1⟩
theorem mono_join : ∀ (pt : List Rat) (ks ls : List Int), ks.length = pt.length → ls.length = pt.length → (∀ y ∈ ks, 0 ≤ y) → (∀ y ∈ ls, 0 ≤ y) → mono pt (joinP ks ls) = mono pt ks * mono pt ls
  | [], [], [], _, _, _, _ => by show (1 : Rat) = 1 * 1; rw [Rat.mul_one]
  | q :: pt, k :: ks, l :: ls, h1, h2, h3, h4 => by
    have k0 := h3 k List.mem_cons_self
    have l0 := h4 l List.mem_cons_self
    show mono (q :: pt) ((k + l) :: joinP ks ls) = _
    rw [mono_cons, mono_cons, mono_cons, mono_join pt ks ls (by simpa using h1) (by simpa using h2) (fun y hy => h3 y (List.mem_cons_of_mem _ hy)) (fun y hy => h4 y (List.mem_cons_of_mem _ hy)), show (k + l).toNat = k.toNat + l.toNat by omega, rpw_add]
    grind
  | [], _ :: _, _, h, _, _, _ => by simp at h
  | [], [], _ :: _, _, h, _, _ => by simp at h
  | _ :: _, [], _, h, _, _, _ => by simp at h
  | _ :: _, _ :: _, [], _, h, _, _ => by simp at h
theorem mono_zero : ∀ (pt : List Rat) (n : Nat), mono pt (List.replicate n 0) = 1
  | _, 0 => rfl
  | [], n + 1 => rfl
  | q :: pt, n + 1 => by
    rw [List.replicate_succ, mono_cons, mono_zero pt n]; show (1 : Rat) * 1 = 1; rw [Rat.mul_one]
theorem val_prod {n : Nat} {a b : List Tm} {pt : List Rat} (ha : Wd n a) (hb : Wd n b) (hp : pt.length = n) : Lf (mono pt) (lprodL a b) = Lf (mono pt) a * Lf (mono pt) b := by
  rw [Lf_lprod, Lf_congr (ψ := fun k => Lf (mono pt) b * mono pt k), Lf_smul, Rat.mul_comm]
  intro t ht
  rw [Lf_congr (ψ := fun l => mono pt t.1 * mono pt l), Lf_smul, Rat.mul_comm]
  intro u hu
  exact mono_join pt t.1 u.1 (by rw [ha.wid t ht, hp]) (by rw [hb.wid u hu, hp]) (ha.nn t ht) (hb.nn u hu)
theorem val_gath (φ : List Int → Rat) (X : List Tm) : Lf φ (gath X) = Lf φ X := Lf_gath X
theorem Wd.gath {n : Nat} {p : List Tm} (h : Wd n p) : Wd n (gath p) := by
  have key : ∀ t ∈ Mn.gath p, ∃ u ∈ p, u.1 = t.1 := fun t ht => by
    obtain ⟨u, hu, e⟩ := List.mem_map.mp (mem_gath ht).1
    exact ⟨u, hu, e⟩
  constructor
  · intro t ht; obtain ⟨u, hu, e⟩ := key t ht; rw [← e]; exact h.wid u hu
  · intro t ht; obtain ⟨u, hu, e⟩ := key t ht; rw [← e]; exact h.nn u hu
theorem val_rp {n x d N L : Nat} {p : List Tm} {pt : List Rat} (h : Pb n x d N L p) (hp : pt.length = n) : ∀ k, Lf (mono pt) (rp n p k) = rpw (Lf (mono pt) p) k
  | 0 => by
    show 1 * mono pt (List.replicate n 0) + 0 = 1
    rw [mono_zero, Rat.mul_one, Rat.add_zero]
  | k + 1 => by
    show Lf (mono pt) (gath (lprodL (rp n p k) p)) = rpw (Lf (mono pt) p) k * Lf (mono pt) p
    rw [val_gath, val_prod (rp_pb h k).wd h.wd hp, val_rp h hp k]
theorem mono_set : ∀ (pt : List Rat) (ks : List Int) (j : Nat) (q : Rat), pt[j]? = some q → ks.length = pt.length → rpw q (ks.getD j 0).toNat * mono pt (ks.set j 0) = mono pt ks
  | [], _, j, _, h, _ => by simp at h
  | _ :: _, [], _, _, _, h => by simp at h
  | x :: pt, k :: ks, 0, q, h, _ => by
    simp at h
    subst h
    show rpw x k.toNat * mono (x :: pt) (0 :: ks) = _
    rw [mono_cons, mono_cons]
    show rpw x k.toNat * (1 * mono pt ks) = _
    rw [Rat.one_mul]
  | x :: pt, k :: ks, j + 1, q, h, hl => by
    have ih := mono_set pt ks j q (by simpa using h) (by simpa using hl)
    show rpw q (ks.getD j 0).toNat * mono (x :: pt) (k :: ks.set j 0) = _
    rw [mono_cons, mono_cons, ← ih]
    grind
theorem val_put {n : Nat} {p : List Tm} {pt : List Rat} {j : Nat} {q : Rat} (h : Wd n p) (hp : pt.length = n) (hj : pt[j]? = some q) : Lf (mono pt) (putT p j q) = Lf (mono pt) p := by
  have : ∀ (p : List Tm), Wd n p → Lf (mono pt) (putT p j q) = Lf (mono pt) p := by
    intro p
    induction p with
    | nil => intro _; rfl
    | cons t p ih =>
      intro h
      have ih := ih ⟨fun u hu => h.wid u (List.mem_cons_of_mem _ hu), fun u hu => h.nn u (List.mem_cons_of_mem _ hu)⟩
      show t.2 * rpw q (t.1.getD j 0).toNat * mono pt (t.1.set j 0) + Lf (mono pt) (putT p j q) = t.2 * mono pt t.1 + Lf (mono pt) p
      rw [ih, Rat.mul_assoc, mono_set pt t.1 j q hj (by rw [h.wid t List.mem_cons_self, hp])]
  exact this p h
/-! ## a square of points -/
def headIs (j : Int) (t : Tm) : Bool := match t.1 with
  | k :: _ => decide (k = j)
  | [] => false
def sub (p : List Tm) (j : Int) : List Tm := (p.filter (headIs j)).map fun t => (t.1.tail, t.2)
theorem sub_cons (t : Tm) (p : List Tm) (j : Int) : sub (t :: p) j = if headIs j t then (t.1.tail, t.2) :: sub p j else sub p j := by
  unfold sub
  by_cases h : headIs j t = true
  · rw [if_pos h, List.filter_cons_of_pos h, List.map_cons]
  · rw [if_neg h, List.filter_cons_of_neg h]
theorem split3 (x : Rat) (pt : List Rat) : ∀ (p : List Tm), (∀ t ∈ p, ∃ k ks, t.1 = k :: ks ∧ 0 ≤ k ∧ k ≤ 2) → Lf (mono (x :: pt)) p = Lf (mono pt) (sub p 0) + x * Lf (mono pt) (sub p 1) + x * x * Lf (mono pt) (sub p 2)
  | [], _ => by show (0 : Rat) = 0 + x * 0 + x * x * 0; grind
  | t :: p, h => by
    have ih := split3 x pt p fun u hu => h u (List.mem_cons_of_mem _ hu)
    obtain ⟨k, ks, e, k0, k2⟩ := h t List.mem_cons_self
    obtain ⟨tk, tq⟩ := t
    simp only at e
    subst e
    show tq * mono (x :: pt) (k :: ks) + Lf (mono (x :: pt)) p = _
    rw [ih, mono_cons, sub_cons, sub_cons, sub_cons]
    have hh : ∀ j : Int, headIs j (k :: ks, tq) = decide (k = j) := fun j => rfl
    rw [hh, hh, hh]
    have cases3 : k = 0 ∨ k = 1 ∨ k = 2 := by omega
    rcases cases3 with rfl | rfl | rfl
    · show tq * (1 * mono pt ks) + _ = (tq * mono pt ks + Lf (mono pt) (sub p 0)) + _ + _
      simp; grind
    · show tq * (1 * x * mono pt ks) + _ = _ + x * (tq * mono pt ks + Lf (mono pt) (sub p 1)) + _
      simp; grind
    · show tq * (1 * x * x * mono pt ks) + _ = _ + _ + x * x * (tq * mono pt ks + Lf (mono pt) (sub p 2))
      simp; grind
theorem cf_sub (j : Int) (ks : List Int) : ∀ (p : List Tm), cf p (j :: ks) = cf (sub p j) ks
  | [] => rfl
  | t :: p => by
    have ih := cf_sub j ks p
    obtain ⟨tk, tq⟩ := t
    rw [sub_cons]
    show tq * dl (j :: ks) tk + cf p (j :: ks) = _
    rw [ih]
    cases tk with
    | nil =>
      have e : dl (j :: ks) [] = 0 := if_neg (by simp)
      rw [e, if_neg (by show ¬ false = true; decide)]
      grind
    | cons k ls =>
      have hh : headIs j (k :: ls, tq) = decide (k = j) := rfl
      rw [hh]
      by_cases z : k = j
      · subst z
        rw [if_pos (decide_eq_true rfl)]
        show _ = tq * dl ks ls + cf (sub p k) ks
        have e : dl (k :: ks) (k :: ls) = dl ks ls := by
          unfold dl
          by_cases q : ls = ks
          · rw [q, if_pos rfl, if_pos rfl]
          · rw [if_neg q, if_neg (by simpa using q)]
        rw [e]
      · rw [if_neg (by simpa using z)]
        have e : dl (j :: ks) (k :: ls) = 0 := if_neg (by simp [z])
        rw [e]; grind
def G3 (q : Rat) : Prop := q = 0 ∨ q = 1 ∨ q = 2
theorem grid : ∀ (n : Nat) (p : List Tm), (∀ t ∈ p, t.1.length = n ∧ ∀ y ∈ t.1, 0 ≤ y ∧ y ≤ 2) → (∀ pt : List Rat, pt.length = n → (∀ q ∈ pt, G3 q) → Lf (mono pt) p = 0) → ∀ k : List Int, k.length = n → cf p k = 0
  | 0, p, hp, hv, k, hk => by
    have k0 : k = [] := List.length_eq_zero_iff.mp hk
    subst k0
    have := hv [] rfl (by simp)
    rw [← this]
    refine Lf_congr fun t ht => ?_
    have : t.1 = [] := List.length_eq_zero_iff.mp (hp t ht).1
    rw [this]; rfl
  | n + 1, p, hp, hv, k, hk => by
    match k, hk with
    | j :: ks, hk =>
      rw [cf_sub]
      have shape : ∀ t ∈ p, ∃ k ks, t.1 = k :: ks ∧ 0 ≤ k ∧ k ≤ 2 := fun t ht => by
        obtain ⟨h1, h2⟩ := hp t ht
        match ht1 : t.1 with
        | [] => rw [ht1] at h1; cases h1
        | k :: ks => rw [ht1] at h2; exact ⟨k, ks, rfl, h2 k List.mem_cons_self⟩
      have subw : ∀ i : Int, ∀ t ∈ sub p i, t.1.length = n ∧ ∀ y ∈ t.1, 0 ≤ y ∧ y ≤ 2 := fun i t ht => by
        obtain ⟨u, hu, rfl⟩ := List.mem_map.mp ht
        obtain ⟨h1, h2⟩ := hp u (List.mem_filter.mp hu).1
        refine ⟨by simp [h1], fun y hy => h2 y (List.mem_of_mem_tail hy)⟩
      have vals : ∀ pt : List Rat, pt.length = n → (∀ q ∈ pt, G3 q) → Lf (mono pt) (sub p 0) = 0 ∧ Lf (mono pt) (sub p 1) = 0 ∧ Lf (mono pt) (sub p 2) = 0 := fun pt h1 h2 => by
        have at_ : ∀ x : Rat, G3 x → Lf (mono pt) (sub p 0) + x * Lf (mono pt) (sub p 1) + x * x * Lf (mono pt) (sub p 2) = 0 := fun x hx => by
          rw [← split3 x pt p shape]
          refine hv (x :: pt) (by simp [h1]) fun q hq => ?_
          rcases List.mem_cons.mp hq with rfl | hq
          · exact hx
          · exact h2 q hq
        have a0 := at_ 0 (.inl rfl)
        have a1 := at_ 1 (.inr (.inl rfl))
        have a2 := at_ 2 (.inr (.inr rfl))
        generalize Lf (mono pt) (sub p 0) = c0 at *
        generalize Lf (mono pt) (sub p 1) = c1 at *
        generalize Lf (mono pt) (sub p 2) = c2 at *
        refine ⟨by grind, by grind, by grind⟩
      by_cases j0 : j = 0
      · subst j0; exact grid n (sub p 0) (subw 0) (fun pt h1 h2 => (vals pt h1 h2).1) ks (by simpa using hk)
      · by_cases j1 : j = 1
        · subst j1; exact grid n (sub p 1) (subw 1) (fun pt h1 h2 => (vals pt h1 h2).2.1) ks (by simpa using hk)
        · by_cases j2 : j = 2
          · subst j2; exact grid n (sub p 2) (subw 2) (fun pt h1 h2 => (vals pt h1 h2).2.2) ks (by simpa using hk)
          · have : sub p j = [] := by
              unfold sub
              rw [List.map_eq_nil_iff, List.filter_eq_nil_iff]
              intro t ht
              obtain ⟨k, ls, e, q0, q2⟩ := shape t ht
              obtain ⟨tk, tq⟩ := t
              simp only at e
              subst e
              show ¬ decide (k = j) = true
              rw [decide_eq_true_eq]; omega
            rw [this]; rfl
theorem grid_nil {n : Nat} {p : List Tm} (hc : Cn2 p) (hp : ∀ t ∈ p, t.1.length = n ∧ ∀ y ∈ t.1, 0 ≤ y ∧ y ≤ 2) (hv : ∀ pt : List Rat, pt.length = n → (∀ q ∈ pt, G3 q) → Lf (mono pt) p = 0) : p = [] := by
  refine cn_ext hc ⟨List.Pairwise.nil, by simp⟩ fun k => ?_
  show cf p k = 0
  by_cases hk : k.length = n
  · exact grid n p hp hv k hk
  · refine Lf_none fun t ht => if_neg fun z => hk ?_
    rw [← z]; exact (hp t ht).1
/-! ## products that are nought -/
theorem joinP_addL : ∀ xs ys : List Int, joinP xs ys = addL xs ys
  | [], _ => by simp [joinP, addL]
  | _ :: _, [] => by simp [joinP, addL]
  | x :: xs, y :: ys => by
    show (x + y) :: joinP xs ys = (x + y) :: addL xs ys
    rw [joinP_addL xs ys]
theorem join_lt {n : Nat} {xs ys zs : List Int} (h1 : xs.length = n) (h2 : ys.length = n) (h3 : zs.length = n) (h : xs < ys) : joinP xs zs < joinP ys zs := by
  rw [joinP_addL, joinP_addL, lex_add (by rw [h1, h2]) (by rw [h2, h3])]; exact h
theorem prod_ne {n : Nat} {a b : List Tm} (ca : Cn2 a) (cb : Cn2 b) (wa : Wd n a) (wb : Wd n b) (ha : a ≠ []) (hb : b ≠ []) : gath (lprodL a b) ≠ [] := by
  intro z
  match a, b, ha, hb, ca, cb, wa, wb, z with
  | t :: a, u :: b, _, _, ca, cb, wa, wb, z =>
    have wt := wa.wid t List.mem_cons_self
    have wu := wb.wid u List.mem_cons_self
    have la : ∀ v ∈ a, v.1 < t.1 := (List.pairwise_cons.mp ca.fall).1
    have lb : ∀ v ∈ b, v.1 < u.1 := (List.pairwise_cons.mp cb.fall).1
    have e : cf (lprodL (t :: a) (u :: b)) (joinP t.1 u.1) = t.2 * u.2 := by
      unfold cf
      rw [Lf_lprod]
      show t.2 * (u.2 * dl (joinP t.1 u.1) (joinP t.1 u.1) + Lf (fun l => dl (joinP t.1 u.1) (joinP t.1 l)) b) + Lf (fun k => Lf (fun l => dl (joinP t.1 u.1) (joinP k l)) (u :: b)) a = _
      rw [Lf_none (a := b), Lf_none (a := a)]
      · rw [show dl (joinP t.1 u.1) (joinP t.1 u.1) = 1 from if_pos rfl]; grind
      · intro v hv
        refine Lf_none fun w hw => if_neg fun q => ?_
        have wv := wa.wid v (List.mem_cons_of_mem _ hv)
        have l1 := join_lt wv wt (wb.wid w hw) (la v hv)
        rcases List.mem_cons.mp hw with rfl | hw'
        · rw [q] at l1; exact lex_irr _ l1
        · have l2 := join_lt (wb.wid w hw) wu wt (lb w hw')
          rw [joinP_comm w.1, joinP_comm u.1] at l2
          have := lex_trans l1 l2
          rw [q] at this; exact lex_irr _ this
      · intro v hv
        refine if_neg fun q => ?_
        have l2 := join_lt (wb.wid v (List.mem_cons_of_mem _ hv)) wu wt (lb v hv)
        rw [joinP_comm v.1, joinP_comm u.1, q] at l2
        exact lex_irr _ l2
    have e2 := cf_gath (lprodL (t :: a) (u :: b)) (joinP t.1 u.1)
    rw [z, e] at e2
    have e2 : (0 : Rat) = t.2 * u.2 := e2
    rcases Rat.mul_eq_zero.mp e2.symm with q | q
    · exact ca.nz t List.mem_cons_self q
    · exact cb.nz u List.mem_cons_self q
end Mn
set_option Elab.async false
set_option linter.all false
set_option maxRecDepth 100000
set_option autoImplicit false
set_option maxHeartbeats 1000000
set_option exponentiation.threshold 10000
namespace Mn
open PySem PySem.Spec Lb
def catO (o : Option D) (ys : List D) (μ : Mu) : Rs D := match o with
  | some (.list xs) => if sizeOkN (xs.length + ys.length) then .ok (.list (xs ++ ys)) μ else .st
  | _ => .st
@[simp] theorem catE_pe (i : Nat) (e : E) (x : D) (ys : List D) (μ : Mu) : catE (.pk i) (.e e) x (.list ys) μ = catO (heldD μ i) ys μ := by
  unfold catE catO
  rw [heldP_pk]
  cases heldD μ i with
  | none => rfl
  | some d => cases d <;> rfl
theorem catO_ok {xs ys : List D} {μ : Mu} (h : xs.length + ys.length ≤ 16777216) : catO (some (.list xs)) ys μ = .ok (.list (xs ++ ys)) μ := if_pos (decide_eq_true h)
theorem plain_poly (p : List Tm) : (polyD p).plain = true := plainAll_of (xs := p.map termD) fun d hd => by
  obtain ⟨t, _, rfl⟩ := List.mem_map.mp hd
  exact plain_term t
theorem depth_term (t : Tm) : (termD t).depth ≤ 2 := by
  show max (tupI t.1).depth (max (ratD t.2).depth 0) + 1 ≤ 2
  have h1 : (tupI t.1).depth = 1 := by
    show PyData.depthAll (t.1.map .int) + 1 = 1
    rw [depthInts]
  have h2 : (ratD t.2).depth = 1 := rfl
  omega
theorem depth_poly (p : List Tm) : (polyD p).depth ≤ 3 := by
  refine Nat.succ_le_succ (depthAll_iff.mpr fun d hd => ?_)
  obtain ⟨t, _, rfl⟩ := List.mem_map.mp hd
  exact depth_term t
theorem eqD_polyS (p : List Tm) : eqD (polyD p) (polyD p) = some true := by
  unfold eqD
  have := depth_poly p
  rw [if_pos (by rw [plain_poly]; simp; omega), PySem.SeqAt.eqv_refl_plain _ (plain_poly p)]
/-! the points of a square -/
def pts : Nat → List (List Rat)
  | 0 => [[]]
  | n + 1 => (pts n).flatMap fun pt => [pt ++ [0], pt ++ [1], pt ++ [2]]
theorem pts_mem : ∀ {n : Nat} {pt : List Rat}, pt ∈ pts n → pt.length = n ∧ ∀ q ∈ pt, G3 q
  | 0, pt, h => by
    rw [pts, List.mem_singleton] at h
    subst h; simp
  | n + 1, pt, h => by
    obtain ⟨p0, h0, h1⟩ := List.mem_flatMap.mp h
    obtain ⟨l, g⟩ := pts_mem h0
    have ex : ∃ x, pt = p0 ++ [x] ∧ G3 x := by
      simp at h1
      rcases h1 with rfl | rfl | rfl
      · exact ⟨0, rfl, .inl rfl⟩
      · exact ⟨1, rfl, .inr (.inl rfl)⟩
      · exact ⟨2, rfl, .inr (.inr rfl)⟩
    obtain ⟨x, rfl, hx⟩ := ex
    refine ⟨by simp [l], fun q hq => ?_⟩
    rcases List.mem_append.mp hq with hq | hq
    · exact g q hq
    · rw [List.mem_singleton] at hq; subst hq; exact hx
theorem pts_all : ∀ (n : Nat) (pt : List Rat), pt.length = n → (∀ q ∈ pt, G3 q) → pt ∈ pts n
  | 0, pt, h, _ => by
    rw [List.length_eq_zero_iff.mp h, pts]; simp
  | n + 1, pt, h, g => by
    have ne : pt ≠ [] := fun z => by rw [z] at h; cases h
    have e := List.dropLast_concat_getLast ne
    have ih := pts_all n pt.dropLast (by simp [h]) fun q hq => g q (List.dropLast_subset _ hq)
    have gl := g _ (List.getLast_mem ne)
    refine List.mem_flatMap.mpr ⟨_, ih, ?_⟩
    rw [← e]
    simp only [List.dropLast_concat]
    rcases gl with q | q | q
    · rw [q]; simp
    · rw [q]; simp
    · rw [q]; simp
theorem G3.cd {q : Rat} (h : G3 q) : Cd 10 20 q := by
  rcases h with rfl | rfl | rfl
  · exact some_cd 0 (by simp)
  · exact some_cd 1 (by simp)
  · exact some_cd 2 (by simp)
theorem pts_len : ∀ n, (pts n).length = 3 ^ n
  | 0 => rfl
  | n + 1 => by
    show ((pts n).flatMap fun pt => [pt ++ [0], pt ++ [1], pt ++ [2]]).length = _
    rw [List.length_flatMap, Nat.pow_succ, ← pts_len n]
    generalize pts n = l
    induction l with
    | nil => rfl
    | cons a l ih => rw [List.map_cons, List.sum_cons, ih, List.length_cons]; simp; omega
def PointsS (G : List Sl → FR) : Prop := ∀ n : Nat, n ≤ 3 → G [.val (.int n), .val (.int 2)] = .ok (.list ((pts n).map ptD)) []
theorem pointsS (F : Nat → List Sl → FR) (W : Nat) : PointsS (runFn F W f_l_points) := by
  intro n hn
  suffices hw : (runFn F W f_l_points [.val (.int n), .val (.int 2)]).wp fun x o => x = .list ((pts n).map ptD) ∧ o = [] by
    obtain ⟨_, _, e, rfl, rfl⟩ := FR.wp_elim hw
    exact e
  refine wp_run rfl rfl ?_
  have p0 : PyData.tuple [] = ptD [] := rfl
  simp -implicitDefEqProofs [f_l_points, p0, rng1_ok (show (0 : Int) ≤ n by omega) (show (n : Int) ≤ 1000 by omega)]
  refine wp_forL (fun i μ => ∃ s3 s4 s5 : Sl, μ = [.val (.int n), .val (.int 2), .val (.list ((pts i).map ptD)), s3, s4, s5, .no] ∧ FrS s3 ∧ FrS s4 ∧ FrS s5) _ _ ⟨.no, .no, .no, rfl, rfl, rfl, rfl⟩ ?_ ?_
  · rintro i d μ Q' hd ⟨s3, s4, s5, rfl, f3, f4, f5⟩ hk
    obtain ⟨hi, rfl⟩ := rangeD_get hd
    have hk := fun s5 (f5 : FrS s5) => hk [.val (.int n), .val (.int 2), .val (.list ((pts (i + 1)).map ptD)), .val (.int i), .val (.list ((pts (i + 1)).map ptD)), s5, .no] ⟨_, _, s5, rfl, rfl, rfl, f5⟩
    have hl : (pts i).length ≤ 27 := by
      rw [pts_len]; exact Nat.le_trans (Nat.pow_le_pow_right (by decide) (show i ≤ 3 by omega)) (by decide)
    rw [pts] at hk
    have hP : ∀ pt ∈ pts i, pt.length ≤ 3 := fun pt h => by have := (pts_mem h).1; omega
    generalize pts i = P at *
    simp -implicitDefEqProofs [isLck_f f3, isLck_f f4]
    refine wp_forL (fun j μ => ∃ s5 : Sl, μ = [.val (.int n), .val (.int 2), .val (.list (P.map ptD)), .val (.int i), .own (.list (((P.take j).flatMap fun pt => [pt ++ [0], pt ++ [1], pt ++ [2]]).map ptD)), s5, .no] ∧ FrS s5) _ _ ⟨s5, rfl, f5⟩ ?_ ?_
    · rintro j d μ Q2 hd2 ⟨s5, rfl, f5⟩ hk2
      rw [List.getElem?_map] at hd2
      obtain ⟨pt, hpt, rfl⟩ := Option.map_eq_some_iff.mp hd2
      have hjl := (List.getElem?_eq_some_iff.mp hpt).1
      have hk2 := hk2 [.val (.int n), .val (.int 2), .val (.list (P.map ptD)), .val (.int i), .own (.list (((P.take (j + 1)).flatMap fun pt => [pt ++ [0], pt ++ [1], pt ++ [2]]).map ptD)), .val (ptD pt), .no] ⟨_, rfl, rfl⟩
      rw [take_snoc hpt, List.flatMap_append, List.map_append, List.flatMap_singleton] at hk2
      have ln : (((P.take j).flatMap fun pt => [pt ++ [0], pt ++ [1], pt ++ [2]]).map ptD).length ≤ 1000 := by
        rw [List.length_map, List.length_flatMap]
        have e : ∀ l : List (List Rat), (l.map fun pt => ([pt ++ [0], pt ++ [1], pt ++ [2]] : List (List Rat)).length).sum = 3 * l.length := fun l => by
          induction l with
          | nil => rfl
          | cons a l ih => rw [List.map_cons, List.sum_cons, ih, List.length_cons]; simp; omega
        rw [e, List.length_take]; omega
      generalize ((P.take j).flatMap fun pt => [pt ++ [0], pt ++ [1], pt ++ [2]]).map ptD = A at *
      have pp : isPair (ptD pt) = false := rfl
      have ec : compL (turnR [6] false (ev F (.bin .add (.var 5) (.tup (.cons (.tup (.cons (.var 6) (.cons (.int 1) .nil))) .nil)))) none) ((List.range 3).map fun (j : Nat) => PyData.int (j : Int)) [] [.val (.int n), .val (.int 2), .val (.list (P.map ptD)), .val (.int i), .own (.list A), .val (ptD pt), .no] = .ok ([pt ++ [0], pt ++ [1], pt ++ [2]].map ptD) [.val (.int n), .val (.int 2), .val (.list (P.map ptD)), .val (.int i), .own (.list A), .val (ptD pt), .no] := by
        have ad : ∀ q : Rat, addD (ptD pt) (.tuple [ratD q]) = some (ptD (pt ++ [q])) := fun q => by
          have := hP pt (List.mem_of_getElem? hpt)
          unfold ptD
          rw [addT_ok (by rw [List.length_map]; simp; omega), List.map_append]; rfl
        have e := compL_on (f := turnR [6] false (ev F (.bin .add (.var 5) (.tup (.cons (.tup (.cons (.var 6) (.cons (.int 1) .nil))) .nil)))) none) (μ := [.val (.int n), .val (.int 2), .val (.list (P.map ptD)), .val (.int i), .own (.list A), .val (ptD pt), .no]) (fun (j : Nat) => PyData.int (j : Int)) (fun (j : Nat) => ptD (pt ++ [((j : Int) : Rat)])) (List.range 3) [] fun j hj => by
          have mj : PyData.tuple [.int (j : Int), .int 1] = ratD ((j : Int) : Rat) := rfl
          have ad := ad ((j : Int) : Rat)
          generalize ((j : Int) : Rat) = q at *
          simp -implicitDefEqProofs [mj, ad]
        exact e
      have hY : ([pt ++ [0], pt ++ [1], pt ++ [2]].map ptD).length = 3 := rfl
      generalize [pt ++ [0], pt ++ [1], pt ++ [2]].map ptD = Y at *
      simp -implicitDefEqProofs [isLck_f f5, pp, rng1_ok (show (0 : Int) ≤ 3 by decide) (show (3 : Int) ≤ 1000 by decide), rangeD_map, ec, extO_ok (show A.length + Y.length ≤ 1000000 by omega)]
      exact hk2
    · rintro μ ⟨s5, rfl, f5⟩
      rw [List.length_map, List.take_length]
      have hk := hk s5 f5
      generalize (P.flatMap fun pt => [pt ++ [0], pt ++ [1], pt ++ [2]]).map ptD = A at *
      simp -implicitDefEqProofs
      exact hk
  · rintro μ ⟨s3, s4, s5, rfl, _⟩
    rw [rangeD_len]
    simp -implicitDefEqProofs [outsOf]
end Mn
set_option Elab.async false
set_option linter.all false
set_option maxRecDepth 100000
set_option autoImplicit false
set_option maxHeartbeats 1000000
set_option exponentiation.threshold 10000
namespace Mn
open PySem PySem.Spec Lb
/-! ## all comes to what the numbers come to -/
theorem val_ok {n x d N L : Nat} {p : List Tm} {pt : List Rat} (h : Pb n x d N L p) (hx : x ≤ 60) (hl : pt.length = n) (n3 : n ≤ 3) (hc : ∀ q ∈ pt, Cd 10 20 q) (d0 : 0 < d) (dB : d * Ka ^ 3 < 2 ^ 4000) (NB : (L + 1) * (N * Kb ^ 3) < 2 ^ 4000) : ValOk n d N L p pt :=
  ⟨h.mono hx (Nat.le_refl _) (Nat.le_refl _), hl, by omega, hc, d0, Nat.lt_of_le_of_lt (Nat.mul_le_mul_left _ (Ka_le n3)) dB, Nat.lt_of_le_of_lt (Nat.mul_le_mul_left _ (Nat.mul_le_mul_left _ (Kb_le n3))) NB⟩
/-- the three polynomials -/
structure P3 (n : Nat) (p : List Tm) : Prop where
  pb : Pb n 2 dd NN 4 p
  cn : Cn2 p
theorem dd0 : 0 < dd := by decide
theorem dd4 : dd < 2 ^ 4000 := by decide +kernel
theorem NN4 : NN < 2 ^ 4000 := by decide +kernel
section
variable {n : Nat} {a b c : List Tm}
theorem P3.rb (h : P3 n a) : ∀ t ∈ a, RB t.2 := h.pb.rb dd0 dd4 NN4
theorem P3.app (h : P3 n a) (g : P3 n b) : Pb n 2 dd NN 8 (a ++ b) := h.pb.append g.pb
theorem P3.less (h : P3 n a) (g : P3 n b) : Pb n 2 dd NN 8 (a ++ negP b) := h.pb.append g.pb.neg
theorem P3.prod (h : P3 n a) (g : P3 n b) : Pb n 4 (dd * dd) (NN * NN) 16 (lprodL a b) := h.pb.lprod g.pb
end
/-- a polynomial that is one, and what it comes to -/
structure GoodE (n : Nat) (pt : List Rat) (G1 G2 : List Sl → FR) (p : List Tm) (v : Rat) : Prop where
  is_ : G1 [.val (.int n), .val (polyD p)] = .ok (.bool true) []
  vl : G2 [.val (polyD p), .val (ptD pt)] = .ok (ratD v) []
theorem good_of {n x d N L : Nat} {p : List Tm} {pt : List Rat} {v : Rat} {G1 G2 : List Sl → FR} (h1 : PolyBS G1) (h2 : ValS G2) (h : Pb n x d N L p) (cn : Cn2 p) (hv : Lf (mono pt) p = v) (hx : x ≤ 60) (hl : pt.length = n) (n3 : n ≤ 3) (hc : ∀ q ∈ pt, Cd 10 20 q) (d0 : 0 < d) (dB : d < 2 ^ 1900) (NB : N < 2 ^ 1900) (hL : L ≤ 100) (dB2 : d * Ka ^ 3 < 2 ^ 4000) (NB2 : (L + 1) * (N * Kb ^ 3) < 2 ^ 4000) : GoodE n pt G1 G2 p v := by
  have sh := shw_poly h (by omega) (Nat.lt_of_le_of_lt hx (by decide +kernel)) d0 dB NB hL
  constructor
  · rw [h1 n (polyD p) ⟨sh.pl, sh.sh⟩ (fun xs e => by
      have e : PyData.tuple (p.map termD) = .tuple xs := e
      cases e
      rw [List.length_map]
      have := h.len; omega), polyB_of cn h.wid fun t ht y hy => (h.rng t ht y hy).1]
  · rw [h2 _ _ _ _ _ _ (val_ok h hx hl n3 hc d0 dB2 NB2), hv]
def AtS (G : List Sl → FR) : Prop := ∀ (n : Nat) (a b c : List Tm) (pt : List Rat), 1 ≤ n → n ≤ 3 → P3 n a → P3 n b → P3 n c → pt.length = n → (∀ q ∈ pt, Cd 10 20 q) → G [.val (ptD pt), .val (polyD a), .val (polyD b), .val (polyD c)] = .ok (.bool true) []
def entD (e : List Tm × Rat) : D := .tuple [polyD e.1, ratD e.2]
theorem atS (F : Nat → List Sl → FR) (W cv cm cl cp ca ct cq cr ci cs : Nat) (hv : ValS (F cv)) (hm : Rat2 (F cm) (· - ·)) (hl : LessS (F cl)) (hp : Rat2 (F cp) (· + ·)) (ha : AddS (F ca)) (ht : Rat2 (F ct) (· * ·)) (hq : ProdS (F cq)) (hr : RaisedS (F cr)) (hi : PutS (F ci)) (hs : PolyBS (F cs)) : AtS (runFn F W (f_l_at cv cm cl cp ca ct cq cr ci cs)) := by
  intro n a b c pt n1 n3 pa pb pc hn hc
  suffices hw : (runFn F W (f_l_at cv cm cl cp ca ct cq cr ci cs) [.val (ptD pt), .val (polyD a), .val (polyD b), .val (polyD c)]).wp fun x o => x = .bool true ∧ o = [] by
    obtain ⟨_, _, e, rfl, rfl⟩ := FR.wp_elim hw
    exact e
  refine wp_run rfl rfl ?_
  -- the values
  have vok : ∀ {p : List Tm}, P3 n p → ValOk n dd NN 4 p pt := fun h => val_ok h.pb (by decide) hn n3 hc dd0 (by decide +kernel) (by decide +kernel)
  have va := hv _ _ _ _ _ _ (vok pa)
  have vb := hv _ _ _ _ _ _ (vok pb)
  have vc := hv _ _ _ _ _ _ (vok pc)
  have cdv : ∀ {p : List Tm}, P3 n p → Cd (dd * Ka ^ n) (4 * (NN * Kb ^ n)) (Lf (mono pt) p) := fun {p} h => by
    have := (vok h).cdl p.length
    rwa [List.take_length] at this
  have D0 : 0 < dd * Ka ^ n := Nat.mul_pos dd0 (Nat.pow_pos Ka1)
  have DL : dd * Ka ^ n ≤ dd * Ka ^ 3 := Nat.mul_le_mul_left _ (Ka_le n3)
  have ML : 4 * (NN * Kb ^ n) ≤ 4 * (NN * Kb ^ 3) := Nat.mul_le_mul_left _ (Nat.mul_le_mul_left _ (Kb_le n3))
  have rv : ∀ {p : List Tm}, P3 n p → RB (Lf (mono pt) p) := fun h => (cdv h).rb D0 (Nat.lt_of_le_of_lt DL (by decide +kernel)) (Nat.lt_of_le_of_lt ML (by decide +kernel))
  have ra := rv pa
  have rb := rv pb
  have rc := rv pc
  have rab : RB (Lf (mono pt) a + Lf (mono pt) b) := ((cdv pa).add (cdv pb)).rb D0 (Nat.lt_of_le_of_lt DL (by decide +kernel)) (Nat.lt_of_le_of_lt (Nat.add_le_add ML ML) (by decide +kernel))
  have raa : RB (Lf (mono pt) a * Lf (mono pt) a) := ((cdv pa).mul (cdv pa)).rb (Nat.mul_pos D0 D0) (Nat.lt_of_le_of_lt (Nat.mul_le_mul DL DL) (by decide +kernel)) (Nat.lt_of_le_of_lt (Nat.mul_le_mul ML ML) (by decide +kernel))
  have w1 : F cp [.val (ratD (Lf (mono pt) a)), .val (ratD (Lf (mono pt) b))] = .ok (ratD ((Lf (mono pt) a) + (Lf (mono pt) b))) [] := hp _ _ ra rb
  have w2 : F cm [.val (ratD (Lf (mono pt) a)), .val (ratD (Lf (mono pt) b))] = .ok (ratD ((Lf (mono pt) a) - (Lf (mono pt) b))) [] := hm _ _ ra rb
  have w3 : F ct [.val (ratD (Lf (mono pt) a)), .val (ratD (Lf (mono pt) b))] = .ok (ratD ((Lf (mono pt) a) * (Lf (mono pt) b))) [] := ht _ _ ra rb
  have w4 : F ct [.val (ratD (Lf (mono pt) a + Lf (mono pt) b)), .val (ratD (Lf (mono pt) c))] = .ok (ratD ((Lf (mono pt) a + Lf (mono pt) b) * (Lf (mono pt) c))) [] := ht _ _ rab rc
  have w5 : F ct [.val (ratD (Lf (mono pt) a)), .val (ratD (Lf (mono pt) a))] = .ok (ratD ((Lf (mono pt) a) * (Lf (mono pt) a))) [] := ht _ _ ra ra
  have w6 : F ct [.val (ratD (Lf (mono pt) a)), .val (ratD (Lf (mono pt) a * Lf (mono pt) a))] = .ok (ratD ((Lf (mono pt) a) * (Lf (mono pt) a * Lf (mono pt) a))) [] := ht _ _ ra raa
  -- the polynomials
  have q1 := ha a b ((pa.app pb).ts n1 dd0 dd4 (by decide) (by decide +kernel))
  have q2 := hl a b pb.rb ((pa.less pb).ts n1 dd0 dd4 (by decide) (by decide +kernel))
  have tsp : ∀ {p q : List Tm}, P3 n p → P3 n q → TsOk (prodL p q) := fun {p q} g h => by
    rw [prodL_lprodL]
    exact (h.prod g).ts n1 (by decide) (by decide +kernel) (by decide) (by decide +kernel)
  have q3 := hq a b pa.rb pb.rb (tsp pa pb)
  rw [gath_prod] at q3
  have g1 : Pb n 2 dd (8 * NN) 8 (gath (a ++ b)) := (pa.app pb).gath
  have g4 : Pb n 4 (dd * dd) (8 * NN * NN) 32 (lprodL (gath (a ++ b)) c) := g1.lprod pc.pb
  have q4 := hq (gath (a ++ b)) c (g1.rb dd0 dd4 (by decide +kernel)) pc.rb (by
    rw [prodL_lprodL]
    have g : Pb n 4 (dd * dd) (NN * (8 * NN)) 32 (lprodL c (gath (a ++ b))) := pc.pb.lprod g1
    exact g.ts n1 (by decide) (by decide +kernel) (by decide) (by decide +kernel))
  rw [gath_prod] at q4
  have ok5 : RpOk n 2 dd NN 4 a 3 := ⟨pa.pb, n1, dd0, by decide +kernel, by decide, by decide +kernel, by decide, by decide +kernel⟩
  have q5 := hr _ _ _ _ _ _ _ ok5 (by omega) (by decide)
  have q5 : F cr [.val (.int n), .val (polyD a), .val (.int 3)] = .ok (polyD (rp n a 3)) [] := q5
  have e1 : GoodE n pt (F cs) (F cv) (gath (a ++ b)) (Lf (mono pt) a + Lf (mono pt) b) := good_of hs hv g1 (cn_gath _) (by rw [val_gath, Lf_append]) (by decide) hn n3 hc dd0 (by decide +kernel) (by decide +kernel) (by decide) (by decide +kernel) (by decide +kernel)
  have e2 : GoodE n pt (F cs) (F cv) (gath (a ++ negP b)) (Lf (mono pt) a - Lf (mono pt) b) := good_of hs hv (pa.less pb).gath (cn_gath _) (by rw [val_gath, Lf_append, Lf_neg, Rat.sub_eq_add_neg]) (by decide) hn n3 hc dd0 (by decide +kernel) (by decide +kernel) (by decide) (by decide +kernel) (by decide +kernel)
  have e3 : GoodE n pt (F cs) (F cv) (gath (lprodL a b)) (Lf (mono pt) a * Lf (mono pt) b) := good_of hs hv (pa.prod pb).gath (cn_gath _) (by rw [val_gath, val_prod pa.pb.wd pb.pb.wd hn]) (by decide) hn n3 hc (by decide) (by decide +kernel) (by decide +kernel) (by decide) (by decide +kernel) (by decide +kernel)
  have e4 : GoodE n pt (F cs) (F cv) (gath (lprodL (gath (a ++ b)) c)) ((Lf (mono pt) a + Lf (mono pt) b) * Lf (mono pt) c) := good_of hs hv g4.gath (cn_gath _) (by rw [val_gath, val_prod g1.wd pc.pb.wd hn, val_gath, Lf_append]) (by decide) hn n3 hc (by decide) (by decide +kernel) (by decide +kernel) (by decide) (by decide +kernel) (by decide +kernel)
  have e5 : GoodE n pt (F cs) (F cv) (rp n a 3) (Lf (mono pt) a * (Lf (mono pt) a * Lf (mono pt) a)) := good_of hs hv (rp_pb pa.pb 3) (cn_gath _) (by
    rw [val_rp pa.pb hn]
    show 1 * Lf (mono pt) a * Lf (mono pt) a * Lf (mono pt) a = _
    rw [Rat.one_mul, Rat.mul_assoc]) (by decide) hn n3 hc (by decide) (by decide +kernel) (by decide +kernel) (by decide) (by decide +kernel) (by decide +kernel)
  have e6 : ∀ (j : Nat) (q : Rat), pt[j]? = some q → F ci [.val (polyD a), .val (.int j), .val (ratD q)] = .ok (polyD (gath (putT a j q))) [] ∧ GoodE n pt (F cs) (F cv) (gath (putT a j q)) (Lf (mono pt) a) := fun j q hj => by
    have hjn : j < n := by rw [← hn]; exact (List.getElem?_eq_some_iff.mp hj).1
    obtain ⟨s1, s2⟩ := (hc q (List.mem_of_getElem? hj)).le (by decide)
    have sm : SmB q := ⟨by omega, Nat.le_trans s2 (by decide)⟩
    have p20 : Pb n 20 dd NN 6 a := pa.pb.mono (by decide) (Nat.le_refl _) (by decide)
    obtain ⟨ok, _⟩ := put_ok p20 n1 (by omega) sm hjn
    obtain ⟨k0, k1⟩ := sm.den20
    have dle : dd * q.den ^ 20 ≤ dd * 30 ^ 20 := Nat.mul_le_mul_left _ k1
    refine ⟨hi _ _ _ _ _ ok, good_of hs hv (put_pb p20 sm hjn).gath (cn_gath _) (by rw [val_gath, val_put pa.pb.wd hn hj]) (by decide) hn n3 hc (Nat.mul_pos dd0 k0) (Nat.lt_of_le_of_lt dle (by decide +kernel)) (by decide +kernel) (by decide) (Nat.lt_of_le_of_lt (Nat.mul_le_mul_right _ dle) (by decide +kernel)) (by decide +kernel)⟩
  have hlen : lenD (ptD pt) = some (.int n) := by
    show some (PyData.int ((pt.map ratD).length : Int)) = _
    rw [List.length_map, hn]
  generalize gath (a ++ b) = A1 at *
  generalize gath (a ++ negP b) = A2 at *
  generalize gath (lprodL a b) = A3 at *
  generalize gath (lprodL A1 c) = A4 at *
  generalize rp n a 3 = A5 at *
  generalize hVa : Lf (mono pt) a = Va at *
  generalize Lf (mono pt) b = Vb at *
  generalize Lf (mono pt) c = Vc at *
  generalize Va + Vb = V1 at *
  generalize Va - Vb = V2 at *
  generalize Va * Vb = V3 at *
  generalize V1 * Vc = V4 at *
  generalize Va * Va = Vaa at *
  generalize Va * Vaa = V5 at *
  have cat : ∀ (xs ys : List D) (μ : Mu), xs.length + ys.length ≤ 100 → catO (some (.list xs)) ys μ = .ok (.list (xs ++ ys)) μ := fun xs ys μ h => catO_ok (by omega)
  simp -implicitDefEqProofs [f_l_at, va, vb, vc, q1, q2, q3, q4, q5, w1, w2, w3, w4, w5, w6, hlen, catO_ok, rng1_ok (show (0 : Int) ≤ n by omega) (show (n : Int) ≤ 1000 by omega)]
  refine wp_forL (fun j μ => ∃ (es : List (List Tm × Rat)) (s5 : Sl), μ = [.val (ptD pt), .val (polyD a), .val (polyD b), .val (polyD c), .own (.list (es.map entD)), s5, .val (ratD Va), .val (ratD Vb), .val (ratD Vc), .no, .no] ∧ FrS s5 ∧ es.length = 5 + j ∧ ∀ e ∈ es, GoodE n pt (F cs) (F cv) e.1 e.2) _ _ ⟨[(A1, V1), (A2, V2), (A3, V3), (A4, V4), (A5, V5)], .no, rfl, rfl, rfl, by simp; exact ⟨e1, e2, e3, e4, e5⟩⟩ ?_ ?_
  · rintro j d μ Q' hd ⟨es, s5, rfl, f5, le, ge⟩ hk
    obtain ⟨hj, rfl⟩ := rangeD_get hd
    obtain ⟨q, hj'⟩ : ∃ q, pt[j]? = some q := ⟨_, List.getElem?_eq_getElem (by omega)⟩
    obtain ⟨k1, k2⟩ := e6 j q hj'
    have ix := pt_at hj'
    have hk := hk [.val (ptD pt), .val (polyD a), .val (polyD b), .val (polyD c), .own (.list ((es ++ [(gath (putT a j q), Va)]).map entD)), .val (.int j), .val (ratD Va), .val (ratD Vb), .val (ratD Vc), .no, .no] ⟨_, _, rfl, rfl, by simp [le]; omega, fun e he => by
      rcases List.mem_append.mp he with he | he
      · exact ge e he
      · rw [List.mem_singleton] at he; subst he; exact k2⟩
    rw [List.map_append, List.map_cons, List.map_nil, show entD (gath (putT a j q), Va) = .tuple [polyD (gath (putT a j q)), ratD Va] from rfl] at hk
    have hl2 : (es.map entD).length ≤ 1000000 := by rw [List.length_map]; omega
    generalize gath (putT a j q) = A6 at *
    generalize es.map entD = E1 at *
    simp -implicitDefEqProofs [isLck_f f5, ix, k1, appO_ok hl2]
    exact hk
  · rintro μ ⟨es, s5, rfl, f5, le, ge⟩
    have lk : lockM (some 4) [.val (ptD pt), .val (polyD a), .val (polyD b), .val (polyD c), .own (.list (es.map entD)), s5, .val (ratD Va), .val (ratD Vb), .val (ratD Vc), .no, .no] = [.val (ptD pt), .val (polyD a), .val (polyD b), .val (polyD c), .lck (.list (es.map entD)), s5, .val (ratD Va), .val (ratD Vb), .val (ratD Vc), .no, .no] := rfl
    have un : ∀ s9 s10, unlockM (some 4) [.val (ptD pt), .val (polyD a), .val (polyD b), .val (polyD c), .own (.list (es.map entD)), s5, .val (ratD Va), .val (ratD Vb), .val (ratD Vc), .no, .no] [.val (ptD pt), .val (polyD a), .val (polyD b), .val (polyD c), .lck (.list (es.map entD)), s5, .val (ratD Va), .val (ratD Vb), .val (ratD Vc), s9, s10] = [.val (ptD pt), .val (polyD a), .val (polyD b), .val (polyD c), .own (.list (es.map entD)), s5, .val (ratD Va), .val (ratD Vb), .val (ratD Vc), s9, s10] := fun _ _ => rfl
    have ps : pksP (.pk 4) = some 4 := rfl
    simp -implicitDefEqProofs [ps, lk]
    refine wp_forL (fun j μ => ∃ (s9 s10 : Sl), μ = [.val (ptD pt), .val (polyD a), .val (polyD b), .val (polyD c), .lck (.list (es.map entD)), s5, .val (ratD Va), .val (ratD Vb), .val (ratD Vc), s9, s10] ∧ FrS s9 ∧ FrS s10) _ _ ⟨.no, .no, rfl, rfl, rfl⟩ ?_ ?_
    · rintro j d μ Q' hd ⟨s9, s10, rfl, f9, f10⟩ hk
      rw [List.getElem?_map] at hd
      obtain ⟨e, he, rfl⟩ := Option.map_eq_some_iff.mp hd
      have g := ge e (List.mem_of_getElem? he)
      have g1 := g.is_
      have g2 := g.vl
      have st : ∀ is μ, setT is true (entD e) μ = setAll is [polyD e.1, ratD e.2] μ := fun _ _ => rfl
      generalize es.map entD = E1 at *
      simp -implicitDefEqProofs [st, isLck_f f9, isLck_f f10, hlen, g1, g2]
      exact hk _ ⟨_, _, rfl, frS_val _, frS_val _⟩
    · rintro μ ⟨s9, s10, rfl, f9, f10⟩
      simp -implicitDefEqProofs [un, outsOf]
end Mn
set_option Elab.async false
set_option linter.all false
set_option maxRecDepth 100000
set_option autoImplicit false
set_option maxHeartbeats 1000000
set_option exponentiation.threshold 10000
namespace Mn
open PySem PySem.Spec Lb
/-! ## the second tape -/
def tape2 (s : List Int) (spot left : Int) : D := .list [.list (s.map .int), .int spot, .int left]
def TB2 (n : Nat) (T : D) : Prop := ∃ (s : List Int) (spot left : Int), T = tape2 s spot left ∧ s.length ≤ 63 ∧ 0 ≤ spot ∧ spot ≤ n ∧ 0 ≤ left
theorem TB2.mono {n m : Nat} {T : D} (h : TB2 n T) (l : n ≤ m) : TB2 m T := by
  obtain ⟨s, p, f, h1, h2, h3, h4, h5⟩ := h
  exact ⟨s, p, f, h1, h2, h3, by omega, h5⟩
def TapeS2 (G : List Sl → FR) : Prop := ∀ ns : List Int, G [.val (.list (ns.map .int))] = .fr (tape2 ns 0 0) []
theorem tapeS2 (F : Nat → List Sl → FR) (W : Nat) : TapeS2 (runFn F W f_l_tape_2) := by
  intro ns
  rw [runFn_at rfl rfl]
  simp -implicitDefEqProofs [f_l_tape_2, outsOf, tape2]
theorem tb2_0 {ns : List Int} (h : ns.length ≤ 63) : TB2 0 (tape2 ns 0 0) := ⟨ns, 0, 0, rfl, h, by omega, by omega, by omega⟩
def DrawS2 (G : List Sl → FR) : Prop := ∀ (n : Nat) (T : D) (many : Int), TB2 n T → n ≤ 1000000000000 → 0 < many → many < 2 ^ 64 → ∃ r T', G [.own T, .val (.int many)] = .ok (.int r) [T'] ∧ 0 ≤ r ∧ r < many ∧ TB2 (n + 1) T'
theorem setE_3 (s : List Int) (spot left v : Int) (μ : Mu) (h : owned μ 0 = some (tape2 s spot left)) : setE 0 (.int 1) (.int v) μ = some (μ.set 0 (.own (tape2 s v left))) ∧ setE 0 (.int 2) (.int v) μ = some (μ.set 0 (.own (tape2 s spot v))) := by
  unfold setE
  rw [h]
  exact ⟨rfl, rfl⟩
theorem drawS2 (F : Nat → List Sl → FR) (W : Nat) : DrawS2 (runFn F W f_l_draw_2) := by
  intro n T many h hn hm hm2
  obtain ⟨s, spot, left, rfl, hs, h1, h2, h3⟩ := h
  suffices hh : ∀ Q : D → List D → Prop, (∀ r T', (0 ≤ r ∧ r < many ∧ TB2 (n + 1) T') → Q (.int r) [T']) → (runFn F W f_l_draw_2 [.own (tape2 s spot left), .val (.int many)]).wp Q by
    obtain ⟨x, o, e, r, T', rfl, rfl, g⟩ := FR.wp_elim (hh (fun x o => ∃ r T', x = .int r ∧ o = [T'] ∧ 0 ≤ r ∧ r < many ∧ TB2 (n + 1) T') fun r T' g => ⟨r, T', rfl, rfl, g⟩)
    exact ⟨r, T', e, g⟩
  intro Q hQ
  refine wp_run rfl rfl ?_
  have i0 : ∀ a b, ixD (tape2 s a b) (.int 0) = some (.list (s.map .int)) := fun a b => atI_nat (by decide) rfl
  have i1 : ∀ a b, ixD (tape2 s a b) (.int 1) = some (.int a) := fun a b => atI_nat (by decide) rfl
  have i2 : ∀ a b, ixD (tape2 s a b) (.int 2) = some (.int b) := fun a b => atI_nat (by decide) rfl
  have ll : lenD (.list (s.map PyData.int)) = some (.int (s.length : Int)) := by
    show some (PyData.int ((s.map PyData.int).length : Int)) = _
    rw [List.length_map]
  have p18 : powD (.int 10) (.int 18) = some (.int 1000000000000000000) := rfl
  have dv := fdivD_int (i := left) (divOk_64 hm hm2)
  have md : ∀ i : Int, modD (.int i) (.int many) = some (.int (i.fmod many)) := fun i => modD_int (by omega)
  by_cases h0 : left = 0
  · subst h0
    -- the cell
    obtain ⟨c, hcell⟩ : ∃ c : Int, (0 < s.length → modD (.int spot) (.int (s.length : Int)) = some (.int (spot.fmod s.length)) ∧ L2.atI (s.map PyData.int) (spot.fmod s.length) = some (.int c)) ∧ (s.length = 0 → c = spot) := by
      by_cases hz : s.length = 0
      · exact ⟨spot, fun q => by omega, fun _ => rfl⟩
      · have hp : (0 : Int) < s.length := by omega
        have lo := fmod_lo (a := spot) hp
        have hi := fmod_hi (a := spot) hp
        obtain ⟨v, hv⟩ : ∃ v, s[(spot.fmod s.length).toNat]? = some v := ⟨_, List.getElem?_eq_getElem (by omega)⟩
        exact ⟨v, fun _ => ⟨modD_int (by omega), atI_nat lo (by rw [List.getElem?_map, hv]; rfl)⟩, fun q => by omega⟩
    have e1 := fmod_lo (a := c) (b := 1000003) (by decide)
    have e2 := fmod_hi (a := c) (b := 1000003) (by decide)
    have e3 := fmod_lo (a := spot) (b := 997) (by decide)
    have e4 := fmod_hi (a := spot) (b := 997) (by decide)
    obtain ⟨u, hu⟩ : ∃ u, u = ((c.fmod 1000003 + 1) * (48271 + 2 * spot.fmod 997)).fmod 2147483647 := ⟨_, rfl⟩
    have u0 : 0 ≤ u := by rw [hu]; exact fmod_lo (by decide)
    have u1 : u < 2147483647 := by rw [hu]; exact fmod_hi (by decide)
    have m1 : modD (.int c) (.int 1000003) = some (.int (c.fmod 1000003)) := modD_int (by decide)
    have m2 : modD (.int spot) (.int 997) = some (.int (spot.fmod 997)) := modD_int (by decide)
    have m3 : mulD (.int 2) (.int (spot.fmod 997)) = some (.int (2 * spot.fmod 997)) := mulD_int (mulOk_200 (by omega) (by omega))
    have m4 : mulD (.int (c.fmod 1000003 + 1)) (.int (48271 + 2 * spot.fmod 997)) = some (.int ((c.fmod 1000003 + 1) * (48271 + 2 * spot.fmod 997))) := mulD_int (mulOk_200 (by omega) (by omega))
    have m5 : modD (.int ((c.fmod 1000003 + 1) * (48271 + 2 * spot.fmod 997))) (.int 2147483647) = some (.int u) := by rw [hu]; exact modD_int (by decide)
    have m6 : mulD (.int 104729) (.int spot) = some (.int (104729 * spot)) := mulD_int (mulOk_200 (by omega) (by omega))
    have m7 : mulD (.int (u + 104729 * spot)) (.int 69621) = some (.int ((u + 104729 * spot) * 69621)) := mulD_int (mulOk_200 (by omega) (by omega))
    have m8 : modD (.int ((u + 104729 * spot) * 69621)) (.int 2147483629) = some (.int (((u + 104729 * spot) * 69621).fmod 2147483629)) := modD_int (by decide)
    have m9 := fdivD_int (i := ((u + 104729 * spot) * 69621).fmod 2147483629) (divOk_64 (j := 7) (by decide) (by decide))
    have m10 := md ((((u + 104729 * spot) * 69621).fmod 2147483629).fdiv 7)
    generalize (((u + 104729 * spot) * 69621).fmod 2147483629).fdiv 7 = x at *
    generalize ((u + 104729 * spot) * 69621).fmod 2147483629 = x2 at *
    generalize c.fmod 1000003 = c3 at *
    generalize spot.fmod 997 = s9 at *
    have own1 : TB2 (n + 1) (tape2 s (spot + 1) 0) := ⟨s, _, _, rfl, hs, by omega, by omega, by omega⟩
    have fin := hQ (x.fmod many) (tape2 s (spot + 1) 0) ⟨fmod_lo hm, fmod_hi hm, own1⟩
    have dv2 := fdivD_int (i := c) (divOk_64 hm hm2)
    have fin2 : 1000000000000000000 ≤ c → Q (.int (c.fmod many)) [tape2 s (spot + 1) (c.fdiv many)] := fun hc => hQ _ _ ⟨fmod_lo hm, fmod_hi hm, s, _, _, rfl, hs, by omega, by omega, Int.fdiv_nonneg (by omega) (by omega)⟩
    have mc := md c
    have set1 : ∀ μ, setE 0 (.int 1) (.int (spot + 1)) (.own (tape2 s spot 0) :: μ) = some (.own (tape2 s (spot + 1) 0) :: μ) := fun μ => rfl
    have set2 : ∀ μ, setE 0 (.int 2) (.int c) (.own (tape2 s (spot + 1) 0) :: μ) = some (.own (tape2 s (spot + 1) c) :: μ) := fun μ => rfl
    have set3 : ∀ μ v, setE 0 (.int 2) (.int v) (.own (tape2 s (spot + 1) c) :: μ) = some (.own (tape2 s (spot + 1) v) :: μ) := fun μ v => rfl
    by_cases hz : s.length = 0
    · have hcs := hcell.2 hz
      subst hcs
      have hz' : ¬ (0 < s.length) := by omega
      have hge : (s.length : Int) ≤ c := by omega
      by_cases hs1 : c < 1000000000000000000
      · simp -implicitDefEqProofs [f_l_draw_2, i0, i1, i2, set1, ll, -lenD_list, hz', p18, hs1, m1, m2, m3, m4, m5, m6, m7, m8, m9, m10, outsOf]
        exact fin
      · simp -implicitDefEqProofs [f_l_draw_2, i0, i1, i2, set1, ll, -lenD_list, hz', p18, hge, hs1, m1, m2, m3, m4, m5, m6, m7, m8, m9, m10, outsOf]
        exact fin
    · have hz' : 0 < s.length := by omega
      obtain ⟨k1, k2⟩ := hcell.1 hz'
      by_cases hs1 : c < 1000000000000000000
      · simp -implicitDefEqProofs [f_l_draw_2, i0, i1, i2, set1, ll, -lenD_list, hz', k1, k2, p18, hs1, m1, m2, m3, m4, m5, m6, m7, m8, m9, m10, outsOf]
        exact fin
      · by_cases hge : (s.length : Int) ≤ spot
        · simp -implicitDefEqProofs [f_l_draw_2, i0, i1, i2, set1, ll, -lenD_list, hz', k1, k2, p18, hge, hs1, m1, m2, m3, m4, m5, m6, m7, m8, m9, m10, outsOf]
          exact fin
        · simp -implicitDefEqProofs [f_l_draw_2, i0, i1, i2, set1, set2, set3, ll, -lenD_list, hz', k1, k2, p18, hge, hs1, mc, dv2, outsOf]
          exact fin2 (by omega)
  · have set3 : ∀ μ v, setE 0 (.int 2) (.int v) (.own (tape2 s spot left) :: μ) = some (.own (tape2 s spot v) :: μ) := fun μ v => rfl
    have ml := md left
    simp -implicitDefEqProofs [f_l_draw_2, i0, i1, i2, h0, set3, ml, dv, outsOf]
    exact hQ _ _ ⟨fmod_lo hm, fmod_hi hm, s, _, _, rfl, hs, h1, by omega, Int.fdiv_nonneg h3 (by omega)⟩
end Mn
set_option Elab.async false
set_option linter.all false
set_option maxRecDepth 100000
set_option autoImplicit false
set_option maxHeartbeats 1000000
set_option exponentiation.threshold 10000
namespace Mn
open PySem PySem.Spec Lb
def FracS (G : List Sl → FR) : Prop := ∀ a b : Int, 0 < b → a.natAbs < 2 ^ 8800 → b.natAbs < 2 ^ 8800 → G [.val (.int a), .val (.int b)] = .ok (ratD (Rat.divInt a b)) []
theorem fracS (F : Nat → List Sl → FR) (W : Nat) (hW : 2 ^ 9000 ≤ W) : FracS (runFn F W f_l_frac) := by
  intro a b hb ha hb2
  suffices hw : (runFn F W f_l_frac [.val (.int a), .val (.int b)]).wp fun d o => d = ratD (Rat.divInt a b) ∧ o = [] by
    obtain ⟨_, _, e, rfl, rfl⟩ := FR.wp_elim hw
    exact e
  obtain ⟨p1, p2⟩ := div_parts (a := a) (show b ≠ 0 by omega)
  obtain ⟨d1, _⟩ := gcd_abs (a := a) (show b ≠ 0 by omega) hb2
  rw [Int.sign_eq_one_of_pos hb, Int.one_mul] at p1 p2
  have f1 := fdivD_int (i := a) d1
  have f2 := fdivD_int (i := b) d1
  rw [p1] at f1
  rw [p2] at f2
  obtain ⟨bn, rfl⟩ : ∃ bn : Nat, b = bn := ⟨b.toNat, by omega⟩
  rw [Int.natAbs_natCast] at f1 f2 d1 hb2
  refine wp_run rfl rfl ?_
  simp -implicitDefEqProofs [f_l_frac]
  refine wp_whlL (fun μ => ∃ x y : Nat, μ = [.val (.int a), .val (.int bn), .val (.int x), .val (.int y)] ∧ Nat.gcd x y = Nat.gcd a.natAbs bn) (slotI 3) ?_ W _ ⟨a.natAbs, bn, rfl, rfl⟩ (Nat.lt_of_lt_of_le hb2 (Nat.le_trans (Nat.pow_le_pow_right (by decide) (by decide)) hW))
  rintro μ Q' ⟨x, y, rfl, hg⟩ k1 k2
  by_cases h : y = 0
  · subst h
    rw [Nat.gcd_zero_right] at hg
    subst hg
    simp -implicitDefEqProofs
    refine k1 _ ?_
    simp -implicitDefEqProofs [f1, f2, outsOf, ratD]
  · have e : modD (.int (x : Int)) (.int (y : Int)) = some (.int ((x % y : Nat) : Int)) := by rw [modD_int (by omega), fmod_nat (by omega)]
    simp -implicitDefEqProofs [h]
    refine k2 _ fun Q2 k3 => ?_
    simp -implicitDefEqProofs [e]
    refine k3 _ ⟨y, x % y, rfl, ?_⟩ ?_
    · rw [← hg, Nat.gcd_comm y, Nat.gcd_comm x, ← Nat.gcd_rec]
    · show ((x % y : Nat) : Int).toNat < (y : Int).toNat
      rw [Int.toNat_natCast, Int.toNat_natCast]
      exact Nat.mod_lt _ (by omega)
theorem den_mul_pos (a b : Rat) : 0 < (a.den : Int) * b.den := Int.mul_pos (by have := a.den_nz; omega) (by have := b.den_nz; omega)
theorem addS2 (F : Nat → List Sl → FR) (W c : Nat) (hr : FracS (F c)) : Rat2 (runFn F W (f_l_add c)) (· + ·) := by
  intro a b ha hb
  rw [runFn_at rfl rfl]
  have m1 := mulD_int (mulOk_pow ha.1 hb.dn (by decide) (by decide))
  have m2 := mulD_int (mulOk_pow hb.1 ha.dn (by decide) (by decide))
  have m3 := mulD_int (mulOk_pow ha.dn hb.dn (by decide) (by decide))
  have e := hr (a.num * b.den + b.num * a.den) ((a.den : Int) * b.den) (den_mul_pos a b) (pow_up (add_abs (mul_abs ha.1 hb.dn) (mul_abs hb.1 ha.dn)) (by decide)) (pow_up (mul_abs ha.dn hb.dn) (by decide))
  rw [add_rat] at e
  simp -implicitDefEqProofs [f_l_add, m1, m2, m3, e, outsOf]
theorem mulS2 (F : Nat → List Sl → FR) (W c : Nat) (hr : FracS (F c)) : Rat2 (runFn F W (f_l_mul c)) (· * ·) := by
  intro a b ha hb
  rw [runFn_at rfl rfl]
  have m1 := mulD_int (mulOk_pow ha.1 hb.1 (by decide) (by decide))
  have m3 := mulD_int (mulOk_pow ha.dn hb.dn (by decide) (by decide))
  have e := hr (a.num * b.num) ((a.den : Int) * b.den) (den_mul_pos a b) (pow_up (mul_abs ha.1 hb.1) (by decide)) (pow_up (mul_abs ha.dn hb.dn) (by decide))
  rw [mul_rat] at e
  simp -implicitDefEqProofs [f_l_mul, m1, m3, e, outsOf]
/-- one by a number -/
def InvS (G : List Sl → FR) : Prop := ∀ q : Rat, q ≠ 0 → G [.val (ratD q)] = .ok (ratD q⁻¹) []
theorem inv_parts {q : Rat} (h : q ≠ 0) : (0 < q.num → (q⁻¹).num = q.den ∧ ((q⁻¹).den : Int) = q.num) ∧ (q.num < 0 → (q⁻¹).num = -q.den ∧ ((q⁻¹).den : Int) = -q.num) := by
  have e : q⁻¹ = Rat.inv q := rfl
  rw [e]
  unfold Rat.inv
  constructor
  · intro z
    rw [dif_neg (show ¬ q.num < 0 by omega), dif_pos z]
    exact ⟨rfl, by show ((q.num.natAbs : Nat) : Int) = _; omega⟩
  · intro z
    rw [dif_pos z]
    exact ⟨rfl, by show ((q.num.natAbs : Nat) : Int) = _; omega⟩
theorem invS (F : Nat → List Sl → FR) (W : Nat) : InvS (runFn F W f_l_turned_2) := by
  intro q h
  rw [runFn_at rfl rfl]
  obtain ⟨h1, h2⟩ := inv_parts h
  have hn : q.num ≠ 0 := fun z => h (Rat.num_eq_zero.mp z)
  by_cases z : 0 < q.num
  · obtain ⟨e1, e2⟩ := h1 z
    have e : ratD q⁻¹ = .tuple [.int (q.den : Int), .int q.num] := by unfold ratD; rw [e1, e2]
    rw [e]
    simp -implicitDefEqProofs [f_l_turned_2, z, outsOf]
  · obtain ⟨e1, e2⟩ := h2 (by omega)
    have e : ratD q⁻¹ = .tuple [.int (-(q.den : Int)), .int (-q.num)] := by unfold ratD; rw [e1, e2]
    rw [e]
    simp -implicitDefEqProofs [f_l_turned_2, z, outsOf]
theorem lgatherS (F : Nat → List Sl → FR) (W c : Nat) (hp : Rat2 (F c) (· + ·)) : GathS (runFn F W (f_l_gather c)) := by
  intro d ts hd hts
  suffices hw : (runFn F W (f_l_gather c) [.val d]).wp fun x o => x = polyD (gath ts) ∧ o = [] by
    obtain ⟨_, _, e, rfl, rfl⟩ := FR.wp_elim hw
    exact e
  refine wp_run rfl rfl ?_
  simp -implicitDefEqProofs [f_l_gather, hd]
  refine wp_forL (fun i μ => ∃ s2 s3 : Sl, μ = [.val d, .own (.dict (tabD (accT [] (ts.take i)))), s2, s3] ∧ FrS s2 ∧ FrS s3) _ _ ?_ ?_ ?_
  · exact ⟨.no, .no, rfl, rfl, rfl⟩
  · rintro i x μ Q' hx ⟨s2, s3, rfl, f2, f3⟩ hk
    rw [List.getElem?_map] at hx
    obtain ⟨t, ht, rfl⟩ := Option.map_eq_some_iff.mp hx
    have hm : t ∈ ts := List.mem_of_getElem? ht
    have e := hp (g0 (accT [] (ts.take i)) t.1) t.2 (by rw [g0_acc]; exact hts.sums i t.1) (hts.rb t hm)
    have hl : (accT [] (ts.take i)).length ≤ 1000000 := by
      have := len_accT (ts.take i) []
      have h2 := hts.len
      rw [List.length_take] at this
      simp at this
      omega
    have hk := hk [.val d, .own (.dict (tabD (accT [] (ts.take (i + 1))))), .val (tupI t.1), .val (ratD t.2)] ⟨_, _, rfl, rfl, rfl⟩
    rw [take_snoc ht, accT_snoc] at hk
    generalize accT [] (ts.take i) = tb at *
    simp -implicitDefEqProofs [isLck_f f2, isLck_f f3, -getD2_at, getD2_tab, e, dsetO_tab hl]
    exact hk
  · rintro μ ⟨s2, s3, rfl, f2, f3⟩
    rw [List.length_map, List.take_length]
    have hn : ∀ t ∈ accT [] ts, t.1 ≠ [] := fun t ht => by
      rcases keys_accT (List.mem_map_of_mem ht) with q | q
      · cases q
      · obtain ⟨u, hu, hq⟩ := List.mem_map.mp q
        rw [← hq]; exact hts.ne u hu
    have sq := sortD_tab hn
    unfold gath
    generalize accT [] ts = tb at *
    have e : compL (turnR [2] false (ev F (.tup (.cons (.var 2) (.cons (.dix (.pk 1) (.var 2)) .nil)))) (some (testB F (.cmp .ne (.e (.dix (.pk 1) (.var 2))) (.e (.tup (.cons (.int 0) (.cons (.int 1) .nil)))))))) ((sortK (tb.map (·.1))).map tupI) [] [.val d, .own (.dict (tabD tb)), s2, s3] = .ok ([] ++ ((sortK (tb.map (·.1))).filter fun k => decide (g0 tb k ≠ 0)).map fun k => termD (k, g0 tb k)) [.val d, .own (.dict (tabD tb)), s2, s3] := by
      refine compL_filter _ _ _ _ _ fun k hk => ?_
      have hx := fun μ => dixD_tab (tb := tb) μ (mem_sortK hk)
      by_cases z : g0 tb k = 0
      · simp -implicitDefEqProofs [freeS_f f2, -dixD_at, hx, z]
      · simp -implicitDefEqProofs [freeS_f f2, -dixD_at, hx, z, termD]
    have e2 : ([] ++ ((sortK (tb.map (·.1))).filter fun k => decide (g0 tb k ≠ 0)).map fun k => termD (k, g0 tb k)) = (gathT tb).map termD := by
      unfold gathT; rw [List.map_map]; rfl
    rw [e2] at e
    simp -implicitDefEqProofs [sq, e, outsOf, polyD]
/-- the one, and a number times the other -/
def sclP (b : List Tm) (q : Rat) : List Tm := b.map fun t => (t.1, t.2 * q)
def MoreS (G : List Sl → FR) : Prop := ∀ (a b : List Tm) (q : Rat), (∀ t ∈ b, RB t.2) → RB q → a.length + b.length ≤ 1000000 → TsOk (a ++ sclP b q) → G [.val (polyD a), .val (polyD b), .val (ratD q)] = .ok (polyD (gath (a ++ sclP b q))) []
theorem moreS (F : Nat → List Sl → FR) (W c c2 : Nat) (hg : GathS (F c)) (hm : Rat2 (F c2) (· * ·)) : MoreS (runFn F W (f_l_more c c2)) := by
  intro a b q hb hq hl hts
  rw [runFn_at rfl rfl]
  have e : compL (turnR [3, 4] true (ev F (.tup (.cons (.var 3) (.cons (.call c2 (.cons (.v (.var 4)) (.cons (.v (.var 2)) .nil))) .nil)))) none) (b.map termD) [] [.val (polyD a), .val (polyD b), .val (ratD q), .no, .no] = .ok ([] ++ b.map fun t => termD (t.1, t.2 * q)) [.val (polyD a), .val (polyD b), .val (ratD q), .no, .no] := by
    refine compL_on _ _ _ _ fun t ht => ?_
    have em := hm t.2 q (hb t ht) hq
    have em : F c2 [.val (ratD t.2), .val (ratD q)] = .ok (ratD (t.2 * q)) [] := em
    have e2 : termD (t.1, t.2 * q) = .tuple [tupI t.1, ratD (t.2 * q)] := rfl
    rw [e2]
    generalize t.2 * q = v at *
    simp -implicitDefEqProofs [em]
  have eq : ([] ++ b.map fun t => termD (t.1, t.2 * q)) = (sclP b q).map termD := by
    unfold sclP; rw [List.map_map]; rfl
  rw [eq] at e
  have hg' := hg (.list ((a ++ sclP b q).map termD)) (a ++ sclP b q) rfl hts
  rw [List.map_append] at hg'
  have l1 : (a.map termD).length = a.length := List.length_map _
  have l2 : ((sclP b q).map termD).length = b.length := by rw [List.length_map]; unfold sclP; rw [List.length_map]
  have sz : (a.map termD).length + ((sclP b q).map termD).length ≤ 16777216 := by omega
  rw [l1] at sz
  generalize (sclP b q).map termD = B at *
  generalize gath (a ++ sclP b q) = C at *
  simp -implicitDefEqProofs [f_l_more, e, sz, hg', outsOf]
def Times2S (G : List Sl → FR) : Prop := ∀ (a b : List Tm), (∀ t ∈ a, RB t.2) → (∀ t ∈ b, RB t.2) → TsOk (lprodL a b) → G [.val (polyD a), .val (polyD b)] = .ok (polyD (gath (lprodL a b))) []
theorem lprod_len (b : List Tm) : ∀ a : List Tm, (lprodL a b).length = a.length * b.length
  | [] => by simp [lprodL]
  | t :: a => by
    show (lbyT t b ++ lprodL a b).length = _
    rw [List.length_append, lprod_len b a, List.length_cons, Nat.succ_mul]
    unfold lbyT
    rw [List.length_map]; omega
theorem times2S (F : Nat → List Sl → FR) (W c c2 : Nat) (hm : Rat2 (F c) (· * ·)) (hg : GathS (F c2)) : Times2S (runFn F W (f_l_times_2 c c2)) := by
  intro a b ra rb hts
  suffices hw : (runFn F W (f_l_times_2 c c2) [.val (polyD a), .val (polyD b)]).wp fun x o => x = polyD (gath (lprodL a b)) ∧ o = [] by
    obtain ⟨_, _, e, rfl, rfl⟩ := FR.wp_elim hw
    exact e
  have hlen := hts.len
  rw [lprod_len] at hlen
  refine wp_run rfl rfl ?_
  simp -implicitDefEqProofs [f_l_times_2]
  refine wp_forL (fun i μ => ∃ s3 s4 s5 s6 : Sl, μ = [.val (polyD a), .val (polyD b), .own (.list ((lprodL (a.take i) b).map termD)), s3, s4, s5, s6, .no, .no] ∧ FrS s3 ∧ FrS s4 ∧ FrS s5 ∧ FrS s6) _ _ ⟨.no, .no, .no, .no, rfl, rfl, rfl, rfl, rfl⟩ ?_ ?_
  · rintro i x μ Q' hx ⟨s3, s4, s5, s6, rfl, f3, f4, f5, f6⟩ hk
    rw [List.getElem?_map] at hx
    obtain ⟨t, ht, rfl⟩ := Option.map_eq_some_iff.mp hx
    have hmt : t ∈ a := List.mem_of_getElem? ht
    have hia := (List.getElem?_eq_some_iff.mp ht).1
    have hk := fun s5 s6 (f5 : FrS s5) (f6 : FrS s6) => hk [.val (polyD a), .val (polyD b), .own (.list ((lprodL (a.take (i + 1)) b).map termD)), .val (tupI t.1), .val (ratD t.2), s5, s6, .no, .no] ⟨_, _, _, _, rfl, rfl, rfl, f5, f6⟩
    have e2 : lprodL (a.take (i + 1)) b = lprodL (a.take i) b ++ lbyT t b := by
      rw [take_snoc ht]; unfold lprodL; rw [List.flatMap_append, List.flatMap_singleton]
    rw [e2, List.map_append] at hk
    have ln : ((lprodL (a.take i) b).map termD).length + b.length ≤ 1000000 := by
      rw [List.length_map, lprod_len, List.length_take, Nat.min_eq_left (by omega)]
      refine Nat.le_trans ?_ hlen
      rw [← Nat.succ_mul]
      exact Nat.mul_le_mul_right _ hia
    generalize (lprodL (a.take i) b).map termD = A at *
    simp -implicitDefEqProofs [isLck_f f3, isLck_f f4]
    refine wp_forL (fun j μ => ∃ s5 s6 : Sl, μ = [.val (polyD a), .val (polyD b), .own (.list (A ++ (lbyT t (b.take j)).map termD)), .val (tupI t.1), .val (ratD t.2), s5, s6, .no, .no] ∧ FrS s5 ∧ FrS s6) _ _ ⟨s5, s6, by simp [lbyT], f5, f6⟩ ?_ ?_
    · rintro j y μ Q2 hy ⟨s5, s6, rfl, f5, f6⟩ hk2
      rw [List.getElem?_map] at hy
      obtain ⟨u, hu, rfl⟩ := Option.map_eq_some_iff.mp hy
      have hjb := (List.getElem?_eq_some_iff.mp hu).1
      have hk2 := hk2 [.val (polyD a), .val (polyD b), .own (.list (A ++ (lbyT t (b.take (j + 1))).map termD)), .val (tupI t.1), .val (ratD t.2), .val (tupI u.1), .val (ratD u.2), .no, .no] ⟨_, _, rfl, rfl, rfl⟩
      have e3 : lbyT t (b.take (j + 1)) = lbyT t (b.take j) ++ [(joinP t.1 u.1, t.2 * u.2)] := by
        rw [take_snoc hu]; unfold lbyT; rw [List.map_append]; rfl
      rw [e3, List.map_append, List.map_cons, List.map_nil, ← List.append_assoc] at hk2
      have l3 : (A ++ (lbyT t (b.take j)).map termD).length ≤ 1000000 := by
        rw [List.length_append, List.length_map]; unfold lbyT; rw [List.length_map, List.length_take]; omega
      have em := hm t.2 u.2 (ra t hmt) (rb u (List.mem_of_getElem? hu))
      have em : F c [.val (ratD t.2), .val (ratD u.2)] = .ok (ratD (t.2 * u.2)) [] := em
      generalize A ++ (lbyT t (b.take j)).map termD = A2 at *
      have ej : ∀ A2 : D, compL (turnR [7, 8] true (ev F (.bin .add (.var 7) (.var 8))) none) ((t.1.zip u.1).map fun p => pairD (.int p.1) (.int p.2)) [] [.val (polyD a), .val (polyD b), .own A2, .val (tupI t.1), .val (ratD t.2), .val (tupI u.1), .val (ratD u.2), .no, .no] = .ok ((joinP t.1 u.1).map .int) [.val (polyD a), .val (polyD b), .own A2, .val (tupI t.1), .val (ratD t.2), .val (tupI u.1), .val (ratD u.2), .no, .no] := fun A2 => by
        have := compL_on (f := turnR [7, 8] true (ev F (.bin .add (.var 7) (.var 8))) none) (μ := [.val (polyD a), .val (polyD b), .own A2, .val (tupI t.1), .val (ratD t.2), .val (tupI u.1), .val (ratD u.2), .no, .no]) (fun p : Int × Int => pairD (.int p.1) (.int p.2)) (fun p => PyData.int (p.1 + p.2)) (t.1.zip u.1) [] fun p hp => by
          simp -implicitDefEqProofs
        rw [this]; unfold joinP; rw [List.map_map]; rfl
      have ez : ∀ μ, zip2D (tupI t.1) (tupI u.1) μ = .ok ((t.1.zip u.1).map fun p => pairD (.int p.1) (.int p.2)) μ := fun μ => by
        unfold tupI; rw [zip2_tup, zip_ints]
      have et : tupD (.list ((joinP t.1 u.1).map .int)) = some (tupI (joinP t.1 u.1)) := rfl
      have td : termD (joinP t.1 u.1, t.2 * u.2) = .tuple [tupI (joinP t.1 u.1), ratD (t.2 * u.2)] := rfl
      rw [td] at hk2
      generalize t.2 * u.2 = V at *
      generalize hJ : joinP t.1 u.1 = J at *
      simp -implicitDefEqProofs [isLck_f f5, isLck_f f6, ez, ej, et, -tupD_list, em, appO_ok l3]
      exact hk2
    · rintro μ ⟨s5, s6, rfl, f5, f6⟩
      rw [List.length_map, List.take_length]
      simp -implicitDefEqProofs
      exact hk s5 s6 f5 f6
  · rintro μ ⟨s3, s4, s5, s6, rfl, _⟩
    rw [List.length_map, List.take_length]
    have hg' := hg (.list ((lprodL a b).map termD)) (lprodL a b) rfl hts
    generalize (lprodL a b).map termD = A at *
    generalize gath (lprodL a b) = C at *
    simp -implicitDefEqProofs [hg', outsOf]
theorem runFn_same (F : Nat → List Sl → FR) (W : Nat) {f g : Fn} (h1 : f.ps.length = g.ps.length) (h2 : f.N.length = g.N.length) (h3 : f.io = g.io) (h4 : f.body = g.body) : runFn F W f = runFn F W g := by
  funext args
  unfold runFn
  rw [h1, h2, h3, h4]
theorem keyS3 (F : Nat → List Sl → FR) (W : Nat) : KeyS (runFn F W f_l_key_3) := by
  rw [runFn_same F W (f := f_l_key_3) (g := f_l_key) rfl rfl rfl rfl]
  exact keyS F W
theorem lleadS (F : Nat → List Sl → FR) (W c : Nat) (hK : KeyS (F c)) : ∀ (kind : Str) (ls : List Int) (n : Nat) (t : Tm) (p : List Tm), (∀ u ∈ t :: p, u.1.length = n) → (∀ l ∈ ls, 0 ≤ l ∧ l < (n : Int)) → ls.length ≤ 1000 → runFn F W (f_l_lead c) [.val (ordD kind ls), .val (polyD (t :: p))] = .ok (termD (best (tkey kind ls) p t)) [] := by
  intro kind ls n t p hw hl hll
  suffices hw : (runFn F W (f_l_lead c) [.val (ordD kind ls), .val (polyD (t :: p))]).wp fun x o => x = termD (best (tkey kind ls) p t) ∧ o = [] by
    obtain ⟨_, _, e, rfl, rfl⟩ := FR.wp_elim hw
    exact e
  rw [← best_self]
  generalize hP : t :: p = P at *
  have i0 : ixD (polyD P) (.int 0) = some (termD t) := by rw [← hP]; exact ix_poly0 t p
  have htP : t ∈ P := by rw [← hP]; exact List.mem_cons_self
  refine wp_run rfl rfl ?_
  simp -implicitDefEqProofs [f_l_lead, i0]
  refine wp_forL (fun i μ => ∃ s3 : Sl, μ = [.val (ordD kind ls), .val (polyD P), .val (termD (best (tkey kind ls) (P.take i) t)), s3] ∧ FrS s3) _ _ ⟨.no, rfl, rfl⟩ ?_ ?_
  · rintro i dt μ Q' hd ⟨s3, rfl, f3⟩ hk
    rw [List.getElem?_map] at hd
    obtain ⟨u, hu, rfl⟩ := Option.map_eq_some_iff.mp hd
    have hm : u ∈ P := List.mem_of_getElem? hu
    have hk := fun s3 (f3 : FrS s3) => hk [.val (ordD kind ls), .val (polyD P), .val (termD (best (tkey kind ls) (P.take (i + 1)) t)), s3] ⟨s3, rfl, f3⟩
    rw [take_snoc hu, best_snoc] at hk
    have hb : best (tkey kind ls) (P.take i) t ∈ P := by
      rcases List.mem_cons.mp (best_mem (tkey kind ls) (P.take i) t) with h | h
      · rw [h]; exact htP
      · exact List.mem_of_mem_take h
    generalize best (tkey kind ls) (P.take i) t = b at *
    have k1 : F c [.val (ordD kind ls), .val (tupI u.1)] = .ok (.list ((tkey kind ls u).map .int)) [] := hK kind ls u.1 (by rw [hw u hm]; exact hl) hll
    have k2 : F c [.val (ordD kind ls), .val (tupI b.1)] = .ok (.list ((tkey kind ls b).map .int)) [] := hK kind ls b.1 (by rw [hw b hb]; exact hl) hll
    have gt := gtD_listI (tkey kind ls u) (tkey kind ls b)
    by_cases z : tkey kind ls b < tkey kind ls u
    · rw [if_pos z] at hk
      rw [decide_eq_true z] at gt
      generalize (tkey kind ls u).map PyData.int = K1 at *
      generalize (tkey kind ls b).map PyData.int = K2 at *
      simp -implicitDefEqProofs [isLck_f f3, k1, k2, gt]
      exact hk _ (frS_val _)
    · rw [if_neg z] at hk
      rw [decide_eq_false z] at gt
      generalize (tkey kind ls u).map PyData.int = K1 at *
      generalize (tkey kind ls b).map PyData.int = K2 at *
      simp -implicitDefEqProofs [isLck_f f3, k1, k2, gt]
      exact hk _ (frS_val _)
  · rintro μ ⟨s3, rfl, f3⟩
    rw [List.length_map, List.take_length]
    simp -implicitDefEqProofs [outsOf]
end Mn
set_option Elab.async false
set_option linter.all false
set_option maxRecDepth 100000
set_option autoImplicit false
set_option maxHeartbeats 1000000
set_option exponentiation.threshold 10000
namespace Mn
open PySem PySem.Spec Lb
/-! ## alike -/
/-- short at each depth -/
def Short : Nat → D → Prop
  | 0, _ => True
  | k + 1, d => (∀ xs, d = .tuple xs → xs.length ≤ 1000 ∧ ∀ x ∈ xs, Short k x) ∧ (∀ xs, d = .list xs → xs.length ≤ 1000 ∧ ∀ x ∈ xs, Short k x)
def Alike2 (k : Nat) (G : List Sl → FR) : Prop := ∀ d : D, d.plain = true → d.depth ≤ k → Short (k + 1) d → G [.val d, .val d] = .ok (.bool true) []
theorem isD_none {d : D} (h : d.plain = true) : isD d .none = some (isNone d) := by
  cases d <;> first | rfl | cases h
theorem alike2 (F : Nat → List Sl → FR) (W c k : Nat) (hb : ∀ k', k = k' + 1 → Alike2 k' (F c)) : Alike2 k (runFn F W (f_l_alike c)) := by
  intro d h hd hs
  rw [runFn_at rfl rfl]
  have h1 := isi_at h .tuple
  have h2 := isi_at h .list
  have h3 := isi_at h .str
  have h4 := isi_at h .bool
  have h5 := isi_at h .int
  have h6 := isD_none h
  have run : ∀ (xs : List D) (D0 : D), (∀ x ∈ xs, x.plain = true ∧ x.depth + 1 ≤ k ∧ Short k x) → (∀ j : Nat, ∀ x, xs[j]? = some x → ixD D0 (.int (j : Int)) = some x) → compL (turnR [2] false (ev F (.call c (.cons (.v (.ix (.e (.var 0)) (.var 2))) (.cons (.v (.ix (.e (.var 1)) (.var 2))) .nil)))) none) ((List.range xs.length).map fun (j : Nat) => PyData.int (j : Int)) [] [.val D0, .val D0, .no] = .ok ((List.replicate xs.length true).map .bool) [.val D0, .val D0, .no] := fun xs D0 hx hix => by
    have := compL_on (f := turnR [2] false (ev F (.call c (.cons (.v (.ix (.e (.var 0)) (.var 2))) (.cons (.v (.ix (.e (.var 1)) (.var 2))) .nil)))) none) (μ := [.val D0, .val D0, .no]) (fun (j : Nat) => PyData.int (j : Int)) (fun _ => PyData.bool true) (List.range xs.length) [] fun j hj => by
      have hj := List.mem_range.mp hj
      obtain ⟨x, hxj⟩ : ∃ x, xs[j]? = some x := ⟨_, List.getElem?_eq_getElem hj⟩
      obtain ⟨g1, g2, g3⟩ := hx x (List.mem_of_getElem? hxj)
      obtain ⟨k', rfl⟩ : ∃ k', k = k' + 1 := ⟨k - 1, by omega⟩
      have e := hb k' rfl x g1 (by omega) g3
      have ei := hix j x hxj
      simp -implicitDefEqProofs [ei, e]
    rw [this, List.nil_append, List.map_replicate]
    rw [List.map_const', List.length_range]
  have all1 : ∀ n : Nat, allD (.list ((List.replicate n true).map .bool)) = some (.bool true) := fun n => by
    rw [allD_map]; simp
  have plA : ∀ xs : List D, PyData.plainAll xs = true → PyData.depthAll xs + 1 ≤ k → ∀ x ∈ xs, x.plain = true ∧ x.depth + 1 ≤ k := fun xs g1 g2 x hx => ⟨plainAll_iff.mp g1 x hx, by have := depthAll_iff.mp (Nat.le_refl (PyData.depthAll xs)) x hx; omega⟩
  cases d with
  | dict es => cases h
  | tuple xs =>
    simp only [PyData.isTuple, PyData.isList] at h1 h2
    obtain ⟨hl, hsx⟩ := hs.1 xs rfl
    have g := plA xs h hd
    have e := run xs (.tuple xs) (fun x hx => ⟨(g x hx).1, (g x hx).2, hsx x hx⟩) fun j x hj => atI_nat (by omega) (by rw [Int.toNat_natCast]; exact hj)
    have r0 : ∀ μ, rng1D (.int (xs.length : Int)) μ = .ok ((List.range xs.length).map fun (j : Nat) => PyData.int (j : Int)) μ := fun μ => by
      rw [rng1_ok (by omega) (by omega), Int.toNat_natCast, rangeD_map]
    have a1 := all1 xs.length
    generalize (List.replicate xs.length true).map PyData.bool = B at *
    simp -implicitDefEqProofs [f_l_alike, h1, h2, r0, e, a1, outsOf]
  | list xs =>
    simp only [PyData.isTuple, PyData.isList] at h1 h2
    obtain ⟨hl, hsx⟩ := hs.2 xs rfl
    have g := plA xs h hd
    have e := run xs (.list xs) (fun x hx => ⟨(g x hx).1, (g x hx).2, hsx x hx⟩) fun j x hj => atI_nat (by omega) (by rw [Int.toNat_natCast]; exact hj)
    have r0 : ∀ μ, rng1D (.int (xs.length : Int)) μ = .ok ((List.range xs.length).map fun (j : Nat) => PyData.int (j : Int)) μ := fun μ => by
      rw [rng1_ok (by omega) (by omega), Int.toNat_natCast, rangeD_map]
    have a1 := all1 xs.length
    generalize (List.replicate xs.length true).map PyData.bool = B at *
    simp -implicitDefEqProofs [f_l_alike, h1, h2, r0, e, a1, outsOf]
  | none =>
    simp only [PyData.isTuple, PyData.isList, isNone] at h1 h2 h6
    simp -implicitDefEqProofs [f_l_alike, h1, h2, h6, outsOf]
  | str x =>
    simp only [PyData.isTuple, PyData.isList, PyData.isStr, isNone] at h1 h2 h3 h6
    simp -implicitDefEqProofs [f_l_alike, h1, h2, h3, h6, outsOf]
  | bool b =>
    simp only [PyData.isTuple, PyData.isList, PyData.isStr, PyData.isBool, isNone] at h1 h2 h3 h4 h6
    simp -implicitDefEqProofs [f_l_alike, h1, h2, h3, h4, h6, outsOf]
  | int i =>
    simp only [PyData.isTuple, PyData.isList, PyData.isStr, PyData.isBool, PyData.isInt, isNone] at h1 h2 h3 h4 h5 h6
    simp -implicitDefEqProofs [f_l_alike, h1, h2, h3, h4, h5, h6, outsOf]
theorem short_int (k : Nat) (i : Int) : Short k (.int i) := by
  cases k with
  | zero => trivial
  | succ k => exact ⟨(fun xs e => by cases e), (fun xs e => by cases e)⟩
theorem short_tup {k : Nat} {xs : List D} (hl : xs.length ≤ 1000) (h : ∀ x ∈ xs, Short k x) : Short (k + 1) (.tuple xs) := ⟨(fun ys e => by cases e; exact ⟨hl, h⟩), (fun ys e => by cases e)⟩
theorem short_poly {k n x d N L : Nat} {p : List Tm} (h : Pb n x d N L p) (hn : n ≤ 1000) (hL : L ≤ 1000) : Short (k + 3) (polyD p) := by
  refine short_tup (by rw [List.length_map]; have := h.len; omega) fun y hy => ?_
  obtain ⟨t, ht, rfl⟩ := List.mem_map.mp hy
  refine short_tup (by simp) fun z hz => ?_
  simp at hz
  rcases hz with rfl | rfl
  · refine short_tup (by rw [List.length_map, h.wid t ht]; exact hn) fun v hv => ?_
    obtain ⟨i, _, rfl⟩ := List.mem_map.mp hv
    exact short_int _ _
  · refine short_tup (by simp) fun v hv => ?_
    simp at hv
    rcases hv with rfl | rfl <;> exact short_int _ _
/-! ## a pair -/
def OverS (G : List Sl → FR) : Prop := ∀ q : Rat, q ≠ 0 → RB q → G [.val (ratD 1), .val (ratD q)] = .ok (ratD q⁻¹) []
theorem overS (F : Nat → List Sl → FR) (W c : Nat) (hr : RatioS (F c)) : OverS (runFn F W (f_over c)) := by
  intro q h hb
  rw [runFn_at rfl rfl]
  have hn : q.num ≠ 0 := fun z => h (Rat.num_eq_zero.mp z)
  have o1 : (1 : Rat).num = 1 := rfl
  have o2 : ((1 : Rat).den : Int) = 1 := rfl
  have m1 : mulD (.int 1) (.int (q.den : Int)) = some (.int (1 * q.den)) := mulD_int (mulOk_pow (a := 4000) (by decide +kernel) hb.dn (by decide) (by decide))
  have m2 : mulD (.int 1) (.int q.num) = some (.int (1 * q.num)) := mulD_int (mulOk_pow (a := 4000) (by decide +kernel) hb.1 (by decide) (by decide))
  rw [Int.one_mul] at m1 m2
  have e := hr (q.den : Int) q.num hn (pow_up hb.dn (by decide)) (pow_up hb.1 (by decide))
  have ei : Rat.divInt (q.den : Int) q.num = q⁻¹ := by
    rw [← Rat.inv_divInt, Rat.num_divInt_den]
  rw [ei] at e
  generalize q⁻¹ = v at *
  simp -implicitDefEqProofs [f_over, o1, o2, m1, m2, e, outsOf]
def stepT (t : Tm) (m : List Int) : Tm := (overP m t.1, t.2⁻¹)
def StepS (G : List Sl → FR) : Prop := ∀ (t : Tm) (m : List Int), t.2 ≠ 0 → RB t.2 → G [.val (termD t), .val (tupI m)] = .ok (termD (stepT t m)) []
theorem stepS (F : Nat → List Sl → FR) (W c c2 : Nat) (ho : OverS (F c)) (hp : Pure2 (F c2) fun xs ys => tupI (overP xs ys)) : StepS (runFn F W (f_step_to c c2)) := by
  intro t m h hb
  rw [runFn_at rfl rfl]
  have e1 := ho t.2 h hb
  have e2 : F c2 [.val (tupI m), .val (tupI t.1)] = .ok (tupI (overP m t.1)) [] := hp m t.1
  have e3 : termD (stepT t m) = .tuple [tupI (overP m t.1), ratD t.2⁻¹] := rfl
  rw [e3]
  generalize overP m t.1 = M at *
  generalize t.2⁻¹ = v at *
  simp -implicitDefEqProofs [f_step_to, e1, e2, outsOf]
/-- two polynomials, their leads, all that is reckoned of them -/
structure PairOk (kind : Str) (ls : List Int) (n : Nat) (t : Tm) (p : List Tm) : Prop where
  pb : Pb n 5 6 120 4 (t :: p)
  cn : Cn2 (t :: p)
  lo : ∀ l ∈ ls, 0 ≤ l ∧ l < (n : Int)
  ll : ls.length ≤ 1000
  n1 : 1 ≤ n
  n4 : n ≤ 4
theorem Pb.up {n x d N L : Nat} {p : List Tm} (h : Pb n x d N L p) (c : Nat) : Pb n x (d * c) (N * c) L p := ⟨h.len, h.wid, h.rng, fun t ht => (h.cd t ht).up c⟩
section
variable {kind : Str} {ls : List Int} {n : Nat} {t : Tm} {p : List Tm}
def PairOk.ld (_ : PairOk kind ls n t p) : Tm := best (tkey kind ls) p t
theorem PairOk.mem (h : PairOk kind ls n t p) : h.ld ∈ t :: p := best_mem _ _ _
theorem PairOk.nz (h : PairOk kind ls n t p) : h.ld.2 ≠ 0 := h.cn.nz _ h.mem
theorem PairOk.rb (h : PairOk kind ls n t p) : ∀ u ∈ t :: p, RB u.2 := h.pb.rb (by decide) (by decide +kernel) (by decide +kernel)
theorem PairOk.num (h : PairOk kind ls n t p) : 1 ≤ h.ld.2.num.natAbs ∧ h.ld.2.num.natAbs ≤ 120 ∧ h.ld.2.den ≤ 6 := by
  obtain ⟨a, b⟩ := (h.pb.cd _ h.mem).le (by decide)
  have := h.nz
  have hn : h.ld.2.num ≠ 0 := fun z => this (Rat.num_eq_zero.mp z)
  omega
theorem PairOk.inv (h : PairOk kind ls n t p) : Cd h.ld.2.num.natAbs 6 h.ld.2⁻¹ := by
  obtain ⟨a, b, c⟩ := h.num
  obtain ⟨g1, g2⟩ := inv_parts h.nz
  have hn : h.ld.2.num ≠ 0 := by omega
  have e := Cd.ofRat h.ld.2⁻¹
  have ed : (h.ld.2⁻¹).den = h.ld.2.num.natAbs := by
    by_cases z : 0 < h.ld.2.num
    · have := (g1 z).2; omega
    · have := (g2 (by omega)).2; omega
  have en : (h.ld.2⁻¹).num.natAbs ≤ 6 := by
    by_cases z : 0 < h.ld.2.num
    · have := (g1 z).1; omega
    · have := (g2 (by omega)).1; omega
  rw [ed] at e
  exact e.mono en
end
theorem over_rng {n : Nat} {m xs : List Int} (hm : m.length = n) (hx : xs.length = n) (h : ∀ i : Nat, i < n → xs.getD i 0 ≤ m.getD i 0 ∧ 0 ≤ xs.getD i 0 ∧ m.getD i 0 ≤ 5) : (overP m xs).length = n ∧ ∀ y ∈ overP m xs, 0 ≤ y ∧ y ≤ ((5 : Nat) : Int) := by
  refine ⟨by unfold overP; rw [List.length_map, List.length_zip]; omega, fun y hy => ?_⟩
  obtain ⟨i, hi⟩ := List.mem_iff_getElem?.mp hy
  unfold overP at hi
  rw [List.getElem?_map] at hi
  obtain ⟨z, hz, rfl⟩ := Option.map_eq_some_iff.mp hi
  obtain ⟨g1, g2⟩ := List.getElem?_zip_eq_some.mp hz
  have hin : i < n := by rw [← hm]; exact (List.getElem?_eq_some_iff.mp g1).1
  have := h i hin
  have e1 : m.getD i 0 = z.1 := by simp [List.getD, g1]
  have e2 : xs.getD i 0 = z.2 := by simp [List.getD, g2]
  rw [e1, e2] at this
  omega
theorem joint_at {n : Nat} {xs ys : List Int} (hx : xs.length = n) (hy : ys.length = n) {i : Nat} (hi : i < n) : (jointP xs ys).getD i 0 = if xs.getD i 0 < ys.getD i 0 then ys.getD i 0 else xs.getD i 0 := by
  unfold jointP
  have g1 : xs[i]? = some (xs.getD i 0) := by rw [List.getElem?_eq_getElem (by omega)]; simp [List.getD, hx, hi]
  have g2 : ys[i]? = some (ys.getD i 0) := by rw [List.getElem?_eq_getElem (by omega)]; simp [List.getD, hy, hi]
  have gz : (xs.zip ys)[i]? = some (xs.getD i 0, ys.getD i 0) := List.getElem?_zip_eq_some.mpr ⟨g1, g2⟩
  generalize xs.getD i 0 = a at *
  generalize ys.getD i 0 = b at *
  simp [List.getD, gz]
theorem joint_len {n : Nat} {xs ys : List Int} (hx : xs.length = n) (hy : ys.length = n) : (jointP xs ys).length = n := by
  unfold jointP; rw [List.length_map, List.length_zip]; omega
theorem lprod_one (p : List Tm) (t : Tm) : lprodL p [t] = byT p t := by
  unfold lprodL byT lbyT
  rw [List.flatMap_def]
  induction p with
  | nil => rfl
  | cons u p ih => rw [List.map_cons, List.flatten_cons, ih]; rfl
end Mn
set_option Elab.async false
set_option linter.all false
set_option maxRecDepth 100000
set_option autoImplicit false
set_option maxHeartbeats 1000000
set_option exponentiation.threshold 10000
namespace Mn
open PySem PySem.Spec Lb
section
variable {kind : Str} {ls : List Int} {n : Nat} {t u : Tm} {p q : List Tm}
def meet (h1 : PairOk kind ls n t p) (h2 : PairOk kind ls n u q) : List Int := jointP h1.ld.1 h2.ld.1
def pX (h1 : PairOk kind ls n t p) (h2 : PairOk kind ls n u q) : List Tm := byT (t :: p) (stepT h1.ld (meet h1 h2))
def pY (h1 : PairOk kind ls n t p) (h2 : PairOk kind ls n u q) : List Tm := byT (u :: q) (stepT h2.ld (meet h1 h2))
def dXY (h1 : PairOk kind ls n t p) (h2 : PairOk kind ls n u q) : Nat := h1.ld.2.num.natAbs * 6 * h2.ld.2.num.natAbs
variable (h1 : PairOk kind ls n t p) (h2 : PairOk kind ls n u q)
theorem ldw (h1 : PairOk kind ls n t p) : h1.ld.1.length = n := h1.pb.wid _ h1.mem
theorem ldr (h1 : PairOk kind ls n t p) {i : Nat} (hi : i < n) : 0 ≤ h1.ld.1.getD i 0 ∧ h1.ld.1.getD i 0 ≤ 5 := by
  have w := ldw h1
  have e : h1.ld.1.getD i 0 = h1.ld.1[i] := by simp [List.getD, w, hi]
  rw [e]
  exact h1.pb.rng _ h1.mem _ (List.getElem_mem (by omega))
theorem step_pb1 : Pb n 5 h1.ld.2.num.natAbs 6 1 [stepT h1.ld (meet h1 h2)] := by
  obtain ⟨a, b⟩ := over_rng (m := meet h1 h2) (xs := h1.ld.1) (joint_len (ldw h1) (ldw h2)) (ldw h1) fun i hi => by
    rw [meet, joint_at (ldw h1) (ldw h2) hi]
    have r1 := ldr h1 hi
    have r2 := ldr h2 hi
    split <;> omega
  refine ⟨Nat.le_refl _, ?_, ?_, ?_⟩
  · intro v hv; rw [List.mem_singleton] at hv; subst hv; exact a
  · intro v hv; rw [List.mem_singleton] at hv; subst hv; exact b
  · intro v hv; rw [List.mem_singleton] at hv; subst hv; exact h1.inv
theorem step_pb2 : Pb n 5 h2.ld.2.num.natAbs 6 1 [stepT h2.ld (meet h1 h2)] := by
  obtain ⟨a, b⟩ := over_rng (m := meet h1 h2) (xs := h2.ld.1) (joint_len (ldw h1) (ldw h2)) (ldw h2) fun i hi => by
    rw [meet, joint_at (ldw h1) (ldw h2) hi]
    have r1 := ldr h1 hi
    have r2 := ldr h2 hi
    split <;> omega
  refine ⟨Nat.le_refl _, ?_, ?_, ?_⟩
  · intro v hv; rw [List.mem_singleton] at hv; subst hv; exact a
  · intro v hv; rw [List.mem_singleton] at hv; subst hv; exact b
  · intro v hv; rw [List.mem_singleton] at hv; subst hv; exact h2.inv
theorem pX_pb : Pb n 10 (dXY h1 h2) 86400 4 (pX h1 h2) := by
  have := ((step_pb1 h1 h2).lby (t := stepT h1.ld (meet h1 h2)) (by simp) h1.pb).up h2.ld.2.num.natAbs
  rw [← byT_lbyT] at this
  obtain ⟨a, b, c⟩ := h2.num
  exact this.mono (Nat.le_refl _) (by omega) (Nat.le_refl _)
theorem pY_pb : Pb n 10 (dXY h1 h2) 86400 4 (pY h1 h2) := by
  have := ((step_pb2 h1 h2).lby (t := stepT h2.ld (meet h1 h2)) (by simp) h2.pb).up h1.ld.2.num.natAbs
  rw [← byT_lbyT, show h2.ld.2.num.natAbs * 6 * h1.ld.2.num.natAbs = dXY h1 h2 by unfold dXY; ac_rfl] at this
  obtain ⟨a, b, c⟩ := h1.num
  exact this.mono (Nat.le_refl _) (by omega) (Nat.le_refl _)
theorem dXY_b : 0 < dXY h1 h2 ∧ dXY h1 h2 ≤ 120 * 6 * 120 := by
  obtain ⟨a, b, _⟩ := h1.num
  obtain ⟨c, d, _⟩ := h2.num
  exact ⟨Nat.mul_pos (Nat.mul_pos a (by decide)) c, Nat.mul_le_mul (Nat.mul_le_mul_right _ b) d⟩
theorem dXY_4 : dXY h1 h2 < 2 ^ 4000 := Nat.lt_of_le_of_lt (dXY_b h1 h2).2 (by decide +kernel)
def pairP : List Tm := gath (pX h1 h2 ++ negP (pY h1 h2))
theorem pairP_pb : Pb n 10 (dXY h1 h2) (8 * 86400) 8 (pairP h1 h2) := ((pX_pb h1 h2).append (pY_pb h1 h2).neg).gath
theorem pairS (F : Nat → List Sl → FR) (W cl cj cs cb ct : Nat) (hl : LeadS (F cl)) (hj : Pure2 (F cj) fun xs ys => tupI (jointP xs ys)) (hs : LessS (F cs)) (hb : ByS (F cb)) (ht : StepS (F ct)) :
    runFn F W (f_pair_of cl cj cs cb ct) [.val (ordD kind ls), .val (polyD (t :: p)), .val (polyD (u :: q))] = .ok (polyD (pairP h1 h2)) [] := by
  rw [runFn_at rfl rfl]
  have e1 : F cl [.val (ordD kind ls), .val (polyD (t :: p))] = .ok (termD h1.ld) [] := hl kind ls n t p h1.pb.wid h1.lo
  have e2 : F cl [.val (ordD kind ls), .val (polyD (u :: q))] = .ok (termD h2.ld) [] := hl kind ls n u q h2.pb.wid h2.lo
  have e3 : F cj [.val (tupI h1.ld.1), .val (tupI h2.ld.1)] = .ok (tupI (meet h1 h2)) [] := hj _ _
  have e4 := ht h1.ld (meet h1 h2) h1.nz (h1.rb _ h1.mem)
  have e5 := ht h2.ld (meet h1 h2) h2.nz (h2.rb _ h2.mem)
  have r1 := (step_pb1 h1 h2).rb (by have := h1.num; omega) (Nat.lt_of_le_of_lt h1.num.2.1 (by decide +kernel)) (by decide +kernel) _ (by simp : stepT h1.ld (meet h1 h2) ∈ [stepT h1.ld (meet h1 h2)])
  have r2 := (step_pb2 h1 h2).rb (by have := h2.num; omega) (Nat.lt_of_le_of_lt h2.num.2.1 (by decide +kernel)) (by decide +kernel) _ (by simp : stepT h2.ld (meet h1 h2) ∈ [stepT h2.ld (meet h1 h2)])
  have e6 : F cb [.val (polyD (t :: p)), .val (termD (stepT h1.ld (meet h1 h2)))] = .ok (polyD (pX h1 h2)) [] := hb _ _ h1.rb r1
  have e7 : F cb [.val (polyD (u :: q)), .val (termD (stepT h2.ld (meet h1 h2)))] = .ok (polyD (pY h1 h2)) [] := hb _ _ h2.rb r2
  have e8 : F cs [.val (polyD (pX h1 h2)), .val (polyD (pY h1 h2))] = .ok (polyD (pairP h1 h2)) [] := hs _ _ ((pY_pb h1 h2).rb (dXY_b h1 h2).1 (dXY_4 h1 h2) (by decide +kernel)) (((pX_pb h1 h2).append (pY_pb h1 h2).neg).ts h1.n1 (dXY_b h1 h2).1 (dXY_4 h1 h2) (by decide) (by decide +kernel))
  generalize pairP h1 h2 = P at *
  generalize pX h1 h2 = X at *
  generalize pY h1 h2 = Y at *
  generalize meet h1 h2 = M at *
  simp -implicitDefEqProofs [f_pair_of, e1, e2, e3, e4, e5, e6, e7, e8, outsOf]
/-! the law's own -/
theorem scl_neg (b : List Tm) : sclP b (-1) = negP b := by
  unfold sclP negP
  apply List.map_congr_left
  intro t _
  show (t.1, t.2 * -1) = (t.1, -t.2)
  rw [Rat.mul_neg, Rat.mul_one]
theorem pair_eq (X Y : List Tm) : gath (gath X ++ negP (gath Y)) = gath (X ++ negP Y) := gath_eq fun k => by
  show Lf _ _ = Lf _ _
  rw [Lf_append, Lf_append, Lf_gath, Lf_neg, Lf_neg, Lf_gath]
def Lead2S (G : List Sl → FR) : Prop := ∀ (kind : Str) (ls : List Int) (n : Nat) (t : Tm) (p : List Tm), (∀ u ∈ t :: p, u.1.length = n) → (∀ l ∈ ls, 0 ≤ l ∧ l < (n : Int)) → ls.length ≤ 1000 → G [.val (ordD kind ls), .val (polyD (t :: p))] = .ok (termD (best (tkey kind ls) p t)) []
theorem ljointS (F : Nat → List Sl → FR) (W cl : Nat) (hl : Lead2S (F cl)) : runFn F W (f_l_joint cl) [.val (ordD kind ls), .val (polyD (t :: p)), .val (polyD (u :: q))] = .ok (tupI (meet h1 h2)) [] := by
  rw [runFn_at rfl rfl]
  have e1 : F cl [.val (ordD kind ls), .val (polyD (t :: p))] = .ok (termD h1.ld) [] := hl kind ls n t p h1.pb.wid h1.lo h1.ll
  have e2 : F cl [.val (ordD kind ls), .val (polyD (u :: q))] = .ok (termD h2.ld) [] := hl kind ls n u q h2.pb.wid h2.lo h2.ll
  generalize polyD (t :: p) = A at *
  generalize polyD (u :: q) = B at *
  have ez : ∀ μ, zip2D (tupI h1.ld.1) (tupI h2.ld.1) μ = .ok ((h1.ld.1.zip h2.ld.1).map fun p => pairD (.int p.1) (.int p.2)) μ := fun μ => by
    unfold tupI; rw [zip2_tup, zip_ints]
  have ec : compL (turnR [5, 6] true (ev F (.b2 .max (.var 5) (.var 6))) none) ((h1.ld.1.zip h2.ld.1).map fun p => pairD (.int p.1) (.int p.2)) [] [.val (ordD kind ls), .val A, .val B, .val (tupI h1.ld.1), .val (tupI h2.ld.1), .no, .no] = .ok ((meet h1 h2).map .int) [.val (ordD kind ls), .val A, .val B, .val (tupI h1.ld.1), .val (tupI h2.ld.1), .no, .no] := by
    have := compL_on (f := turnR [5, 6] true (ev F (.b2 .max (.var 5) (.var 6))) none) (μ := [.val (ordD kind ls), .val A, .val B, .val (tupI h1.ld.1), .val (tupI h2.ld.1), .no, .no]) (fun p : Int × Int => pairD (.int p.1) (.int p.2)) (fun p => PyData.int (if p.1 < p.2 then p.2 else p.1)) (h1.ld.1.zip h2.ld.1) [] fun p hp => by
      simp -implicitDefEqProofs [b2D]
    rw [this]; unfold meet jointP; rw [List.map_map]; rfl
  have et : tupD (.list ((meet h1 h2).map .int)) = some (tupI (meet h1 h2)) := rfl
  generalize meet h1 h2 = M at *
  simp -implicitDefEqProofs [f_l_joint, e1, e2, ez, ec, et, -tupD_list, outsOf]
def BroughtS (G : List Sl → FR) : Prop := ∀ {kind : Str} {ls : List Int} {n : Nat} {t : Tm} {p : List Tm} (h : PairOk kind ls n t p) (m : List Int) (d N : Nat), Pb n 5 h.ld.2.num.natAbs 6 1 [stepT h.ld m] → G [.val (ordD kind ls), .val (polyD (t :: p)), .val (tupI m)] = .ok (polyD (gath (byT (t :: p) (stepT h.ld m)))) []
theorem broughtS (F : Nat → List Sl → FR) (W cl ct ci : Nat) (hl : Lead2S (F cl)) (ht : Times2S (F ct)) (hi : InvS (F ci)) : BroughtS (runFn F W (f_l_brought cl ct ci)) := by
  intro kind ls n t p h m d N hst
  rw [runFn_at rfl rfl]
  have e1 : F cl [.val (ordD kind ls), .val (polyD (t :: p))] = .ok (termD h.ld) [] := hl kind ls n t p h.pb.wid h.lo h.ll
  have e2 := hi h.ld.2 h.nz
  have rs : RB (stepT h.ld m).2 := hst.rb (by have := h.num; omega) (Nat.lt_of_le_of_lt h.num.2.1 (by decide +kernel)) (by decide +kernel) _ (by simp)
  have pbX : Pb n 10 (h.ld.2.num.natAbs * 6) (6 * 120) 4 (byT (t :: p) (stepT h.ld m)) := by
    have := hst.lby (t := stepT h.ld m) (by simp) h.pb
    rwa [← byT_lbyT] at this
  have e3 := ht (t :: p) [stepT h.ld m] h.rb (fun v hv => by rw [List.mem_singleton] at hv; subst hv; exact rs) (by
    rw [lprod_one]
    have := h.num
    exact pbX.ts h.n1 (by omega) (Nat.lt_of_le_of_lt (show h.ld.2.num.natAbs * 6 ≤ 720 by omega) (by decide +kernel)) (by decide) (by decide +kernel))
  rw [lprod_one] at e3
  have pd : polyD [stepT h.ld m] = .tuple [.tuple [tupI (overP m h.ld.1), ratD h.ld.2⁻¹]] := rfl
  rw [pd] at e3
  generalize gath (byT (t :: p) (stepT h.ld m)) = P at *
  generalize h.ld.2⁻¹ = v at *
  generalize polyD (t :: p) = A at *
  have ez : ∀ μ, zip2D (tupI m) (tupI h.ld.1) μ = .ok ((m.zip h.ld.1).map fun p => pairD (.int p.1) (.int p.2)) μ := fun μ => by
    unfold tupI; rw [zip2_tup, zip_ints]
  have ec : compL (turnR [5, 6] true (ev F (.bin .sub (.var 5) (.var 6))) none) ((m.zip h.ld.1).map fun p => pairD (.int p.1) (.int p.2)) [] [.val (ordD kind ls), .val A, .val (tupI m), .val (termD h.ld), .no, .no, .no] = .ok ((overP m h.ld.1).map .int) [.val (ordD kind ls), .val A, .val (tupI m), .val (termD h.ld), .no, .no, .no] := by
    have := compL_on (f := turnR [5, 6] true (ev F (.bin .sub (.var 5) (.var 6))) none) (μ := [.val (ordD kind ls), .val A, .val (tupI m), .val (termD h.ld), .no, .no, .no]) (fun p : Int × Int => pairD (.int p.1) (.int p.2)) (fun p => PyData.int (p.1 - p.2)) (m.zip h.ld.1) [] fun p hp => by
      simp -implicitDefEqProofs
    rw [this]; unfold overP; rw [List.map_map]; rfl
  have et : tupD (.list ((overP m h.ld.1).map .int)) = some (tupI (overP m h.ld.1)) := rfl
  generalize overP m h.ld.1 = M at *
  simp -implicitDefEqProofs [f_l_brought, e1, ez, ec, et, -tupD_list, e2, e3, outsOf]
theorem lpairS (F : Nat → List Sl → FR) (W cj cm cb : Nat) (hj : F cj [.val (ordD kind ls), .val (polyD (t :: p)), .val (polyD (u :: q))] = .ok (tupI (meet h1 h2)) []) (hm : MoreS (F cm)) (hb : BroughtS (F cb)) :
    runFn F W (f_l_pair cj cm cb) [.val (ordD kind ls), .val (polyD (t :: p)), .val (polyD (u :: q))] = .ok (polyD (pairP h1 h2)) [] := by
  rw [runFn_at rfl rfl]
  have e1 : F cb [.val (ordD kind ls), .val (polyD (t :: p)), .val (tupI (meet h1 h2))] = .ok (polyD (gath (pX h1 h2))) [] := hb h1 _ 0 0 (step_pb1 h1 h2)
  have e2 : F cb [.val (ordD kind ls), .val (polyD (u :: q)), .val (tupI (meet h1 h2))] = .ok (polyD (gath (pY h1 h2))) [] := hb h2 _ 0 0 (step_pb2 h1 h2)
  have gx := (pX_pb h1 h2).gath
  have gy := (pY_pb h1 h2).gath
  have e3 := hm (gath (pX h1 h2)) (gath (pY h1 h2)) (-1) (gy.rb (dXY_b h1 h2).1 (dXY_4 h1 h2) (by decide +kernel)) RB.one.neg (by have := gx.len; have := gy.len; omega) (by
    rw [scl_neg]
    exact (gx.append gy.neg).ts h1.n1 (dXY_b h1 h2).1 (dXY_4 h1 h2) (by decide) (by decide +kernel))
  rw [scl_neg, pair_eq] at e3
  have e3 : F cm [.val (polyD (gath (pX h1 h2))), .val (polyD (gath (pY h1 h2))), .val (ratD (-1))] = .ok (polyD (pairP h1 h2)) [] := e3
  generalize pairP h1 h2 = P at *
  generalize gath (pX h1 h2) = X at *
  generalize gath (pY h1 h2) = Y at *
  generalize meet h1 h2 = M at *
  have m1 : PyData.tuple [.int (-1), .int 1] = ratD (-1) := rfl
  simp -implicitDefEqProofs [f_l_pair, hj, e1, e2, m1, e3, outsOf]
end
end Mn
set_option Elab.async false
set_option linter.all false
set_option maxRecDepth 100000
set_option autoImplicit false
set_option maxHeartbeats 1000000
set_option exponentiation.threshold 10000
namespace Mn
open PySem PySem.Spec Lb
theorem any_ints (i : Int) : ∀ xs : List Int, ((xs.map PyData.int).any fun y => PyData.eqv y (.int i)) = decide (i ∈ xs)
  | [] => rfl
  | x :: xs => by
    rw [List.map_cons, List.any_cons, any_ints i xs]
    have e : PyData.eqv (.int x) (.int i) = decide (x = i) := by
      have := eqD_int x i
      unfold eqD at this
      rw [if_pos (by rfl)] at this
      exact Option.some.inj this
    rw [e]
    by_cases z : x = i
    · subst z; simp
    · have z' : ¬ i = x := fun q => z q.symm
      simp [z, z']
theorem inD_ints (i : Int) (xs : List Int) : inD (.int i) (.list (xs.map .int)) = some (decide (i ∈ xs)) := by
  show (if (PyData.int i).plain && PyData.plainAll (xs.map .int) && decide ((PyData.int i).depth ≤ 60) then some ((xs.map PyData.int).any fun y => PyData.eqv y (.int i)) else none) = _
  rw [if_pos (by rw [plainInts]; rfl), any_ints]
def leftL (n : Nat) (found : List Int) : List Nat := (List.range n).filter fun i => !decide ((i : Int) ∈ found)
theorem left_less {n : Nat} {found : List Int} {v : Nat} (h : v ∈ leftL n found) : (leftL n (found ++ [(v : Int)])).length + 1 = (leftL n found).length := by
  have nd : (leftL n found).Nodup := List.nodup_range.filter _
  have e : leftL n (found ++ [(v : Int)]) = (leftL n found).erase v := by
    rw [nd.erase_eq_filter]
    unfold leftL
    rw [List.filter_filter]
    apply List.filter_congr
    intro i _
    by_cases q : i = v
    · subst q; simp
    · have : ¬ ((i : Int) = (v : Int)) := by omega
      simp [q, this]
  rw [e, List.length_erase_of_mem h]
  have : 0 < (leftL n found).length := List.length_pos_of_mem h
  omega
def OrderS2 (G : List Sl → FR) : Prop := ∀ (m : Nat) (T : D) (n : Nat), TB2 m T → m ≤ 100000000000 → 1 ≤ n → n ≤ 4 → ∃ kind ls T', G [.own T, .val (.int n)] = .ok (ordD kind ls) [T'] ∧ (kind = "plain" ∨ kind = "total") ∧ OrdOk n ls ∧ ls.length = n ∧ TB2 (m + 8) T'
theorem orderS2 (F : Nat → List Sl → FR) (W c : Nat) (hd : DrawS2 (F c)) : OrderS2 (runFn F W (f_l_order_2 c)) := by
  intro m T n h hm h0 h1
  suffices hw : ∀ Q : D → List D → Prop, (∀ (kind : Str) ls T', (kind = "plain" ∨ kind = "total") ∧ OrdOk n ls ∧ ls.length = n ∧ TB2 (m + 8) T' → Q (ordD kind ls) [T']) → (runFn F W (f_l_order_2 c) [.own T, .val (.int n)]).wp Q by
    obtain ⟨d, o, e, kind, ls, T', rfl, rfl, r⟩ := FR.wp_elim (hw (fun d o => ∃ (kind : Str) (ls : List Int) (T' : D), d = ordD kind ls ∧ o = [T'] ∧ (kind = "plain" ∨ kind = "total") ∧ OrdOk n ls ∧ ls.length = n ∧ TB2 (m + 8) T') fun kind ls T' r => ⟨kind, ls, T', rfl, rfl, r⟩)
    exact ⟨kind, ls, T', e, r⟩
  intro Q hQ
  have n0 : (0 : Int) ≤ n := by omega
  have n1 : (n : Int) ≤ 1000 := by omega
  have r0 : ∀ μ, rng1D (.int (n : Int)) μ = .ok ((List.range n).map fun (j : Nat) => PyData.int (j : Int)) μ := fun μ => by
    rw [rng1_ok n0 n1, Int.toNat_natCast, rangeD_map]
  refine wp_run rfl rfl ?_
  simp -implicitDefEqProofs [f_l_order_2, r0]
  refine wp_forL (fun i μ => ∃ (T' : D) (found : List Int) (s3 s4 : Sl), μ = [.own T', .val (.int n), .own (.list (found.map PyData.int)), s3, s4, .no] ∧ FrS s3 ∧ FrS s4 ∧ TB2 (m + i) T' ∧ found.length = i ∧ (∀ l ∈ found, 0 ≤ l ∧ l < (n : Int)) ∧ (leftL n found).length + i = n) _ _ ?_ ?_ ?_
  · refine ⟨T, [], .no, .no, rfl, rfl, rfl, by simpa using h, rfl, by simp, ?_⟩
    have e : leftL n [] = List.range n := by
      unfold leftL
      exact List.filter_eq_self.mpr fun i _ => by simp
    rw [e]; simp
  · rintro i d μ Q' hd' ⟨T1, found, s3, s4, rfl, f3, f4, t1, hf, lo, cnt⟩ hk
    rw [List.getElem?_map] at hd'
    obtain ⟨i', hi', rfl⟩ := Option.map_eq_some_iff.mp hd'
    have hin : i < n := by
      have := (List.getElem?_eq_some_iff.mp hi').1
      simpa using this
    have e : ∀ s3 s4, compL (turnR [5] false (ev F (.var 5)) (some (testB F (.cmp .notin (.e (.var 5)) (.pk 2))))) ((List.range n).map fun (j : Nat) => PyData.int (j : Int)) [] [.own T1, .val (.int n), .own (.list (found.map PyData.int)), s3, s4, .no] = .ok ((leftL n found).map fun (j : Nat) => PyData.int (j : Int)) [.own T1, .val (.int n), .own (.list (found.map PyData.int)), s3, s4, .no] := fun s3 s4 => by
      refine (compL_filter (fun (j : Nat) => PyData.int (j : Int)) (fun (j : Nat) => PyData.int (j : Int)) (fun i => !decide ((i : Int) ∈ found)) (List.range n) [] fun j hj => ?_).trans rfl
      have ei := inD_ints (j : Int) found
      by_cases z : (j : Int) ∈ found
      · rw [decide_eq_true z] at ei ⊢
        generalize found.map PyData.int = L at *
        simp -implicitDefEqProofs [ei]
      · rw [decide_eq_false z] at ei ⊢
        generalize found.map PyData.int = L at *
        simp -implicitDefEqProofs [ei]
    have lp : 0 < (leftL n found).length := by omega
    obtain ⟨r, T2, e2, a1, a2, t2⟩ := hd _ T1 ((leftL n found).length : Int) t1 (by omega) (by omega) (by omega)
    have hr : r.toNat < (leftL n found).length := by omega
    obtain ⟨v, hv⟩ : ∃ v, (leftL n found)[r.toNat]? = some v := ⟨_, List.getElem?_eq_getElem hr⟩
    have vm : v ∈ leftL n found := List.mem_of_getElem? hv
    have vn : v < n := List.mem_range.mp (List.mem_filter.mp vm).1
    have ix : L2.atI ((leftL n found).map fun (j : Nat) => PyData.int (j : Int)) r = some (.int (v : Int)) := atI_nat a1 (by rw [List.getElem?_map, hv]; rfl)
    have ls := left_less vm
    have hsz : (found.map PyData.int).length ≤ 1000000 := by rw [List.length_map]; omega
    have ll : lenD (.list ((leftL n found).map fun (j : Nat) => PyData.int (j : Int))) = some (.int ((leftL n found).length : Int)) := by
      show some (PyData.int (((leftL n found).map fun (j : Nat) => PyData.int (j : Int)).length : Int)) = _
      rw [List.length_map]
    have hk := hk [.own T2, .val (.int n), .own (.list ((found ++ [(v : Int)]).map PyData.int)), .val (.int i'), .val (.list ((leftL n found).map fun (j : Nat) => PyData.int (j : Int))), .no] ⟨T2, found ++ [(v : Int)], _, _, rfl, rfl, rfl, t2, by simp [hf], fun l hl => by
      rcases List.mem_append.mp hl with hl | hl
      · exact lo l hl
      · rw [List.mem_singleton] at hl; omega, by omega⟩
    rw [List.map_append, List.map_cons, List.map_nil] at hk
    generalize (leftL n found).map (fun (j : Nat) => PyData.int (j : Int)) = L1 at *
    generalize found.map PyData.int = L2 at *
    simp -implicitDefEqProofs [isLck_f f3, isLck_f f4, r0, e, ll, -lenD_list, e2, ix, appO_ok hsz]
    exact hk
  · rintro μ' ⟨T', found, s3, s4, rfl, f3, f4, t, hf, lo, cnt⟩
    rw [List.length_map, List.length_range] at t hf cnt
    have l0 : leftL n found = [] := List.length_eq_zero_iff.mp (by omega)
    obtain ⟨r, T2, e2, a1, a2, t2⟩ := hd _ T' 2 t (by omega) (by decide) (by decide)
    obtain ⟨d, hk, kind, rfl, hkind⟩ := atI_pick (P := fun d => ∃ kind : Str, d = .str kind ∧ (kind = "plain" ∨ kind = "total")) (l := [PyData.str "plain", .str "total"]) a1 a2 (by simp)
    simp -implicitDefEqProofs [e2, hk, outsOf]
    refine hQ kind found T2 ⟨hkind, ⟨lo, fun i hi => ?_⟩, hf, t2.mono (by omega)⟩
    have := List.filter_eq_nil_iff.mp l0 i (List.mem_range.mpr hi)
    simpa using this
/-! polynomials by draws -/
def PolyS2 (G : List Sl → FR) : Prop := ∀ (m : Nat) (T : D) (n : Nat), TB2 m T → m ≤ 10000000000 → 1 ≤ n → n ≤ 4 → ∃ t p T', G [.own T, .val (.int n)] = .ok (polyD (t :: p)) [T'] ∧ Cn2 (t :: p) ∧ Pb n 5 6 120 4 (t :: p) ∧ TB2 (m + 30) T'
theorem cd6 {a : Int} {b : Nat} (hb : 1 ≤ b) (hb3 : b ≤ 3) (ha : a.natAbs ≤ 5) : Cd 6 30 (Rat.divInt a b) := by
  have h := cd_own (a := a) hb
  have dv : ∃ c, b * c = 6 ∧ c ≤ 6 := by
    have : b = 1 ∨ b = 2 ∨ b = 3 := by omega
    rcases this with rfl | rfl | rfl
    · exact ⟨6, rfl, by decide⟩
    · exact ⟨3, rfl, by decide⟩
    · exact ⟨2, rfl, by decide⟩
  obtain ⟨c, hc, hc6⟩ := dv
  have := h.up c
  rw [hc] at this
  refine this.mono ?_
  calc a.natAbs * c ≤ 5 * 6 := Nat.mul_le_mul ha hc6
    _ = 30 := rfl
theorem polyS2 (F : Nat → List Sl → FR) (W c c2 c3 : Nat) (hd : DrawS2 (F c)) (hf : FracS (F c2)) (hg : GathS (F c3)) : PolyS2 (runFn F W (f_l_poly_2 c c2 c3)) := by
  intro m T n t hm n1 n4
  suffices hw : ∀ Q : D → List D → Prop, (∀ u p T', Cn2 (u :: p) ∧ Pb n 5 6 120 4 (u :: p) ∧ TB2 (m + 30) T' → Q (polyD (u :: p)) [T']) → (runFn F W (f_l_poly_2 c c2 c3) [.own T, .val (.int n)]).wp Q by
    obtain ⟨d, o, e, u, p, T', rfl, rfl, r⟩ := FR.wp_elim (hw (fun d o => ∃ u p T', d = polyD (u :: p) ∧ o = [T'] ∧ Cn2 (u :: p) ∧ Pb n 5 6 120 4 (u :: p) ∧ TB2 (m + 30) T') fun u p T' r => ⟨u, p, T', rfl, rfl, r⟩)
    exact ⟨u, p, T', e, r⟩
  intro Q hQ
  have n0 : (0 : Int) ≤ n := by omega
  have n9 : (n : Int) ≤ 1000 := by omega
  refine wp_run rfl rfl ?_
  simp -implicitDefEqProofs [f_l_poly_2, rng1_ok n0 n9]
  refine wp_compL (fun j acc μ => ∃ (T : D) (ps : List Int), μ = [.own T, .val (.int n), .no, .no, .no, .no, .no] ∧ TB2 (m + j) T ∧ acc = ps.map PyData.int ∧ ps.length = j ∧ ∀ y ∈ ps, 0 ≤ y ∧ y ≤ ((5 : Nat) : Int)) _ _ ⟨T, [], rfl, t, rfl, rfl, by simp⟩ ?_ ?_
  · rintro j d acc μ Q2 hd2 ⟨T, ps, rfl, t, rfl, hl, hp⟩ hk2
    obtain ⟨hj, rfl⟩ := rangeD_get hd2
    obtain ⟨r5, T5, e5, a5, b5, t5⟩ := hd _ T 3 t (by omega) (by decide) (by decide)
    simp -implicitDefEqProofs [e5]
    refine hk2 _ _ ⟨T5, ps ++ [r5], rfl, t5, by simp, by simp [hl], ?_⟩
    intro y hy
    rcases List.mem_append.mp hy with hy | hy
    · exact hp y hy
    · rw [List.mem_singleton] at hy; subst hy; omega
  rintro acc μ ⟨T, ps, rfl, t, rfl, hl, hp⟩
  rw [rangeD_len] at t hl
  obtain ⟨r1, T1, e1, a1, b1, t1⟩ := hd _ T 5 t (by omega) (by decide) (by decide)
  obtain ⟨r2, T2, e2, a2, b2, t2⟩ := hd _ T1 4 t1 (by omega) (by decide) (by decide)
  obtain ⟨q1, mc, cc⟩ : ∃ q1 : Rat, PyData.tuple [.int (1 + r1), .int 1] = ratD q1 ∧ Cd 6 30 q1 := ⟨((1 + r1 : Int) : Rat), rfl, (show Cd 1 5 ((1 + r1 : Int) : Rat) from ⟨1 + r1, Rat.mul_one _, by omega⟩).up 6⟩
  have tk : PyData.tuple (ps.map .int) = tupI ps := rfl
  have tq : PyData.tuple [tupI ps, ratD q1] = termD (ps, q1) := rfl
  simp -implicitDefEqProofs [tk, e1, mc, tq, e2, rng1_ok a2 (show r2 ≤ 1000 by omega)]
  refine wp_forL (fun j μ => ∃ (T : D) (ts : List Tm) (s3 s5 : Sl), μ = [.own T, .val (.int n), .own (.list (ts.map termD)), s3, .no, s5, .no] ∧ FrS s3 ∧ FrS s5 ∧ TB2 (m + n + 2 + (n + 2) * j) T ∧ ts.length = j + 1 ∧ Pb n 5 6 30 4 ts) _ _ ⟨T2, [(ps, q1)], .no, .no, rfl, rfl, rfl, t2.mono (by omega), rfl, ⟨by simp, fun v hv => by rw [List.mem_singleton] at hv; subst hv; exact hl, fun v hv => by rw [List.mem_singleton] at hv; subst hv; exact hp, fun v hv => by rw [List.mem_singleton] at hv; subst hv; exact cc⟩⟩ ?_ ?_
  · rintro j d μ Q2 hd2 ⟨T, ts, s3, s5, rfl, f3, f5, t, hlen, pb⟩ hk2
    obtain ⟨hj, rfl⟩ := rangeD_get hd2
    have hj3 : j < 3 := by omega
    have nj : (n + 2) * j ≤ 12 := Nat.le_trans (Nat.mul_le_mul (show n + 2 ≤ 6 by omega) (show j ≤ 2 by omega)) (by decide)
    simp -implicitDefEqProofs [isLck_f f3, rng1_ok n0 n9]
    refine wp_compL (fun l acc μ => ∃ (T : D) (ps : List Int), μ = [.own T, .val (.int n), .own (.list (ts.map termD)), .val (.int j), .no, s5, .no] ∧ TB2 (m + n + 2 + (n + 2) * j + l) T ∧ acc = ps.map PyData.int ∧ ps.length = l ∧ ∀ y ∈ ps, 0 ≤ y ∧ y ≤ ((5 : Nat) : Int)) _ _ ⟨T, [], rfl, t, rfl, rfl, by simp⟩ ?_ ?_
    · rintro l d acc μ Q3 hd3 ⟨T, ps, rfl, t, rfl, hl, hp⟩ hk3
      obtain ⟨hl', rfl⟩ := rangeD_get hd3
      obtain ⟨r5, T5, e5, a5, b5, t5⟩ := hd _ T 5 t (by omega) (by decide) (by decide)
      obtain ⟨d, hv, v, rfl, v0⟩ := atI_pick (P := fun d => ∃ v : Int, d = .int v ∧ 0 ≤ v ∧ v ≤ ((5 : Nat) : Int)) (l := [PyData.int 0, .int 1, .int 2, .int 0, .int 5]) a5 b5 (by simp)
      simp -implicitDefEqProofs [e5, hv]
      refine hk3 _ _ ⟨T5, ps ++ [v], rfl, t5, by simp, by simp [hl], ?_⟩
      intro y hy
      rcases List.mem_append.mp hy with hy | hy
      · exact hp y hy
      · rw [List.mem_singleton] at hy; subst hy; exact v0
    rintro acc μ ⟨T, ps, rfl, t, rfl, hl, hp⟩
    rw [rangeD_len] at t hl
    obtain ⟨r7, T7, e7, a7, b7, t7⟩ := hd _ T 7 t (by omega) (by decide) (by decide)
    obtain ⟨r8, T8, e8, a8, b8, t8⟩ := hd _ T7 3 t7 (by omega) (by decide) (by decide)
    have fr := hf (r7 - 3) (1 + r8) (by omega) (pow_up (a := 3) (show (r7 - 3).natAbs < 8 by omega) (by decide)) (pow_up (a := 3) (show (1 + r8).natAbs < 8 by omega) (by decide))
    have cd := cd6 (a := r7 - 3) (b := (1 + r8).toNat) (by omega) (by omega) (by omega)
    rw [show (((1 + r8).toNat : Nat) : Int) = 1 + r8 by omega] at cd
    have tk : PyData.tuple (ps.map .int) = tupI ps := rfl
    have hsz : (ts.map termD).length ≤ 1000000 := by rw [List.length_map]; omega
    have nn : m + n + 2 + (n + 2) * (j + 1) = m + n + 2 + (n + 2) * j + n + 1 + 1 := by rw [Nat.mul_succ]; omega
    have hk2 := hk2 [.own T8, .val (.int n), .own (.list ((ts ++ [(ps, Rat.divInt (r7 - 3) (1 + r8))]).map termD)), .val (.int j), .no, .val (tupI ps), .no] ⟨T8, _, _, _, rfl, rfl, rfl, by rw [nn]; exact t8, by simp [hlen], by
      have pb1 : Pb n 5 6 30 1 [(ps, Rat.divInt (r7 - 3) (1 + r8))] := ⟨Nat.le_refl _, fun v hv => by rw [List.mem_singleton] at hv; subst hv; exact hl, fun v hv => by rw [List.mem_singleton] at hv; subst hv; exact hp, fun v hv => by rw [List.mem_singleton] at hv; subst hv; exact cd⟩
      have ap := pb.append pb1
      exact ⟨by simp [hlen]; omega, ap.wid, ap.rng, ap.cd⟩⟩
    rw [List.map_append, List.map_cons, List.map_nil, show termD (ps, Rat.divInt (r7 - 3) (1 + r8)) = .tuple [tupI ps, ratD (Rat.divInt (r7 - 3) (1 + r8))] from rfl] at hk2
    generalize Rat.divInt (r7 - 3) (1 + r8) = V at *
    generalize ts.map termD = L1 at *
    simp -implicitDefEqProofs [isLck_f f5, tk, e7, e8, fr, appO_ok hsz]
    exact hk2
  · rintro μ ⟨T, ts, s3, s5, rfl, f3, f5, t, hlen, pb⟩
    rw [rangeD_len] at t hlen
    have nj : (n + 2) * r2.toNat ≤ 18 := Nat.le_trans (Nat.mul_le_mul (show n + 2 ≤ 6 by omega) (show r2.toNat ≤ 3 by omega)) (by decide)
    have g := hg (.list (ts.map termD)) ts rfl (pb.ts n1 (by decide) (by decide +kernel) (by decide) (by decide +kernel))
    have cn := cn_gath ts
    have pg := pb.gath
    have m0 := mulD_nought (n := (n : Int)) n0 n9 0
    rw [Int.toNat_natCast] at m0
    generalize gath ts = R at *
    generalize ts.map termD = L1 at *
    have en := eqD_nilP R
    cases R with
    | nil =>
      have en : eqD (polyD []) (.tuple []) = some true := en
      have q3 : PyData.tuple [.int 2, .int 3] = ratD (2 / 3) := by unfold ratD; rw [show (2 / 3 : Rat).num = 2 by decide +kernel, show (2 / 3 : Rat).den = 3 by decide +kernel]; rfl
      have tq : PyData.tuple [.tuple [tupI (List.replicate n 0), ratD (2 / 3)]] = polyD [(List.replicate n 0, 2 / 3)] := rfl
      simp -implicitDefEqProofs [g, en, m0, q3, tq, outsOf]
      refine hQ _ _ T ⟨cn_one (by show (2 / 3 : Rat) ≠ 0; decide +kernel), ⟨by simp, fun v hv => by rw [List.mem_singleton] at hv; subst hv; simp, fun v hv y hy => by
        rw [List.mem_singleton] at hv; subst hv
        have := List.eq_of_mem_replicate hy; omega, fun v hv => by
        rw [List.mem_singleton] at hv; subst hv
        exact (show Cd 6 120 (2 / 3 : Rat) from ⟨4, by decide +kernel, by decide⟩)⟩, t.mono (by omega)⟩
    | cons u R =>
      have en : eqD (polyD (u :: R)) (.tuple []) = some false := en
      simp -implicitDefEqProofs [g, en, outsOf]
      exact hQ _ _ T ⟨cn, pg, t.mono (by omega)⟩
end Mn
set_option Elab.async false
set_option linter.all false
set_option maxRecDepth 100000
set_option autoImplicit false
set_option maxHeartbeats 1000000
set_option exponentiation.threshold 10000
namespace Mn
open PySem PySem.Spec Lb
open scoped Rat
/-! ## what is raised -/
@[simp] theorem bind_ex' {α β : Type} (x : Xc) (μ : Mu) (k : α → Mu → Rs β) : (Rs.ex x μ).bind k = .ex x μ := rfl
@[simp] theorem bitOf_ex (x : Xc) (μ : Mu) : bitOf (.ex x μ) = .ex x μ := rfl
@[simp] theorem pureR_ex (x : Xc) (μ : Mu) : pureR (.ex x []) μ = .ex x μ := rfl
@[simp] theorem catchR_ok (h : Hd) (fl : Fl) (μ : Mu) : catchR h (.ok fl μ) = .ok fl μ := rfl
def catchO (h : Hd) (o : Option (Option Bool)) (x : Xc) (μ : Mu) : Rs Fl := match o with
  | some (some t) => hdR h t μ
  | _ => .ex x μ
@[simp] theorem catchR_ex (h : Hd) (x : Xc) (μ : Mu) : catchR h (.ex x μ) = catchO h h.tab[x.cls]? x μ := rfl
@[simp] theorem catchO_some (h : Hd) (t : Bool) (x : Xc) (μ : Mu) : catchO h (some (some t)) x μ = hdR h t μ := rfl
theorem endR_ex {io : List Nat} {x : Xc} {μ : Mu} {o : List D} (h : outsOf io μ = some o) : endR io (.ex x μ) = .ex x o := by
  show (match outsOf io μ with | some outs => FR.ex x outs | none => FR.st) = _
  rw [h]
@[simp] theorem endR_ex0 (x : Xc) (μ : Mu) : endR [] (.ex x μ) = .ex x [] := rfl
/-- ratio, raising -/
structure RatioX (c : Nat) (G : List Sl → FR) : Prop where
  ok : RatioS G
  no : ∀ a : Int, G [.val (.int a), .val (.int 0)] = .ex ⟨c, []⟩ []
theorem ratioX (F : Nat → List Sl → FR) (W c : Nat) (hg : GcdS (F c)) : RatioX 1 (runFn F W (f_ratio_2 c)) := by
  constructor
  · intro a b hb ha hb2
    rw [runFn_at rfl rfl]
    obtain ⟨p1, p2⟩ := div_parts (a := a) hb
    obtain ⟨d1, d2⟩ := gcd_abs (a := a) hb hb2
    have e := hg a.natAbs b.natAbs (pow_up hb2 (by decide))
    generalize Nat.gcd a.natAbs b.natAbs = g at *
    rcases Int.lt_or_gt_of_ne hb with h | h
    · rw [Int.sign_eq_neg_one_of_neg h, show (-1 : Int) * (g : Int) = -(g : Int) by omega] at p1 p2
      have f1 := fdivD_int (i := a) d2
      have f2 := fdivD_int (i := b) d2
      rw [p1] at f1
      rw [p2] at f2
      simp -implicitDefEqProofs [f_ratio_2, hb, e, h, f1, f2, outsOf, ratD]
    · rw [Int.sign_eq_one_of_pos h, Int.one_mul] at p1 p2
      have f1 := fdivD_int (i := a) d1
      have f2 := fdivD_int (i := b) d1
      rw [p1] at f1
      rw [p2] at f2
      have h' : ¬ b < 0 := by omega
      simp -implicitDefEqProofs [f_ratio_2, hb, e, h', f1, f2, outsOf, ratD]
  · intro a
    rw [runFn_at rfl rfl]
    simp -implicitDefEqProofs [f_ratio_2]
/-- one over another -/
def overQ (a b : Rat) : Rat := (a.num * b.den) /. ((a.den : Int) * b.num)
theorem num0 {a b : Rat} (h : b.num ≠ 0) : (a.den : Int) * b.num ≠ 0 := Int.mul_ne_zero (den_ne a) h
structure OverX (c : Nat) (G : List Sl → FR) : Prop where
  ok : ∀ a b : Rat, RB a → RB b → b.num ≠ 0 → G [.val (ratD a), .val (ratD b)] = .ok (ratD (overQ a b)) []
  no : ∀ a b : Rat, RB a → RB b → b.num = 0 → G [.val (ratD a), .val (ratD b)] = .ex ⟨c, []⟩ []
theorem overX (F : Nat → List Sl → FR) (W c x : Nat) (hr : RatioX x (F c)) : OverX x (runFn F W (f_over c)) := by
  constructor
  · intro a b ha hb hz
    rw [runFn_at rfl rfl]
    have m1 := mulD_int (mulOk_pow ha.1 hb.dn (by decide) (by decide))
    have m3 := mulD_int (mulOk_pow ha.dn hb.1 (by decide) (by decide))
    have e := hr.ok (a.num * b.den) ((a.den : Int) * b.num) (num0 hz) (pow_up (mul_abs ha.1 hb.dn) (by decide)) (pow_up (mul_abs ha.dn hb.1) (by decide))
    simp -implicitDefEqProofs [f_over, m1, m3, e, outsOf, overQ]
  · intro a b ha hb hz
    rw [runFn_at rfl rfl]
    have m1 := mulD_int (mulOk_pow ha.1 hb.dn (by decide) (by decide))
    have m3 := mulD_int (mulOk_pow ha.dn hb.1 (by decide) (by decide))
    have e := hr.no (a.num * b.den)
    have z : (a.den : Int) * b.num = 0 := by rw [hz, Int.mul_zero]
    rw [z] at m3
    simp -implicitDefEqProofs [f_over, m1, m3, e]
def LOverS (G : List Sl → FR) : Prop := ∀ a b : Rat, RB a → RB b → b.num ≠ 0 → G [.val (ratD a), .val (ratD b)] = .ok (ratD (overQ a b)) []
theorem loverS (F : Nat → List Sl → FR) (W c : Nat) (hr : RatioS (F c)) : LOverS (runFn F W (f_l_over c)) := by
  intro a b ha hb hz
  rw [runFn_at rfl rfl]
  have m1 := mulD_int (mulOk_pow ha.1 hb.dn (by decide) (by decide))
  have m3 := mulD_int (mulOk_pow ha.dn hb.1 (by decide) (by decide))
  have e := hr (a.num * b.den) ((a.den : Int) * b.num) (num0 hz) (pow_up (mul_abs ha.1 hb.dn) (by decide)) (pow_up (mul_abs ha.dn hb.1) (by decide))
  simp -implicitDefEqProofs [f_l_over, m1, m3, e, outsOf, overQ]
def SmlS (G : List Sl → FR) : Prop := ∀ a b : Rat, RB a → RB b → G [.val (ratD a), .val (ratD b)] = .ok (.bool (decide (a.num * b.den < b.num * a.den))) []
theorem smlS1 (F : Nat → List Sl → FR) (W : Nat) : SmlS (runFn F W f_is_less) := by
  intro a b ha hb
  rw [runFn_at rfl rfl]
  have m1 := mulD_int (mulOk_pow ha.1 hb.dn (by decide) (by decide))
  have m3 := mulD_int (mulOk_pow hb.1 ha.dn (by decide) (by decide))
  simp -implicitDefEqProofs [f_is_less, m1, m3, outsOf]
theorem smlS2 (F : Nat → List Sl → FR) (W : Nat) : SmlS (runFn F W f_l_less) := by
  intro a b ha hb
  rw [runFn_at rfl rfl]
  have m1 := mulD_int (mulOk_pow ha.1 hb.dn (by decide) (by decide))
  have m3 := mulD_int (mulOk_pow hb.1 ha.dn (by decide) (by decide))
  simp -implicitDefEqProofs [f_l_less, m1, m3, outsOf]
/-- what is asked of over, of ratio by nought -/
structure QuotS (G : List Sl → FR) : Prop where
  two : ∀ a b : Rat, RB a → RB b → G [.val (ratD a), .val (ratD b)] = .ok (if b.num = 0 then .str "none" else ratD (overQ a b)) []
  one : ∀ a : Int, G [.val (.int a), .val (.int 0)] = .ok (.str "none") []
theorem quotS (F : Nat → List Sl → FR) (W c c2 : Nat) (ho : OverX 1 (F c)) (hr : RatioX 1 (F c2)) : QuotS (runFn F W (f_l_quotient c c2)) := by
  constructor
  · intro a b ha hb
    rw [runFn_at rfl rfl]
    have i1 : isiD (ratD a) .tuple = some true := rfl
    by_cases z : b.num = 0
    · have e := ho.no a b ha hb z
      simp -implicitDefEqProofs [f_l_quotient, i1, e, hdR, outsOf, z]
    · have e := ho.ok a b ha hb z
      simp -implicitDefEqProofs [f_l_quotient, i1, e, outsOf, z]
  · intro a
    rw [runFn_at rfl rfl]
    have i1 : isiD (.int a) .tuple = some false := rfl
    have e := hr.no a
    simp -implicitDefEqProofs [f_l_quotient, i1, e, hdR, outsOf]
/-- a law's own look -/
theorem lisRatS (F : Nat → List Sl → FR) (W c c2 : Nat) (hc : CountS (F c)) (hg : GcdS (F c2)) : IsRatS (runFn F W (f_l_is_ratio c c2)) := by
  intro d h
  rw [runFn_at rfl rfl]
  have h1 := isi_at h.pl .tuple
  cases d with
  | dict es => cases h.pl
  | tuple xs =>
    simp only [PyData.isTuple] at h1
    match xs, h, h1 with
    | [], h, h1 => simp -implicitDefEqProofs [f_l_is_ratio, h1, outsOf, ratB]
    | [x], h, h1 => simp -implicitDefEqProofs [f_l_is_ratio, h1, outsOf, ratB]
    | x :: y :: z :: r, h, h1 =>
      have l3 : ¬ (((r.length : Int) + 1 + 1 + 1) = 2) := by omega
      simp -implicitDefEqProofs [f_l_is_ratio, h1, outsOf, ratB, l3]
    | [x, y], h, h1 =>
      have hx := Pls.tup.mp h x (by simp)
      have hy := Pls.tup.mp h y (by simp)
      have c1 := hc x hx.pl
      have c2' := hc y hy.pl
      have i0 := ix2_0 x y
      have i1 := ix2_1 x y
      by_cases zx : isI x = true
      · by_cases zy : isI y = true
        · cases x <;> simp [isI] at zx
          cases y <;> simp [isI] at zy
          rename_i a b
          have c1 : F c [.val (.int a)] = .ok (.bool true) [] := c1
          have c2' : F c [.val (.int b)] = .ok (.bool true) [] := c2'
          by_cases q : 1 ≤ b
          · have q' : 0 < b := by omega
            obtain ⟨bn, rfl⟩ : ∃ bn : Nat, b = bn := ⟨b.toNat, by omega⟩
            have g := hg a.natAbs bn (by have := big_line hy.int; rwa [Int.natAbs_natCast] at this)
            have q'' : 0 < bn := by omega
            simp -implicitDefEqProofs [f_l_is_ratio, h1, outsOf, ratB, c1, c2', q, q', q'', g, i0, i1]
            have e : ((a.natAbs.gcd bn : Nat) : Int) = 1 ↔ a.natAbs.gcd bn = 1 := by omega
            simp [e]
          · have q' : ¬ 0 < b := by omega
            simp -implicitDefEqProofs [f_l_is_ratio, h1, outsOf, ratB, c1, c2', q, q', i0, i1]
        · have zy' : isI y = false := by simpa using zy
          rw [zy'] at c2'
          have e : ratB (.tuple [x, y]) = false := by
            unfold ratB
            split
            · rename_i q; cases q; cases zy'
            · rfl
          simp -implicitDefEqProofs [f_l_is_ratio, h1, outsOf, e, c1, c2', zx, i0, i1]
      · have zx' : isI x = false := by simpa using zx
        rw [zx'] at c1
        have e : ratB (.tuple [x, y]) = false := by
          unfold ratB
          split
          · rename_i q; cases q; cases zx'
          · rfl
        simp -implicitDefEqProofs [f_l_is_ratio, h1, outsOf, e, c1, i0]
  | _ => 
    simp only [PyData.isTuple] at h1
    simp -implicitDefEqProofs [f_l_is_ratio, h1, outsOf, ratB]
/-- a number by draws -/
def SomeS (G : List Sl → FR) : Prop := ∀ (m : Nat) (T : D), TapeB m T → m ≤ 100000000000 → ∃ v T', G [.own T] = .ok (.int v) [T'] ∧ v.natAbs < 2 ^ 200 ∧ TapeB (m + 3) T'
theorem someS (F : Nat → List Sl → FR) (W c : Nat) (hd : DrawS (F c)) : SomeS (runFn F W (f_l_some c)) := by
  intro m T h hm
  obtain ⟨r1, T1, e1, a1, b1, t1⟩ := hd _ T 60 h (by omega) (by decide) (by decide)
  obtain ⟨r2, T2, e2, a2, b2, t2⟩ := hd _ T1 60000 t1 (by omega) (by decide) (by decide)
  obtain ⟨r3, T3, e3, a3, b3, t3⟩ := hd _ T2 9 t2 (by omega) (by decide) (by decide)
  have p1 : powD (.int 10) (.int 60) = some (.int (10 ^ 60)) := rfl
  have p2 : powD (.int 10) (.int 40) = some (.int (10 ^ 40)) := rfl
  have p3 : fdivD (.int (10 ^ 60)) (.int 7) = some (.int ((10 ^ 60 : Int).fdiv 7)) := fdivD_int (by decide +kernel)
  have p4 : mulD (.int (10 ^ 40)) (.int 9) = some (.int (10 ^ 40 * 9)) := mulD_int (by decide +kernel)
  obtain ⟨d, hv, v, rfl, hb⟩ := atI_pick (P := fun d => ∃ v : Int, d = .int v ∧ v.natAbs < 2 ^ 200) (l := [PyData.int 0, .int 1, .int (-1), .int 2, .int 6, .int (-r1), .int r2, .int ((10 ^ 60 : Int).fdiv 7), .int (-(10 ^ 40 * 9))]) a3 b3 (by
    intro d hd
    simp at hd
    rcases hd with rfl | rfl | rfl | rfl | rfl | rfl | rfl | rfl | rfl
    · exact ⟨_, rfl, by decide +kernel⟩
    · exact ⟨_, rfl, by decide +kernel⟩
    · exact ⟨_, rfl, by decide +kernel⟩
    · exact ⟨_, rfl, by decide +kernel⟩
    · exact ⟨_, rfl, by decide +kernel⟩
    · exact ⟨_, rfl, Nat.lt_of_lt_of_le (show (-r1).natAbs < 2 ^ 20 by omega) (Nat.pow_le_pow_right (by decide) (by decide))⟩
    · exact ⟨_, rfl, Nat.lt_of_lt_of_le (show (r2).natAbs < 2 ^ 20 by omega) (Nat.pow_le_pow_right (by decide) (by decide))⟩
    · exact ⟨_, rfl, by decide +kernel⟩
    · exact ⟨_, rfl, by decide +kernel⟩)
  refine ⟨v, T3, ?_, hb, t3⟩
  rw [runFn_at rfl rfl]
  generalize (10 : Int) ^ 60 = A at *
  generalize (10 : Int) ^ 40 = B at *
  simp -implicitDefEqProofs [f_l_some, e1, e2, e3, p1, p2, p3, p4, hv, outsOf]
/-! how great ratios are -/
def RL (k : Nat) (q : Rat) : Prop := q.num.natAbs < 2 ^ k ∧ q.den < 2 ^ k
theorem rl_div {a b : Int} {k : Nat} (hb : b ≠ 0) (h1 : a.natAbs < 2 ^ k) (h2 : b.natAbs < 2 ^ k) : RL k (a /. b) := by
  obtain ⟨p1, p2⟩ := div_parts (a := a) hb
  have hg : 0 < Nat.gcd a.natAbs b.natAbs := Nat.gcd_pos_of_pos_right a.natAbs (show 0 < b.natAbs by omega)
  rw [Rat.num_divInt, Rat.den_divInt, if_neg hb] at *
  have e : b.gcd a = Nat.gcd a.natAbs b.natAbs := by rw [Int.gcd_comm]; rfl
  unfold RL
  rw [Rat.num_divInt, Rat.den_divInt, if_neg hb, e]
  generalize Nat.gcd a.natAbs b.natAbs = g at *
  constructor
  · have h := Int.natAbs_ediv_le_natAbs (b.sign * a) (g : Int)
    have : (b.sign * a).natAbs ≤ a.natAbs := by
      rw [Int.natAbs_mul]
      rcases Int.lt_or_gt_of_ne hb with q | q
      · rw [Int.sign_eq_neg_one_of_neg q]; simp
      · rw [Int.sign_eq_one_of_pos q]; simp
    omega
  · exact Nat.lt_of_le_of_lt (Nat.div_le_self _ _) h2
theorem RL.rb {k : Nat} {q : Rat} (h : RL k q) (hk : k ≤ 4000) : RB q := ⟨pow_up h.1 hk, pow_up h.2 hk⟩
theorem RL.shw {k : Nat} {q : Rat} (h : RL k q) (hk : k ≤ 1900) : Shw 3809 1 (ratD q) := by
  have := shw_tuple (xs := [PyData.int q.num, .int (q.den : Int)]) (L := 1901) (k := 0) (n := 2) (by simp) (by
    intro d hd
    simp at hd
    rcases hd with rfl | rfl
    · exact shw_int (b := 1900) (by decide) (by decide) (pow_up h.1 hk)
    · exact shw_int (b := 1900) (by decide) (by decide) (by rw [Int.natAbs_natCast]; exact pow_up h.2 hk))
  exact this
theorem rl_add {a b : Rat} {k : Nat} (ha : RL k a) (hb : RL k b) : RL (k + k + 1) (a + b) := by
  rw [← add_rat]
  refine rl_div (den_mul_ne a b) (add_abs (mul_abs ha.1 ?_) (mul_abs hb.1 ?_)) (pow_up (mul_abs (a := k) (b := k) ?_ ?_) (by omega)) <;> rw [Int.natAbs_natCast]
  · exact hb.2
  · exact ha.2
  · exact ha.2
  · exact hb.2
theorem RL.neg {a : Rat} {k : Nat} (h : RL k a) : RL k (-a) := ⟨by rw [Rat.neg_num, Int.natAbs_neg]; exact h.1, by rw [Rat.neg_den]; exact h.2⟩
theorem rl_sub {a b : Rat} {k : Nat} (ha : RL k a) (hb : RL k b) : RL (k + k + 1) (a - b) := by
  rw [Rat.sub_eq_add_neg]; exact rl_add ha hb.neg
theorem rl_mul {a b : Rat} {k : Nat} (ha : RL k a) (hb : RL k b) : RL (k + k) (a * b) := by
  rw [← mul_rat]
  refine rl_div (den_mul_ne a b) (mul_abs ha.1 hb.1) (mul_abs (a := k) (b := k) ?_ ?_) <;> rw [Int.natAbs_natCast]
  · exact ha.2
  · exact hb.2
theorem rl_over {a b : Rat} {k : Nat} (ha : RL k a) (hb : RL k b) (h : b.num ≠ 0) : RL (k + k) (overQ a b) := by
  refine rl_div (num0 h) (mul_abs ha.1 (b := k) ?_) (mul_abs (a := k) ?_ hb.1) <;> rw [Int.natAbs_natCast]
  · exact hb.2
  · exact ha.2
end Mn
set_option Elab.async false
set_option linter.all false
set_option maxRecDepth 100000
set_option autoImplicit false
set_option maxHeartbeats 1000000
set_option exponentiation.threshold 10000
namespace K01
open PySem PySem.Spec Mn Lb
open scoped Rat
theorem eqD_bool (b : Bool) : eqD (.bool b) (.bool b) = some true := by cases b <;> rfl
def NLk (s : Sl) : Prop := ∀ μ, isLck (s :: μ) 0 = false
theorem nlk_own (d : D) : NLk (.own d) := fun _ => rfl
theorem pls_int {i : Int} (h : i.natAbs < 2 ^ 1900) : Pls (.int i) := by
  have := shw_int (b := 1900) (by decide) (by decide) h
  exact ⟨this.pl, this.sh⟩
theorem pls_odd {d : D} (h : d ∈ [PyData.bool true, .bool false, .none, .str "1", .tuple [.int 1], .list [.int 1], .tuple []]) : Pls d := by
  simp at h
  rcases h with rfl | rfl | rfl | rfl | rfl | rfl | rfl
  all_goals exact ⟨by decide +kernel, by decide +kernel⟩
theorem pls_things {a b : Int} {o : D} (ha : a.natAbs < 2 ^ 200) (hb : b.natAbs < 2 ^ 200) (ho : Pls o) : ∀ d ∈ [PyData.tuple [.int a, .int b], .tuple [.int (a * b), .int b], .tuple [o, .int 1], .tuple [.int a, o], .list [.int a, .int b], .tuple [.int a, .int b, .int 1], .tuple [.int a], o], Pls d := by
  have pa := pls_int (pow_up ha (show 200 ≤ 1900 by decide))
  have pb := pls_int (pow_up hb (show 200 ≤ 1900 by decide))
  have pm := pls_int (pow_up (mul_abs ha hb) (show 400 ≤ 1900 by decide))
  have p1 : Pls (.int 1) := pls_int (Nat.one_lt_two_pow (by decide))
  intro d hd
  simp only [List.mem_cons, List.not_mem_nil, or_false] at hd
  rcases hd with rfl | rfl | rfl | rfl | rfl | rfl | rfl | rfl
  · refine Pls.tup.mpr fun x hx => ?_
    simp only [List.mem_cons, List.not_mem_nil, or_false] at hx
    rcases hx with rfl | rfl <;> assumption
  · refine Pls.tup.mpr fun x hx => ?_
    simp only [List.mem_cons, List.not_mem_nil, or_false] at hx
    rcases hx with rfl | rfl <;> assumption
  · refine Pls.tup.mpr fun x hx => ?_
    simp only [List.mem_cons, List.not_mem_nil, or_false] at hx
    rcases hx with rfl | rfl <;> assumption
  · refine Pls.tup.mpr fun x hx => ?_
    simp only [List.mem_cons, List.not_mem_nil, or_false] at hx
    rcases hx with rfl | rfl <;> assumption
  · refine Pls.lst.mpr fun x hx => ?_
    simp only [List.mem_cons, List.not_mem_nil, or_false] at hx
    rcases hx with rfl | rfl <;> assumption
  · refine Pls.tup.mpr fun x hx => ?_
    simp only [List.mem_cons, List.not_mem_nil, or_false] at hx
    rcases hx with rfl | rfl | rfl <;> assumption
  · refine Pls.tup.mpr fun x hx => ?_
    simp only [List.mem_cons, List.not_mem_nil, or_false] at hx
    subst hx; assumption
  · exact ho
theorem pair_pls {d : D} (h : Pls d) : isPair d = false := by
  cases d with
  | dict es => cases h.pl
  | _ => rfl
theorem shw_none' : Shw 3809 1 (.str "none") := ⟨by decide +kernel, by decide +kernel, by decide +kernel, by decide +kernel⟩
theorem law_ok (F : Nat → List Sl → FR) (W : Nat) (h2 : IsRatS (F 2)) (h3 : RatioX 1 (F 3)) (h4 : Rat2 (F 4) (· + ·)) (h5 : Rat2 (F 5) (· - ·)) (h6 : Rat2 (F 6) (· * ·)) (h8 : SmlS (F 8)) (h9 : TapeS (F 9)) (h10 : DrawS (F 10)) (h12 : RatioS (F 12)) (h13 : Rat2 (F 13) (· + ·)) (h14 : Rat2 (F 14) (· - ·)) (h15 : Rat2 (F 15) (· * ·)) (h16 : LOverS (F 16)) (h17 : SmlS (F 17)) (h19 : IsRatS (F 19)) (h20 : SomeS (F 20)) (h21 : QuotS (F 21))
    (ns : List Int) (hn : ns.length ≤ 63) (Q : D → List D → Prop) (hQ : Q (.bool true) []) : (runFn F W (f_law_10 9 20 10 2 19 12 21 3 15 14 13 16 6 5 4 8 17) [.val (.list (ns.map .int))]).wp Q := by
  refine wp_run rfl rfl ?_
  simp -implicitDefEqProofs [f_law_10, h9 ns hn, rng1_ok (show (0 : Int) ≤ 12 by decide) (show (12 : Int) ≤ 1000 by decide)]
  refine wp_forL (fun i μ => ∃ (T : D) (s2 s3 s4 s5 s6 s7 s8 s9 s10 s11 s12 : Sl), μ = [.val (.list (ns.map .int)), .own T, s2, s3, s4, s5, s6, s7, s8, s9, s10, s11, s12] ∧ TapeB (100 * i) T ∧ FrS s2 ∧ FrS s3 ∧ FrS s4 ∧ FrS s5 ∧ FrS s6 ∧ FrS s7 ∧ FrS s8 ∧ FrS s9 ∧ NLk s10 ∧ FrS s11 ∧ FrS s12) _ _ ?_ ?_ ?_
  · exact ⟨_, .no, .no, .no, .no, .no, .no, .no, .no, .no, .no, .no, rfl, tapeB0 hn, rfl, rfl, rfl, rfl, rfl, rfl, rfl, rfl, fun _ => rfl, rfl, rfl⟩
  · rintro i d μ Q' hd' ⟨T, s2, s3, s4, s5, s6, s7, s8, s9, s10, s11, s12, rfl, t, f2, f3, f4, f5, f6, f7, f8, f9, f10, f11, f12⟩ hk
    obtain ⟨hi, rfl⟩ := rangeD_get hd'
    obtain ⟨a, T1, e1, ba, t1⟩ := h20 _ T t (by omega)
    obtain ⟨b, T2, e2, bb, t2⟩ := h20 _ T1 t1 (by omega)
    obtain ⟨r, T3, e3, r0, r1, t3⟩ := h10 _ T2 7 t2 (by omega) (by decide) (by decide)
    obtain ⟨o, ho, po⟩ := atI_pick (P := fun d => Pls d) (l := [PyData.bool true, .bool false, .none, .str "1", .tuple [.int 1], .list [.int 1], .tuple []]) r0 r1 fun d hd => pls_odd hd
    have m1 := mulD_int (mulOk_pow ba bb (by decide) (by decide))
    have sl1 : slD (.tuple [.int a, .int b]) none (some 1) = some (.tuple [.int a]) := rfl
    have ad1 : addD (.tuple [.int a, .int b]) (.tuple [.int 1]) = some (.tuple [.int a, .int b, .int 1]) := rfl
    have ix0 := ix2_0 (.int a) (.int b)
    have ix1 := ix2_1 (.int a) (.int b)
    have pth := pls_things ba bb po
    simp -implicitDefEqProofs [isLck_f f2, isLck_f f3, isLck_f f4, isLck_f f5, e1, e2, e3, ho, m1, sl1, ad1, ix0, ix1]
    refine wp_forL (fun j μ => ∃ (s6 s12 : Sl), μ = [.val (.list (ns.map .int)), .own T3, .val (.int i), .val (.tuple [.int a, .int b]), .val o, .val (.list [PyData.tuple [.int a, .int b], .tuple [.int (a * b), .int b], .tuple [o, .int 1], .tuple [.int a, o], .list [.int a, .int b], .tuple [.int a, .int b, .int 1], .tuple [.int a], o]), s6, s7, s8, s9, s10, s11, s12] ∧ FrS s6 ∧ FrS s12) _ _ ⟨s6, s12, rfl, f6, f12⟩ ?_ ?_
    · rintro j d μ Q2 hd2 ⟨s6, s12, rfl, f6, f12⟩ hk2
      have pd := pth d (List.mem_of_getElem? hd2)
      have g1 := h2 d pd
      have g2 := h19 d pd
      have pr := pair_pls pd
      have eb := eqD_bool (ratB d)
      have ib : isiD (.bool (ratB d)) .bool = some true := rfl
      generalize ratB d = B at *
      simp -implicitDefEqProofs [isLck_f f6, isLck_f f12, g1, g2, pr, eb, ib]
      exact hk2 _ ⟨_, _, rfl, frS_val _, frS_val _⟩
    rintro μ ⟨s6, s12, rfl, f6, f12⟩
    have j0 : L2.atI [PyData.int a, .int b] 0 = some (.int a) := rfl
    have j1 : L2.atI [PyData.int a, .int b] 1 = some (.int b) := rfl
    obtain ⟨bk, bt, hbk, hbt, bt0, btb⟩ : ∃ bk bt : Int, intD (.bool (decide (b = 0))) = some (.int bk) ∧ L2.atI [PyData.int b, .int 1] bk = some (.int bt) ∧ bt ≠ 0 ∧ bt.natAbs < 2 ^ 200 := by
      by_cases z : b = 0
      · exact ⟨1, 1, by rw [decide_eq_true z]; rfl, rfl, by decide, Nat.one_lt_two_pow (by decide)⟩
      · exact ⟨0, b, by rw [decide_eq_false z]; rfl, rfl, z, bb⟩
    obtain ⟨c, T4, e4, bc, t4⟩ := h20 _ T3 t3 (by omega)
    obtain ⟨r', T5, e5, r0', r1', t5⟩ := h10 _ T4 40 t4 (by omega) (by decide) (by decide)
    have q1 := h12 a bt bt0 (pow_up ba (by decide)) (pow_up btb (by decide))
    have q1' := h3.ok a bt bt0 (pow_up ba (by decide)) (pow_up btb (by decide))
    have q2 := h12 c (1 + r') (by omega) (pow_up bc (by decide)) (Nat.lt_of_lt_of_le (show (1 + r').natAbs < 2 ^ 6 by omega) (Nat.pow_le_pow_right (by decide) (by decide)))
    have l1 := rl_div bt0 ba btb
    have l2 := rl_div (show 1 + r' ≠ 0 by omega) bc (Nat.lt_of_lt_of_le (show (1 + r').natAbs < 2 ^ 6 by omega) (Nat.pow_le_pow_right (by decide) (by decide)))
    generalize a /. bt = x at *
    generalize c /. (1 + r') = y at *
    have v1 := reprD_ok (l1.shw (by decide)) (by decide) (by decide)
    have qz := h21.one a
    have rx := l1.rb (by decide)
    have ry := l2.rb (by decide)
    have g1 := h13 x y rx ry
    have g2 := h14 x y rx ry
    have g3 := h15 x y rx ry
    have g5 := h4 x y rx ry
    have g6 := h5 x y rx ry
    have g7 := h6 x y rx ry
    have g8 := h21.two x y rx ry
    have g9 := h8 x y rx ry
    have g10 := h8 y x ry rx
    have g11 := h17 x y rx ry
    have g12 := h17 y x ry rx
    have s1 := (rl_add l1 l2).shw (by decide)
    have s2' := (rl_sub l1 l2).shw (by decide)
    have s3' := (rl_mul l1 l2).shw (by decide)
    dsimp only at g1 g2 g3 g5 g6 g7
    have sl : ∀ w : D, Shw 3809 1 w → reprD (.list [ratD (x + y), ratD (x - y), ratD (x * y), w]) = some (.str (PyData.list [ratD (x + y), ratD (x - y), ratD (x * y), w]).shown) := fun w hw => reprD_ok (shw_list (n := 4) (by simp) (by
      intro d hd
      simp only [List.mem_cons, List.not_mem_nil, or_false] at hd
      rcases hd with rfl | rfl | rfl | rfl <;> assumption)) (by decide) (by decide)
    generalize decide (x.num * y.den < y.num * x.den) = B1 at *
    generalize decide (y.num * x.den < x.num * y.den) = B2 at *
    have sb := reprD_ok (shw_list (xs := [PyData.bool B1, .bool B2]) (n := 2) (by simp) (by
      intro d hd
      simp only [List.mem_cons, List.not_mem_nil, or_false] at hd
      rcases hd with rfl | rfl <;> exact shw_bool _)) (by decide) (by decide)
    generalize (PyData.list [PyData.bool B1, .bool B2]).shown = ub at *
    generalize (ratD x).shown = ux at *
    generalize x + y = xa at *
    generalize x - y = xb at *
    generalize x * y = xc at *
    by_cases z : y.num = 0
    · have sn := sl _ shw_none'
      rw [if_pos z] at g8
      generalize (PyData.list [ratD xa, ratD xb, ratD xc, .str "none"]).shown = us at *
      simp -implicitDefEqProofs [j0, j1, hbk, isLck_f f7, isLck_f f8, isLck_f f9, f10 _, isLck_f f11, hbt, e4, e5, q1, q1', q2, v1, qz, g1, g2, g3, g5, g6, g7, g8, g9, g10, g11, g12, z, sn, sb]
      exact hk _ ⟨T5, _, _, _, _, _, _, _, _, _, _, _, rfl, t5.mono (by omega), frS_val _, frS_val _, frS_val _, frS_val _, f6, frS_val _, frS_val _, frS_val _, nlk_own _, frS_val _, f12⟩
    · have sn := sl _ ((rl_over l1 l2 z).shw (by decide))
      have g4 := h16 x y rx ry z
      have se : ∀ (u0 u1 u2 u3 u4 u5 u6 u7 u8 u9 u11 u12 : Sl) (w0 w1 w2 w3 v : D), setE 10 (.int 3) v [u0, u1, u2, u3, u4, u5, u6, u7, u8, u9, .own (.list [w0, w1, w2, w3]), u11, u12] = some [u0, u1, u2, u3, u4, u5, u6, u7, u8, u9, .own (.list [w0, w1, w2, v]), u11, u12] := fun _ _ _ _ _ _ _ _ _ _ _ _ _ _ _ _ _ => rfl
      rw [if_neg z] at g8
      generalize (PyData.list [ratD xa, ratD xb, ratD xc, ratD (overQ x y)]).shown = us at *
      simp -implicitDefEqProofs [j0, j1, hbk, isLck_f f7, isLck_f f8, isLck_f f9, f10 _, isLck_f f11, hbt, e4, e5, q1, q1', q2, v1, qz, g1, g2, g3, g4, g5, g6, g7, g8, g9, g10, g11, g12, z, sn, sb, se]
      exact hk _ ⟨T5, _, _, _, _, _, _, _, _, _, _, _, rfl, t5.mono (by omega), frS_val _, frS_val _, frS_val _, frS_val _, f6, frS_val _, frS_val _, frS_val _, nlk_own _, frS_val _, f12⟩
  · rintro μ ⟨T, s2, s3, s4, s5, s6, s7, s8, s9, s10, s11, s12, rfl, r⟩
    simp -implicitDefEqProofs [outsOf]
    exact hQ
theorem s_at (k f : Nat) {fn : Fn} (h : fns[f]? = some fn) : sem fns Wb (k + 1) f = runFn (sem fns Wb k) Wb fn := funext fun args => sem_at fns Wb k f args h
theorem all_true : ∀ ns : List Int, ns.length ≤ 63 → sem fns Wb 12 22 [.val (.list (ns.map .int))] = .ok (.bool true) [] := by
  intro ns hn
  have d0 : ∀ k, CountS (sem fns Wb (k + 1) 0) := fun k => by rw [s_at k 0 rfl]; exact countS1 _ _
  have d1 : ∀ k, GcdS (sem fns Wb (k + 1) 1) := fun k => by rw [s_at k 1 rfl]; exact gcdS1 _ _ Wb_big
  have d2 : ∀ k, IsRatS (sem fns Wb (k + 2) 2) := fun k => by rw [s_at (k + 1) 2 rfl]; exact isRatS _ _ _ _ (d0 k) (d1 k)
  have d3 : ∀ k, RatioX 1 (sem fns Wb (k + 2) 3) := fun k => by rw [s_at (k + 1) 3 rfl]; exact ratioX _ _ _ (d1 k)
  have d4 : ∀ k, Rat2 (sem fns Wb (k + 3) 4) (· + ·) := fun k => by rw [s_at (k + 2) 4 rfl]; exact plusS1 _ _ _ (d3 k).ok
  have d5 : ∀ k, Rat2 (sem fns Wb (k + 4) 5) (· - ·) := fun k => by rw [s_at (k + 3) 5 rfl]; exact minusS1 _ _ _ (d4 k)
  have d6 : ∀ k, Rat2 (sem fns Wb (k + 3) 6) (· * ·) := fun k => by rw [s_at (k + 2) 6 rfl]; exact timesS1 _ _ _ (d3 k).ok
  have d7 : ∀ k, OverX 1 (sem fns Wb (k + 3) 7) := fun k => by rw [s_at (k + 2) 7 rfl]; exact overX _ _ _ _ (d3 k)
  have d10 : ∀ k, DrawS (sem fns Wb (k + 1) 10) := fun k => by rw [s_at k 10 rfl]; exact drawS _ _ Wb_64
  have d11 : ∀ k, GcdS (sem fns Wb (k + 1) 11) := fun k => by rw [s_at k 11 rfl]; exact gcdS2 _ _ Wb_big
  have d12 : ∀ k, RatioS (sem fns Wb (k + 2) 12) := fun k => by rw [s_at (k + 1) 12 rfl]; exact ratioS2 _ _ _ (d11 k)
  have d18 : ∀ k, CountS (sem fns Wb (k + 1) 18) := fun k => by rw [s_at k 18 rfl]; exact countS2 _ _
  have h := law_ok (sem fns Wb 11) Wb (d2 9) (d3 9) (d4 8) (d5 7) (d6 8) (by rw [s_at 10 8 rfl]; exact smlS1 _ _) (by rw [s_at 10 9 rfl]; exact tapeS _ _) (d10 10) (d12 9) (by rw [s_at 10 13 rfl]; exact plusS2 _ _ _ (d12 8)) (by rw [s_at 10 14 rfl]; exact minusS2 _ _ _ (d12 8)) (by rw [s_at 10 15 rfl]; exact timesS2 _ _ _ (d12 8)) (by rw [s_at 10 16 rfl]; exact loverS _ _ _ (d12 8)) (by rw [s_at 10 17 rfl]; exact smlS2 _ _) (by rw [s_at 10 19 rfl]; exact lisRatS _ _ _ _ (d18 9) (d11 9)) (by rw [s_at 10 20 rfl]; exact someS _ _ _ (d10 9)) (by rw [s_at 10 21 rfl]; exact quotS _ _ _ _ (d7 7) (d3 8)) ns hn (fun d o => d = .bool true ∧ o = []) ⟨rfl, rfl⟩
  obtain ⟨_, _, e, rfl, rfl⟩ := FR.wp_elim h
  rw [s_at 11 22 rfl]
  exact e
end K01
set_option Elab.async false
set_option linter.all false
set_option autoImplicit false
namespace Mn
open PySem PySem.W
/-! ## facts of classes -/
section
variable {K : Frag} {C D : Addr} {cls : Value} {b : Bool} {T : String}
theorem kit_ref' (hdct : hasDictIn K C = true) (ht : typeIn K (.ref C) = some (.type "type")) (h5 : subIn K (.ref C) (.ref C) = some true) (h4 : subIn K cls (.ref C) = some b) : kitOne K cls (.ref C) = some b := by
  obtain ⟨cd, hc, _⟩ := any_some hdct
  have e2 : ((clsIn K C).isSome && typeIn K (.ref C) == some (.type "type")) = true := by rw [hc, ht] <;> rfl
  show (if (cls == .ref C) = true then some true else (if ((clsIn K C).isSome && typeIn K (.ref C) == some (.type "type")) = true then subIn K cls (.ref C) else none)) = some b
  rw [if_pos e2]
  split
  · rename_i q
    rw [beq_iff_eq] at q
    rw [q, h5] at h4
    exact h4
  · exact h4
theorem kit_ty' (hm : kitMeta T = true) (h4 : subIn K (.ref D) (.type T) = some b) : kitOne K (.ref D) (.type T) = some b := by
  show (if (Value.ref D == .type T) = true then some true else (if kitMeta T = true then subIn K (.ref D) (.type T) else none)) = some b
  rw [if_pos hm]
  split
  · rename_i q
    rw [beq_iff_eq] at q
    cases q
  · exact h4
theorem exm_ty' (h1 : subIn K (.type T) (.type "BaseException") = some true) (hm : kitMeta T = true) (h4 : subIn K (.ref D) (.type T) = some b) : exmOne K (.ref D) (.type T) = some b := by
  have e1 : (subIn K (.type T) (.type "BaseException") == some true) = true := by rw [h1]; rfl
  show (if (subIn K (.type T) (.type "BaseException") == some true) = true then (if kitMeta T = true then subIn K (.ref D) (.type T) else none) else none) = some b
  rw [if_pos e1, if_pos hm]
  exact h4
end
end Mn
set_option linter.all false
set_option maxRecDepth 100000
set_option maxHeartbeats 1000000
namespace K01
open PySem PySem.Spec L2 Mn Lb
def topS (i : Nat) : Stmt := PySem.Challenge.pw_commonzeros_k01_ratios.main.body.getD i (.Pass ⟨0, 0, 0, 0⟩)
theorem ok_is_count : chkFn fns gls f_is_count (topS 6) = true := by decide +kernel
theorem ok_shared : chkFn fns gls f_shared (topS 7) = true := by decide +kernel
theorem ok_is_ratio : chkFn fns gls (f_is_ratio 0 1) (topS 8) = true := by decide +kernel
theorem ok_ratio : chkFn fns gls (f_ratio_2 1) (topS 9) = true := by decide +kernel
theorem ok_plus : chkFn fns gls (f_plus 3) (topS 10) = true := by decide +kernel
theorem ok_minus : chkFn fns gls (f_minus 4) (topS 11) = true := by decide +kernel
theorem ok_times : chkFn fns gls (f_times 3) (topS 12) = true := by decide +kernel
theorem ok_over : chkFn fns gls (f_over 3) (topS 13) = true := by decide +kernel
theorem ok_is_less : chkFn fns gls f_is_less (topS 14) = true := by decide +kernel
theorem ok_law_tape : chkFn fns gls f_l_tape (topS 16) = true := by decide +kernel
theorem ok_law_draw : chkFn fns gls f_l_draw (topS 17) = true := by decide +kernel
theorem ok_law_gcd : chkFn fns gls f_l_gcd (topS 18) = true := by decide +kernel
theorem ok_law_ratio : chkFn fns gls (f_l_ratio 11) (topS 19) = true := by decide +kernel
theorem ok_law_plus : chkFn fns gls (f_l_plus 12) (topS 20) = true := by decide +kernel
theorem ok_law_minus : chkFn fns gls (f_l_minus 12) (topS 21) = true := by decide +kernel
theorem ok_law_times : chkFn fns gls (f_l_times 12) (topS 22) = true := by decide +kernel
theorem ok_law_over : chkFn fns gls (f_l_over 12) (topS 23) = true := by decide +kernel
theorem ok_law_less : chkFn fns gls f_l_less (topS 24) = true := by decide +kernel
theorem ok_law_whole : chkFn fns gls f_l_whole (topS 25) = true := by decide +kernel
theorem ok_law_is_ratio : chkFn fns gls (f_l_is_ratio 18 11) (topS 26) = true := by decide +kernel
theorem ok_law_some : chkFn fns gls (f_l_some 10) (topS 27) = true := by decide +kernel
theorem ok_law_quotient : chkFn fns gls (f_l_quotient 7 3) (topS 28) = true := by decide +kernel
theorem ok_law : chkFn fns gls (f_law_10 9 20 10 2 19 12 21 3 15 14 13 16 6 5 4 8 17) (topS 29) = true := by decide +kernel
theorem prg {l : PySem.W.OpenLaw} {w : World} {K : PySem.W.Frag} {h : Heap} {mg : Str → Option Value} (X : K.In h) (G : h.Ns mainGlobals mg)
    {f0 : Addr} {od0 an0 : Option Addr} {sl0 : Array (Option Value)} {oc0 kV0 dc0 pm0 cd0 ct0 : Value}
    {f1 : Addr} {od1 an1 : Option Addr} {sl1 : Array (Option Value)} {oc1 kV1 dc1 pm1 cd1 ct1 : Value}
    {f2 : Addr} {od2 an2 : Option Addr} {sl2 : Array (Option Value)} {oc2 kV2 dc2 pm2 cd2 ct2 : Value}
    {f3 : Addr} {od3 an3 : Option Addr} {sl3 : Array (Option Value)} {oc3 kV3 dc3 pm3 cd3 ct3 : Value}
    {f4 : Addr} {od4 an4 : Option Addr} {sl4 : Array (Option Value)} {oc4 kV4 dc4 pm4 cd4 ct4 : Value}
    {f5 : Addr} {od5 an5 : Option Addr} {sl5 : Array (Option Value)} {oc5 kV5 dc5 pm5 cd5 ct5 : Value}
    {f6 : Addr} {od6 an6 : Option Addr} {sl6 : Array (Option Value)} {oc6 kV6 dc6 pm6 cd6 ct6 : Value}
    {f7 : Addr} {od7 an7 : Option Addr} {sl7 : Array (Option Value)} {oc7 kV7 dc7 pm7 cd7 ct7 : Value}
    {f8 : Addr} {od8 an8 : Option Addr} {sl8 : Array (Option Value)} {oc8 kV8 dc8 pm8 cd8 ct8 : Value}
    {f9 : Addr} {od9 an9 : Option Addr} {sl9 : Array (Option Value)} {oc9 kV9 dc9 pm9 cd9 ct9 : Value}
    {f10 : Addr} {od10 an10 : Option Addr} {sl10 : Array (Option Value)} {oc10 kV10 dc10 pm10 cd10 ct10 : Value}
    {f11 : Addr} {od11 an11 : Option Addr} {sl11 : Array (Option Value)} {oc11 kV11 dc11 pm11 cd11 ct11 : Value}
    {f12 : Addr} {od12 an12 : Option Addr} {sl12 : Array (Option Value)} {oc12 kV12 dc12 pm12 cd12 ct12 : Value}
    {f13 : Addr} {od13 an13 : Option Addr} {sl13 : Array (Option Value)} {oc13 kV13 dc13 pm13 cd13 ct13 : Value}
    {f14 : Addr} {od14 an14 : Option Addr} {sl14 : Array (Option Value)} {oc14 kV14 dc14 pm14 cd14 ct14 : Value}
    {f15 : Addr} {od15 an15 : Option Addr} {sl15 : Array (Option Value)} {oc15 kV15 dc15 pm15 cd15 ct15 : Value}
    {f16 : Addr} {od16 an16 : Option Addr} {sl16 : Array (Option Value)} {oc16 kV16 dc16 pm16 cd16 ct16 : Value}
    {f17 : Addr} {od17 an17 : Option Addr} {sl17 : Array (Option Value)} {oc17 kV17 dc17 pm17 cd17 ct17 : Value}
    {f18 : Addr} {od18 an18 : Option Addr} {sl18 : Array (Option Value)} {oc18 kV18 dc18 pm18 cd18 ct18 : Value}
    {f19 : Addr} {od19 an19 : Option Addr} {sl19 : Array (Option Value)} {oc19 kV19 dc19 pm19 cd19 ct19 : Value}
    {f20 : Addr} {od20 an20 : Option Addr} {sl20 : Array (Option Value)} {oc20 kV20 dc20 pm20 cd20 ct20 : Value}
    {f21 : Addr} {od21 an21 : Option Addr} {sl21 : Array (Option Value)} {oc21 kV21 dc21 pm21 cd21 ct21 : Value}
    {f22 : Addr} {od22 an22 : Option Addr} {sl22 : Array (Option Value)} {oc22 kV22 dc22 pm22 cd22 ct22 : Value}
    {ca0 ca1 ca2 ca3 : Addr}
    (a0 : PySem.W.nsIn K mainGlobals "is_count" = some (some (.ref f0))) (l0 : K.lookup f0 = some ⟨oc0, od0, .func (PySem.W.fnOf "is_count" "is_count" (defArgs (topS 6)) (defBody (topS 6)) (defScope (topS 6)) .none kV0 dc0 pm0 an0 cd0 ct0), sl0⟩) (c0 : PySem.W.codeIn K cd0 "is_count" = true) (k0 : PySem.W.keepIn K (.ref f0) = true)
    (a1 : PySem.W.nsIn K mainGlobals "shared" = some (some (.ref f1))) (l1 : K.lookup f1 = some ⟨oc1, od1, .func (PySem.W.fnOf "shared" "shared" (defArgs (topS 7)) (defBody (topS 7)) (defScope (topS 7)) .none kV1 dc1 pm1 an1 cd1 ct1), sl1⟩) (c1 : PySem.W.codeIn K cd1 "shared" = true) (k1 : PySem.W.keepIn K (.ref f1) = true)
    (a2 : PySem.W.nsIn K mainGlobals "is_ratio" = some (some (.ref f2))) (l2 : K.lookup f2 = some ⟨oc2, od2, .func (PySem.W.fnOf "is_ratio" "is_ratio" (defArgs (topS 8)) (defBody (topS 8)) (defScope (topS 8)) .none kV2 dc2 pm2 an2 cd2 ct2), sl2⟩) (c2 : PySem.W.codeIn K cd2 "is_ratio" = true) (k2 : PySem.W.keepIn K (.ref f2) = true)
    (a3 : PySem.W.nsIn K mainGlobals "ratio" = some (some (.ref f3))) (l3 : K.lookup f3 = some ⟨oc3, od3, .func (PySem.W.fnOf "ratio" "ratio" (defArgs (topS 9)) (defBody (topS 9)) (defScope (topS 9)) .none kV3 dc3 pm3 an3 cd3 ct3), sl3⟩) (c3 : PySem.W.codeIn K cd3 "ratio" = true) (k3 : PySem.W.keepIn K (.ref f3) = true)
    (a4 : PySem.W.nsIn K mainGlobals "plus" = some (some (.ref f4))) (l4 : K.lookup f4 = some ⟨oc4, od4, .func (PySem.W.fnOf "plus" "plus" (defArgs (topS 10)) (defBody (topS 10)) (defScope (topS 10)) .none kV4 dc4 pm4 an4 cd4 ct4), sl4⟩) (c4 : PySem.W.codeIn K cd4 "plus" = true) (k4 : PySem.W.keepIn K (.ref f4) = true)
    (a5 : PySem.W.nsIn K mainGlobals "minus" = some (some (.ref f5))) (l5 : K.lookup f5 = some ⟨oc5, od5, .func (PySem.W.fnOf "minus" "minus" (defArgs (topS 11)) (defBody (topS 11)) (defScope (topS 11)) .none kV5 dc5 pm5 an5 cd5 ct5), sl5⟩) (c5 : PySem.W.codeIn K cd5 "minus" = true) (k5 : PySem.W.keepIn K (.ref f5) = true)
    (a6 : PySem.W.nsIn K mainGlobals "times" = some (some (.ref f6))) (l6 : K.lookup f6 = some ⟨oc6, od6, .func (PySem.W.fnOf "times" "times" (defArgs (topS 12)) (defBody (topS 12)) (defScope (topS 12)) .none kV6 dc6 pm6 an6 cd6 ct6), sl6⟩) (c6 : PySem.W.codeIn K cd6 "times" = true) (k6 : PySem.W.keepIn K (.ref f6) = true)
    (a7 : PySem.W.nsIn K mainGlobals "over" = some (some (.ref f7))) (l7 : K.lookup f7 = some ⟨oc7, od7, .func (PySem.W.fnOf "over" "over" (defArgs (topS 13)) (defBody (topS 13)) (defScope (topS 13)) .none kV7 dc7 pm7 an7 cd7 ct7), sl7⟩) (c7 : PySem.W.codeIn K cd7 "over" = true) (k7 : PySem.W.keepIn K (.ref f7) = true)
    (a8 : PySem.W.nsIn K mainGlobals "is_less" = some (some (.ref f8))) (l8 : K.lookup f8 = some ⟨oc8, od8, .func (PySem.W.fnOf "is_less" "is_less" (defArgs (topS 14)) (defBody (topS 14)) (defScope (topS 14)) .none kV8 dc8 pm8 an8 cd8 ct8), sl8⟩) (c8 : PySem.W.codeIn K cd8 "is_less" = true) (k8 : PySem.W.keepIn K (.ref f8) = true)
    (a9 : PySem.W.nsIn K mainGlobals "_law_tape" = some (some (.ref f9))) (l9 : K.lookup f9 = some ⟨oc9, od9, .func (PySem.W.fnOf "_law_tape" "_law_tape" (defArgs (topS 16)) (defBody (topS 16)) (defScope (topS 16)) .none kV9 dc9 pm9 an9 cd9 ct9), sl9⟩) (c9 : PySem.W.codeIn K cd9 "_law_tape" = true) (k9 : PySem.W.keepIn K (.ref f9) = true)
    (a10 : PySem.W.nsIn K mainGlobals "_law_draw" = some (some (.ref f10))) (l10 : K.lookup f10 = some ⟨oc10, od10, .func (PySem.W.fnOf "_law_draw" "_law_draw" (defArgs (topS 17)) (defBody (topS 17)) (defScope (topS 17)) .none kV10 dc10 pm10 an10 cd10 ct10), sl10⟩) (c10 : PySem.W.codeIn K cd10 "_law_draw" = true) (k10 : PySem.W.keepIn K (.ref f10) = true)
    (a11 : PySem.W.nsIn K mainGlobals "_law_gcd" = some (some (.ref f11))) (l11 : K.lookup f11 = some ⟨oc11, od11, .func (PySem.W.fnOf "_law_gcd" "_law_gcd" (defArgs (topS 18)) (defBody (topS 18)) (defScope (topS 18)) .none kV11 dc11 pm11 an11 cd11 ct11), sl11⟩) (c11 : PySem.W.codeIn K cd11 "_law_gcd" = true) (k11 : PySem.W.keepIn K (.ref f11) = true)
    (a12 : PySem.W.nsIn K mainGlobals "_law_ratio" = some (some (.ref f12))) (l12 : K.lookup f12 = some ⟨oc12, od12, .func (PySem.W.fnOf "_law_ratio" "_law_ratio" (defArgs (topS 19)) (defBody (topS 19)) (defScope (topS 19)) .none kV12 dc12 pm12 an12 cd12 ct12), sl12⟩) (c12 : PySem.W.codeIn K cd12 "_law_ratio" = true) (k12 : PySem.W.keepIn K (.ref f12) = true)
    (a13 : PySem.W.nsIn K mainGlobals "_law_plus" = some (some (.ref f13))) (l13 : K.lookup f13 = some ⟨oc13, od13, .func (PySem.W.fnOf "_law_plus" "_law_plus" (defArgs (topS 20)) (defBody (topS 20)) (defScope (topS 20)) .none kV13 dc13 pm13 an13 cd13 ct13), sl13⟩) (c13 : PySem.W.codeIn K cd13 "_law_plus" = true) (k13 : PySem.W.keepIn K (.ref f13) = true)
    (a14 : PySem.W.nsIn K mainGlobals "_law_minus" = some (some (.ref f14))) (l14 : K.lookup f14 = some ⟨oc14, od14, .func (PySem.W.fnOf "_law_minus" "_law_minus" (defArgs (topS 21)) (defBody (topS 21)) (defScope (topS 21)) .none kV14 dc14 pm14 an14 cd14 ct14), sl14⟩) (c14 : PySem.W.codeIn K cd14 "_law_minus" = true) (k14 : PySem.W.keepIn K (.ref f14) = true)
    (a15 : PySem.W.nsIn K mainGlobals "_law_times" = some (some (.ref f15))) (l15 : K.lookup f15 = some ⟨oc15, od15, .func (PySem.W.fnOf "_law_times" "_law_times" (defArgs (topS 22)) (defBody (topS 22)) (defScope (topS 22)) .none kV15 dc15 pm15 an15 cd15 ct15), sl15⟩) (c15 : PySem.W.codeIn K cd15 "_law_times" = true) (k15 : PySem.W.keepIn K (.ref f15) = true)
    (a16 : PySem.W.nsIn K mainGlobals "_law_over" = some (some (.ref f16))) (l16 : K.lookup f16 = some ⟨oc16, od16, .func (PySem.W.fnOf "_law_over" "_law_over" (defArgs (topS 23)) (defBody (topS 23)) (defScope (topS 23)) .none kV16 dc16 pm16 an16 cd16 ct16), sl16⟩) (c16 : PySem.W.codeIn K cd16 "_law_over" = true) (k16 : PySem.W.keepIn K (.ref f16) = true)
    (a17 : PySem.W.nsIn K mainGlobals "_law_less" = some (some (.ref f17))) (l17 : K.lookup f17 = some ⟨oc17, od17, .func (PySem.W.fnOf "_law_less" "_law_less" (defArgs (topS 24)) (defBody (topS 24)) (defScope (topS 24)) .none kV17 dc17 pm17 an17 cd17 ct17), sl17⟩) (c17 : PySem.W.codeIn K cd17 "_law_less" = true) (k17 : PySem.W.keepIn K (.ref f17) = true)
    (a18 : PySem.W.nsIn K mainGlobals "_law_whole" = some (some (.ref f18))) (l18 : K.lookup f18 = some ⟨oc18, od18, .func (PySem.W.fnOf "_law_whole" "_law_whole" (defArgs (topS 25)) (defBody (topS 25)) (defScope (topS 25)) .none kV18 dc18 pm18 an18 cd18 ct18), sl18⟩) (c18 : PySem.W.codeIn K cd18 "_law_whole" = true) (k18 : PySem.W.keepIn K (.ref f18) = true)
    (a19 : PySem.W.nsIn K mainGlobals "_law_is_ratio" = some (some (.ref f19))) (l19 : K.lookup f19 = some ⟨oc19, od19, .func (PySem.W.fnOf "_law_is_ratio" "_law_is_ratio" (defArgs (topS 26)) (defBody (topS 26)) (defScope (topS 26)) .none kV19 dc19 pm19 an19 cd19 ct19), sl19⟩) (c19 : PySem.W.codeIn K cd19 "_law_is_ratio" = true) (k19 : PySem.W.keepIn K (.ref f19) = true)
    (a20 : PySem.W.nsIn K mainGlobals "_law_some" = some (some (.ref f20))) (l20 : K.lookup f20 = some ⟨oc20, od20, .func (PySem.W.fnOf "_law_some" "_law_some" (defArgs (topS 27)) (defBody (topS 27)) (defScope (topS 27)) .none kV20 dc20 pm20 an20 cd20 ct20), sl20⟩) (c20 : PySem.W.codeIn K cd20 "_law_some" = true) (k20 : PySem.W.keepIn K (.ref f20) = true)
    (a21 : PySem.W.nsIn K mainGlobals "_law_quotient" = some (some (.ref f21))) (l21 : K.lookup f21 = some ⟨oc21, od21, .func (PySem.W.fnOf "_law_quotient" "_law_quotient" (defArgs (topS 28)) (defBody (topS 28)) (defScope (topS 28)) .none kV21 dc21 pm21 an21 cd21 ct21), sl21⟩) (c21 : PySem.W.codeIn K cd21 "_law_quotient" = true) (k21 : PySem.W.keepIn K (.ref f21) = true)
    (a22 : PySem.W.nsIn K mainGlobals "law" = some (some (.ref f22))) (l22 : K.lookup f22 = some ⟨oc22, od22, .func (PySem.W.fnOf "law" "law" (defArgs (topS 29)) (defBody (topS 29)) (defScope (topS 29)) .none kV22 dc22 pm22 an22 cd22 ct22), sl22⟩) (c22 : PySem.W.codeIn K cd22 "law" = true) (k22 : PySem.W.keepIn K (.ref f22) = true)
    (z0 : PySem.W.nsIn K mainGlobals "len" = some none)
    (z1 : PySem.W.nsIn K mainGlobals "abs" = some none)
    (z2 : PySem.W.nsIn K mainGlobals "all" = some none)
    (z3 : PySem.W.nsIn K mainGlobals "any" = some none)
    (z4 : PySem.W.nsIn K mainGlobals "sum" = some none)
    (z5 : PySem.W.nsIn K mainGlobals "max" = some none)
    (z6 : PySem.W.nsIn K mainGlobals "min" = some none)
    (z7 : PySem.W.nsIn K mainGlobals "tuple" = some none)
    (z8 : PySem.W.nsIn K mainGlobals "repr" = some none)
    (z9 : PySem.W.nsIn K mainGlobals "str" = some none)
    (z10 : PySem.W.nsIn K mainGlobals "int" = some none)
    (z11 : PySem.W.nsIn K mainGlobals "isinstance" = some none)
    (z12 : PySem.W.nsIn K mainGlobals "range" = some none)
    (z13 : PySem.W.nsIn K mainGlobals "zip" = some none)
    (z14 : PySem.W.nsIn K mainGlobals "list" = some none)
    (z15 : PySem.W.nsIn K mainGlobals "bool" = some none)
    (z16 : PySem.W.nsIn K mainGlobals "enumerate" = some none)
    (z17 : PySem.W.nsIn K mainGlobals "reversed" = some none)
    (z18 : PySem.W.nsIn K mainGlobals "sorted" = some none)
    (z19 : PySem.W.nsIn K mainGlobals "dict" = some none)
    (zv : PySem.W.nsIn K mainGlobals "ValueError" = some none)
    (cx0 : PySem.W.nsIn K mainGlobals "ZeroError" = some (some (.ref ca0)))
    (cx1 : PySem.W.nsIn K mainGlobals "NoRatio" = some (some (.ref ca1)))
    (cx2 : PySem.W.nsIn K mainGlobals "NoText" = some (some (.ref ca2)))
    (cx3 : PySem.W.nsIn K mainGlobals "NoRow" = some (some (.ref ca3)))
    (ce0 : PySem.W.excIn K ca0 [.type "ValueError", .type "Exception", .type "BaseException", .type "object"] "ValueError.__new__" = true) (ck0 : PySem.W.keepIn K (.ref ca0) = true) (cs0 : PySem.W.subIn K (.ref ca0) (.type "BaseException") = some true) (ct0 : PySem.W.typeIn K (.ref ca0) = some (.type "type"))
    (hg0 : PySem.W.findIn K (.ref ca0) "__getattribute__" = some (some (.builtin "BaseException.__getattribute__"))) (hk0 : PySem.W.findIn K (.ref ca0) "__getattr__" = some none) (hs0 : PySem.W.subIn K (.ref ca0) (.type "BaseException") = some true) (hd0 : PySem.W.hasDictIn K ca0 = true) (ha0 : PySem.W.findIn K (.ref ca0) "__class__" = some (some (.builtin "object.__class__"))) (hn0 : PySem.W.specialIn K (.builtin "object.__class__") "__get__" = some (some (.builtin "getset_descriptor.__get__"))) (ht0 : PySem.W.takesIn K (.builtin "object.__class__") = some true) (hm0 : PySem.W.mroIn K ca0 (.type "object") = some true)
    (so0_0 : PySem.W.subIn K (.ref ca0) (.type "ValueError") = some true)
    (so0_1 : PySem.W.subIn K (.ref ca0) (.ref ca0) = some true)
    (so0_2 : PySem.W.subIn K (.ref ca0) (.ref ca1) = some false)
    (so0_3 : PySem.W.subIn K (.ref ca0) (.ref ca2) = some false)
    (so0_4 : PySem.W.subIn K (.ref ca0) (.ref ca3) = some false)
    (ce1 : PySem.W.excIn K ca1 [.type "ValueError", .type "Exception", .type "BaseException", .type "object"] "ValueError.__new__" = true) (ck1 : PySem.W.keepIn K (.ref ca1) = true) (cs1 : PySem.W.subIn K (.ref ca1) (.type "BaseException") = some true) (ct1 : PySem.W.typeIn K (.ref ca1) = some (.type "type"))
    (hg1 : PySem.W.findIn K (.ref ca1) "__getattribute__" = some (some (.builtin "BaseException.__getattribute__"))) (hk1 : PySem.W.findIn K (.ref ca1) "__getattr__" = some none) (hs1 : PySem.W.subIn K (.ref ca1) (.type "BaseException") = some true) (hd1 : PySem.W.hasDictIn K ca1 = true) (ha1 : PySem.W.findIn K (.ref ca1) "__class__" = some (some (.builtin "object.__class__"))) (hn1 : PySem.W.specialIn K (.builtin "object.__class__") "__get__" = some (some (.builtin "getset_descriptor.__get__"))) (ht1 : PySem.W.takesIn K (.builtin "object.__class__") = some true) (hm1 : PySem.W.mroIn K ca1 (.type "object") = some true)
    (so1_0 : PySem.W.subIn K (.ref ca1) (.type "ValueError") = some true)
    (so1_1 : PySem.W.subIn K (.ref ca1) (.ref ca0) = some true)
    (so1_2 : PySem.W.subIn K (.ref ca1) (.ref ca1) = some true)
    (so1_3 : PySem.W.subIn K (.ref ca1) (.ref ca2) = some false)
    (so1_4 : PySem.W.subIn K (.ref ca1) (.ref ca3) = some false)
    (ce2 : PySem.W.excIn K ca2 [.type "ValueError", .type "Exception", .type "BaseException", .type "object"] "ValueError.__new__" = true) (ck2 : PySem.W.keepIn K (.ref ca2) = true) (cs2 : PySem.W.subIn K (.ref ca2) (.type "BaseException") = some true) (ct2 : PySem.W.typeIn K (.ref ca2) = some (.type "type"))
    (hg2 : PySem.W.findIn K (.ref ca2) "__getattribute__" = some (some (.builtin "BaseException.__getattribute__"))) (hk2 : PySem.W.findIn K (.ref ca2) "__getattr__" = some none) (hs2 : PySem.W.subIn K (.ref ca2) (.type "BaseException") = some true) (hd2 : PySem.W.hasDictIn K ca2 = true) (ha2 : PySem.W.findIn K (.ref ca2) "__class__" = some (some (.builtin "object.__class__"))) (hn2 : PySem.W.specialIn K (.builtin "object.__class__") "__get__" = some (some (.builtin "getset_descriptor.__get__"))) (ht2 : PySem.W.takesIn K (.builtin "object.__class__") = some true) (hm2 : PySem.W.mroIn K ca2 (.type "object") = some true)
    (so2_0 : PySem.W.subIn K (.ref ca2) (.type "ValueError") = some true)
    (so2_1 : PySem.W.subIn K (.ref ca2) (.ref ca0) = some true)
    (so2_2 : PySem.W.subIn K (.ref ca2) (.ref ca1) = some false)
    (so2_3 : PySem.W.subIn K (.ref ca2) (.ref ca2) = some true)
    (so2_4 : PySem.W.subIn K (.ref ca2) (.ref ca3) = some false)
    (ce3 : PySem.W.excIn K ca3 [.type "ValueError", .type "Exception", .type "BaseException", .type "object"] "ValueError.__new__" = true) (ck3 : PySem.W.keepIn K (.ref ca3) = true) (cs3 : PySem.W.subIn K (.ref ca3) (.type "BaseException") = some true) (ct3 : PySem.W.typeIn K (.ref ca3) = some (.type "type"))
    (hg3 : PySem.W.findIn K (.ref ca3) "__getattribute__" = some (some (.builtin "BaseException.__getattribute__"))) (hk3 : PySem.W.findIn K (.ref ca3) "__getattr__" = some none) (hs3 : PySem.W.subIn K (.ref ca3) (.type "BaseException") = some true) (hd3 : PySem.W.hasDictIn K ca3 = true) (ha3 : PySem.W.findIn K (.ref ca3) "__class__" = some (some (.builtin "object.__class__"))) (hn3 : PySem.W.specialIn K (.builtin "object.__class__") "__get__" = some (some (.builtin "getset_descriptor.__get__"))) (ht3 : PySem.W.takesIn K (.builtin "object.__class__") = some true) (hm3 : PySem.W.mroIn K ca3 (.type "object") = some true)
    (so3_0 : PySem.W.subIn K (.ref ca3) (.type "ValueError") = some true)
    (so3_1 : PySem.W.subIn K (.ref ca3) (.ref ca0) = some true)
    (so3_2 : PySem.W.subIn K (.ref ca3) (.ref ca1) = some false)
    (so3_3 : PySem.W.subIn K (.ref ca3) (.ref ca2) = some false)
    (so3_4 : PySem.W.subIn K (.ref ca3) (.ref ca3) = some true)
    : Prg l.prog w K mg fns gls := by
  have F0 := fun_mk (st := topS 6) l0 c0 k0
  have b0 := F0.binds (ps := ["thing"]) fun _ _ _ _ _ _ us hl => match us, hl with | [_], _ => rfl
  have F1 := fun_mk (st := topS 7) l1 c1 k1
  have b1 := F1.binds (ps := ["one", "other"]) fun _ _ _ _ _ _ us hl => match us, hl with | [_, _], _ => rfl
  have F2 := fun_mk (st := topS 8) l2 c2 k2
  have b2 := F2.binds (ps := ["thing"]) fun _ _ _ _ _ _ us hl => match us, hl with | [_], _ => rfl
  have F3 := fun_mk (st := topS 9) l3 c3 k3
  have b3 := F3.binds (ps := ["top", "bottom"]) fun _ _ _ _ _ _ us hl => match us, hl with | [_, _], _ => rfl
  have F4 := fun_mk (st := topS 10) l4 c4 k4
  have b4 := F4.binds (ps := ["one", "other"]) fun _ _ _ _ _ _ us hl => match us, hl with | [_, _], _ => rfl
  have F5 := fun_mk (st := topS 11) l5 c5 k5
  have b5 := F5.binds (ps := ["one", "other"]) fun _ _ _ _ _ _ us hl => match us, hl with | [_, _], _ => rfl
  have F6 := fun_mk (st := topS 12) l6 c6 k6
  have b6 := F6.binds (ps := ["one", "other"]) fun _ _ _ _ _ _ us hl => match us, hl with | [_, _], _ => rfl
  have F7 := fun_mk (st := topS 13) l7 c7 k7
  have b7 := F7.binds (ps := ["one", "other"]) fun _ _ _ _ _ _ us hl => match us, hl with | [_, _], _ => rfl
  have F8 := fun_mk (st := topS 14) l8 c8 k8
  have b8 := F8.binds (ps := ["one", "other"]) fun _ _ _ _ _ _ us hl => match us, hl with | [_, _], _ => rfl
  have F9 := fun_mk (st := topS 16) l9 c9 k9
  have b9 := F9.binds (ps := ["_law_script"]) fun _ _ _ _ _ _ us hl => match us, hl with | [_], _ => rfl
  have F10 := fun_mk (st := topS 17) l10 c10 k10
  have b10 := F10.binds (ps := ["_law_tape_here", "_law_many"]) fun _ _ _ _ _ _ us hl => match us, hl with | [_, _], _ => rfl
  have F11 := fun_mk (st := topS 18) l11 c11 k11
  have b11 := F11.binds (ps := ["_law_one", "_law_other"]) fun _ _ _ _ _ _ us hl => match us, hl with | [_, _], _ => rfl
  have F12 := fun_mk (st := topS 19) l12 c12 k12
  have b12 := F12.binds (ps := ["_law_top", "_law_bottom"]) fun _ _ _ _ _ _ us hl => match us, hl with | [_, _], _ => rfl
  have F13 := fun_mk (st := topS 20) l13 c13 k13
  have b13 := F13.binds (ps := ["_law_one", "_law_other"]) fun _ _ _ _ _ _ us hl => match us, hl with | [_, _], _ => rfl
  have F14 := fun_mk (st := topS 21) l14 c14 k14
  have b14 := F14.binds (ps := ["_law_one", "_law_other"]) fun _ _ _ _ _ _ us hl => match us, hl with | [_, _], _ => rfl
  have F15 := fun_mk (st := topS 22) l15 c15 k15
  have b15 := F15.binds (ps := ["_law_one", "_law_other"]) fun _ _ _ _ _ _ us hl => match us, hl with | [_, _], _ => rfl
  have F16 := fun_mk (st := topS 23) l16 c16 k16
  have b16 := F16.binds (ps := ["_law_one", "_law_other"]) fun _ _ _ _ _ _ us hl => match us, hl with | [_, _], _ => rfl
  have F17 := fun_mk (st := topS 24) l17 c17 k17
  have b17 := F17.binds (ps := ["_law_one", "_law_other"]) fun _ _ _ _ _ _ us hl => match us, hl with | [_, _], _ => rfl
  have F18 := fun_mk (st := topS 25) l18 c18 k18
  have b18 := F18.binds (ps := ["_law_thing"]) fun _ _ _ _ _ _ us hl => match us, hl with | [_], _ => rfl
  have F19 := fun_mk (st := topS 26) l19 c19 k19
  have b19 := F19.binds (ps := ["_law_thing"]) fun _ _ _ _ _ _ us hl => match us, hl with | [_], _ => rfl
  have F20 := fun_mk (st := topS 27) l20 c20 k20
  have b20 := F20.binds (ps := ["_law_tape_here"]) fun _ _ _ _ _ _ us hl => match us, hl with | [_], _ => rfl
  have F21 := fun_mk (st := topS 28) l21 c21 k21
  have b21 := F21.binds (ps := ["_law_one", "_law_other"]) fun _ _ _ _ _ _ us hl => match us, hl with | [_, _], _ => rfl
  have F22 := fun_mk (st := topS 29) l22 c22 k22
  have b22 := F22.binds (ps := ["_law_script"]) fun _ _ _ _ _ _ us hl => match us, hl with | [_], _ => rfl
  refine ⟨fun f fn hf => ?_, fun x hx => ?_, fun x d hd hc => ?_, fun x d k sups hd hc => ?_⟩
  · match f, hf with
    | 0, hf => cases hf; exact ⟨topS 6, f0, _, F0, PySem.W.mg_of X G a0, b0, ok_is_count⟩
    | 1, hf => cases hf; exact ⟨topS 7, f1, _, F1, PySem.W.mg_of X G a1, b1, ok_shared⟩
    | 2, hf => cases hf; exact ⟨topS 8, f2, _, F2, PySem.W.mg_of X G a2, b2, ok_is_ratio⟩
    | 3, hf => cases hf; exact ⟨topS 9, f3, _, F3, PySem.W.mg_of X G a3, b3, ok_ratio⟩
    | 4, hf => cases hf; exact ⟨topS 10, f4, _, F4, PySem.W.mg_of X G a4, b4, ok_plus⟩
    | 5, hf => cases hf; exact ⟨topS 11, f5, _, F5, PySem.W.mg_of X G a5, b5, ok_minus⟩
    | 6, hf => cases hf; exact ⟨topS 12, f6, _, F6, PySem.W.mg_of X G a6, b6, ok_times⟩
    | 7, hf => cases hf; exact ⟨topS 13, f7, _, F7, PySem.W.mg_of X G a7, b7, ok_over⟩
    | 8, hf => cases hf; exact ⟨topS 14, f8, _, F8, PySem.W.mg_of X G a8, b8, ok_is_less⟩
    | 9, hf => cases hf; exact ⟨topS 16, f9, _, F9, PySem.W.mg_of X G a9, b9, ok_law_tape⟩
    | 10, hf => cases hf; exact ⟨topS 17, f10, _, F10, PySem.W.mg_of X G a10, b10, ok_law_draw⟩
    | 11, hf => cases hf; exact ⟨topS 18, f11, _, F11, PySem.W.mg_of X G a11, b11, ok_law_gcd⟩
    | 12, hf => cases hf; exact ⟨topS 19, f12, _, F12, PySem.W.mg_of X G a12, b12, ok_law_ratio⟩
    | 13, hf => cases hf; exact ⟨topS 20, f13, _, F13, PySem.W.mg_of X G a13, b13, ok_law_plus⟩
    | 14, hf => cases hf; exact ⟨topS 21, f14, _, F14, PySem.W.mg_of X G a14, b14, ok_law_minus⟩
    | 15, hf => cases hf; exact ⟨topS 22, f15, _, F15, PySem.W.mg_of X G a15, b15, ok_law_times⟩
    | 16, hf => cases hf; exact ⟨topS 23, f16, _, F16, PySem.W.mg_of X G a16, b16, ok_law_over⟩
    | 17, hf => cases hf; exact ⟨topS 24, f17, _, F17, PySem.W.mg_of X G a17, b17, ok_law_less⟩
    | 18, hf => cases hf; exact ⟨topS 25, f18, _, F18, PySem.W.mg_of X G a18, b18, ok_law_whole⟩
    | 19, hf => cases hf; exact ⟨topS 26, f19, _, F19, PySem.W.mg_of X G a19, b19, ok_law_is_ratio⟩
    | 20, hf => cases hf; exact ⟨topS 27, f20, _, F20, PySem.W.mg_of X G a20, b20, ok_law_some⟩
    | 21, hf => cases hf; exact ⟨topS 28, f21, _, F21, PySem.W.mg_of X G a21, b21, ok_law_quotient⟩
    | 22, hf => cases hf; exact ⟨topS 29, f22, _, F22, PySem.W.mg_of X G a22, b22, ok_law⟩
    | n + 23, hf => exact absurd hf (by simp [fns])
  · simp only [bltNames, List.mem_cons, List.not_mem_nil, or_false] at hx
    rcases hx with rfl | rfl | rfl | rfl | rfl | rfl | rfl | rfl | rfl | rfl | rfl | rfl | rfl | rfl | rfl | rfl | rfl | rfl | rfl | rfl
    · exact PySem.W.mg_none_of X G z0
    · exact PySem.W.mg_none_of X G z1
    · exact PySem.W.mg_none_of X G z2
    · exact PySem.W.mg_none_of X G z3
    · exact PySem.W.mg_none_of X G z4
    · exact PySem.W.mg_none_of X G z5
    · exact PySem.W.mg_none_of X G z6
    · exact PySem.W.mg_none_of X G z7
    · exact PySem.W.mg_none_of X G z8
    · exact PySem.W.mg_none_of X G z9
    · exact PySem.W.mg_none_of X G z10
    · exact PySem.W.mg_none_of X G z11
    · exact PySem.W.mg_none_of X G z12
    · exact PySem.W.mg_none_of X G z13
    · exact PySem.W.mg_none_of X G z14
    · exact PySem.W.mg_none_of X G z15
    · exact PySem.W.mg_none_of X G z16
    · exact PySem.W.mg_none_of X G z17
    · exact PySem.W.mg_none_of X G z18
    · exact PySem.W.mg_none_of X G z19
  · unfold gls at hd
    simp only [List.lookup] at hd
    split at hd
    · cases hd; cases hc
    split at hd
    · cases hd; cases hc
    split at hd
    · cases hd; cases hc
    split at hd
    · cases hd; cases hc
    cases hd
  · unfold gls at hd
    simp only [List.lookup] at hd
    split at hd
    · rename_i e; rw [beq_iff_eq] at e; subst e; cases hd; cases hc
      refine ⟨ca0, PySem.W.mg_of X G cx0, ⟨ce0, ck0, cs0, ct0, ⟨hg0, hk0, hs0, hd0, ha0, hn0, ht0, hm0⟩⟩, fun y hy => ?_⟩
      have hy : y ∈ (["ValueError", "ZeroError", "NoRatio", "NoText", "NoRow"] : List Str) := hy
      simp only [List.mem_cons, List.not_mem_nil, or_false] at hy
      rcases hy with rfl | rfl | rfl | rfl | rfl
      · exact ⟨.type "ValueError", ⟨.inr ⟨PySem.W.mg_none_of X G zv, rfl, by decide⟩, .inr ⟨_, rfl⟩⟩, (kit_ty' (by decide) so0_0).trans (by decide +kernel), (exm_ty' (by rfl) (by decide) so0_0).trans (by decide +kernel)⟩
      · exact ⟨.ref ca0, ⟨.inl (PySem.W.mg_of X G cx0), .inl ⟨_, rfl⟩⟩, (kit_ref' hd0 ct0 so0_1 so0_1).trans (by decide +kernel), (PySem.W.exm_ref cs0 hd0 ct0 so0_1).trans (by decide +kernel)⟩
      · exact ⟨.ref ca1, ⟨.inl (PySem.W.mg_of X G cx1), .inl ⟨_, rfl⟩⟩, (kit_ref' hd1 ct1 so1_2 so0_2).trans (by decide +kernel), (PySem.W.exm_ref cs1 hd1 ct1 so0_2).trans (by decide +kernel)⟩
      · exact ⟨.ref ca2, ⟨.inl (PySem.W.mg_of X G cx2), .inl ⟨_, rfl⟩⟩, (kit_ref' hd2 ct2 so2_3 so0_3).trans (by decide +kernel), (PySem.W.exm_ref cs2 hd2 ct2 so0_3).trans (by decide +kernel)⟩
      · exact ⟨.ref ca3, ⟨.inl (PySem.W.mg_of X G cx3), .inl ⟨_, rfl⟩⟩, (kit_ref' hd3 ct3 so3_4 so0_4).trans (by decide +kernel), (PySem.W.exm_ref cs3 hd3 ct3 so0_4).trans (by decide +kernel)⟩
    split at hd
    · rename_i e; rw [beq_iff_eq] at e; subst e; cases hd; cases hc
      refine ⟨ca1, PySem.W.mg_of X G cx1, ⟨ce1, ck1, cs1, ct1, ⟨hg1, hk1, hs1, hd1, ha1, hn1, ht1, hm1⟩⟩, fun y hy => ?_⟩
      have hy : y ∈ (["ValueError", "ZeroError", "NoRatio", "NoText", "NoRow"] : List Str) := hy
      simp only [List.mem_cons, List.not_mem_nil, or_false] at hy
      rcases hy with rfl | rfl | rfl | rfl | rfl
      · exact ⟨.type "ValueError", ⟨.inr ⟨PySem.W.mg_none_of X G zv, rfl, by decide⟩, .inr ⟨_, rfl⟩⟩, (kit_ty' (by decide) so1_0).trans (by decide +kernel), (exm_ty' (by rfl) (by decide) so1_0).trans (by decide +kernel)⟩
      · exact ⟨.ref ca0, ⟨.inl (PySem.W.mg_of X G cx0), .inl ⟨_, rfl⟩⟩, (kit_ref' hd0 ct0 so0_1 so1_1).trans (by decide +kernel), (PySem.W.exm_ref cs0 hd0 ct0 so1_1).trans (by decide +kernel)⟩
      · exact ⟨.ref ca1, ⟨.inl (PySem.W.mg_of X G cx1), .inl ⟨_, rfl⟩⟩, (kit_ref' hd1 ct1 so1_2 so1_2).trans (by decide +kernel), (PySem.W.exm_ref cs1 hd1 ct1 so1_2).trans (by decide +kernel)⟩
      · exact ⟨.ref ca2, ⟨.inl (PySem.W.mg_of X G cx2), .inl ⟨_, rfl⟩⟩, (kit_ref' hd2 ct2 so2_3 so1_3).trans (by decide +kernel), (PySem.W.exm_ref cs2 hd2 ct2 so1_3).trans (by decide +kernel)⟩
      · exact ⟨.ref ca3, ⟨.inl (PySem.W.mg_of X G cx3), .inl ⟨_, rfl⟩⟩, (kit_ref' hd3 ct3 so3_4 so1_4).trans (by decide +kernel), (PySem.W.exm_ref cs3 hd3 ct3 so1_4).trans (by decide +kernel)⟩
    split at hd
    · rename_i e; rw [beq_iff_eq] at e; subst e; cases hd; cases hc
      refine ⟨ca2, PySem.W.mg_of X G cx2, ⟨ce2, ck2, cs2, ct2, ⟨hg2, hk2, hs2, hd2, ha2, hn2, ht2, hm2⟩⟩, fun y hy => ?_⟩
      have hy : y ∈ (["ValueError", "ZeroError", "NoRatio", "NoText", "NoRow"] : List Str) := hy
      simp only [List.mem_cons, List.not_mem_nil, or_false] at hy
      rcases hy with rfl | rfl | rfl | rfl | rfl
      · exact ⟨.type "ValueError", ⟨.inr ⟨PySem.W.mg_none_of X G zv, rfl, by decide⟩, .inr ⟨_, rfl⟩⟩, (kit_ty' (by decide) so2_0).trans (by decide +kernel), (exm_ty' (by rfl) (by decide) so2_0).trans (by decide +kernel)⟩
      · exact ⟨.ref ca0, ⟨.inl (PySem.W.mg_of X G cx0), .inl ⟨_, rfl⟩⟩, (kit_ref' hd0 ct0 so0_1 so2_1).trans (by decide +kernel), (PySem.W.exm_ref cs0 hd0 ct0 so2_1).trans (by decide +kernel)⟩
      · exact ⟨.ref ca1, ⟨.inl (PySem.W.mg_of X G cx1), .inl ⟨_, rfl⟩⟩, (kit_ref' hd1 ct1 so1_2 so2_2).trans (by decide +kernel), (PySem.W.exm_ref cs1 hd1 ct1 so2_2).trans (by decide +kernel)⟩
      · exact ⟨.ref ca2, ⟨.inl (PySem.W.mg_of X G cx2), .inl ⟨_, rfl⟩⟩, (kit_ref' hd2 ct2 so2_3 so2_3).trans (by decide +kernel), (PySem.W.exm_ref cs2 hd2 ct2 so2_3).trans (by decide +kernel)⟩
      · exact ⟨.ref ca3, ⟨.inl (PySem.W.mg_of X G cx3), .inl ⟨_, rfl⟩⟩, (kit_ref' hd3 ct3 so3_4 so2_4).trans (by decide +kernel), (PySem.W.exm_ref cs3 hd3 ct3 so2_4).trans (by decide +kernel)⟩
    split at hd
    · rename_i e; rw [beq_iff_eq] at e; subst e; cases hd; cases hc
      refine ⟨ca3, PySem.W.mg_of X G cx3, ⟨ce3, ck3, cs3, ct3, ⟨hg3, hk3, hs3, hd3, ha3, hn3, ht3, hm3⟩⟩, fun y hy => ?_⟩
      have hy : y ∈ (["ValueError", "ZeroError", "NoRatio", "NoText", "NoRow"] : List Str) := hy
      simp only [List.mem_cons, List.not_mem_nil, or_false] at hy
      rcases hy with rfl | rfl | rfl | rfl | rfl
      · exact ⟨.type "ValueError", ⟨.inr ⟨PySem.W.mg_none_of X G zv, rfl, by decide⟩, .inr ⟨_, rfl⟩⟩, (kit_ty' (by decide) so3_0).trans (by decide +kernel), (exm_ty' (by rfl) (by decide) so3_0).trans (by decide +kernel)⟩
      · exact ⟨.ref ca0, ⟨.inl (PySem.W.mg_of X G cx0), .inl ⟨_, rfl⟩⟩, (kit_ref' hd0 ct0 so0_1 so3_1).trans (by decide +kernel), (PySem.W.exm_ref cs0 hd0 ct0 so3_1).trans (by decide +kernel)⟩
      · exact ⟨.ref ca1, ⟨.inl (PySem.W.mg_of X G cx1), .inl ⟨_, rfl⟩⟩, (kit_ref' hd1 ct1 so1_2 so3_2).trans (by decide +kernel), (PySem.W.exm_ref cs1 hd1 ct1 so3_2).trans (by decide +kernel)⟩
      · exact ⟨.ref ca2, ⟨.inl (PySem.W.mg_of X G cx2), .inl ⟨_, rfl⟩⟩, (kit_ref' hd2 ct2 so2_3 so3_3).trans (by decide +kernel), (PySem.W.exm_ref cs2 hd2 ct2 so3_3).trans (by decide +kernel)⟩
      · exact ⟨.ref ca3, ⟨.inl (PySem.W.mg_of X G cx3), .inl ⟨_, rfl⟩⟩, (kit_ref' hd3 ct3 so3_4 so3_4).trans (by decide +kernel), (PySem.W.exm_ref cs3 hd3 ct3 so3_4).trans (by decide +kernel)⟩
    cases hd
end K01
open PySem PySem.W PyProof.Rows
set_option maxHeartbeats 0 in
theorem PySem.Challenge.cw_commonzeros_k01_ratios_holds : PySem.Challenge.rw_commonzeros_k01_ratios.Holds := by
  w_on; o_law; k_head; (case hw => w_witness2)
  k_fill
  refine Mn.walk_mn (l := PySem.Challenge.rw_commonzeros_k01_ratios) (n := 63) (k := 12) (x := "_law_script") (fns := K01.fns) (gls := K01.gls) (Wn := Mn.Wb) (li := 22) (fn := (K01.f_law_10 9 20 10 2 19 12 21 3 15 14 13 16 6 5 4 8 17)) rfl (by decide) rfl ⟨rfl, by decide, by decide⟩ (fun w h Y => PySem.W.kIn_of Y) rfl rfl rfl ?G ?S
  case G =>
    intro w mg h KX G
    refine' K01.prg KX G ?a0 ?l0 ?c0 ?k0 ?a1 ?l1 ?c1 ?k1 ?a2 ?l2 ?c2 ?k2 ?a3 ?l3 ?c3 ?k3 ?a4 ?l4 ?c4 ?k4 ?a5 ?l5 ?c5 ?k5 ?a6 ?l6 ?c6 ?k6 ?a7 ?l7 ?c7 ?k7 ?a8 ?l8 ?c8 ?k8 ?a9 ?l9 ?c9 ?k9 ?a10 ?l10 ?c10 ?k10 ?a11 ?l11 ?c11 ?k11 ?a12 ?l12 ?c12 ?k12 ?a13 ?l13 ?c13 ?k13 ?a14 ?l14 ?c14 ?k14 ?a15 ?l15 ?c15 ?k15 ?a16 ?l16 ?c16 ?k16 ?a17 ?l17 ?c17 ?k17 ?a18 ?l18 ?c18 ?k18 ?a19 ?l19 ?c19 ?k19 ?a20 ?l20 ?c20 ?k20 ?a21 ?l21 ?c21 ?k21 ?a22 ?l22 ?c22 ?k22 ?z0 ?z1 ?z2 ?z3 ?z4 ?z5 ?z6 ?z7 ?z8 ?z9 ?z10 ?z11 ?z12 ?z13 ?z14 ?z15 ?z16 ?z17 ?z18 ?z19 ?zv ?cx0 ?cx1 ?cx2 ?cx3 ?ce0 ?ck0 ?cs0 ?ct0 ?hg0 ?hk0 ?hs0 ?hd0 ?ha0 ?hn0 ?ht0 ?hm0 ?so0_0 ?so0_1 ?so0_2 ?so0_3 ?so0_4 ?ce1 ?ck1 ?cs1 ?ct1 ?hg1 ?hk1 ?hs1 ?hd1 ?ha1 ?hn1 ?ht1 ?hm1 ?so1_0 ?so1_1 ?so1_2 ?so1_3 ?so1_4 ?ce2 ?ck2 ?cs2 ?ct2 ?hg2 ?hk2 ?hs2 ?hd2 ?ha2 ?hn2 ?ht2 ?hm2 ?so2_0 ?so2_1 ?so2_2 ?so2_3 ?so2_4 ?ce3 ?ck3 ?cs3 ?ct3 ?hg3 ?hk3 ?hs3 ?hd3 ?ha3 ?hn3 ?ht3 ?hm3 ?so3_0 ?so3_1 ?so3_2 ?so3_3 ?so3_4
    (case a0 => k_is); (case l0 => k_is); (case c0 => k_is); (case k0 => k_is); (case a1 => k_is); (case l1 => k_is); (case c1 => k_is); (case k1 => k_is); (case a2 => k_is); (case l2 => k_is); (case c2 => k_is); (case k2 => k_is); (case a3 => k_is); (case l3 => k_is); (case c3 => k_is); (case k3 => k_is); (case a4 => k_is); (case l4 => k_is); (case c4 => k_is); (case k4 => k_is); (case a5 => k_is); (case l5 => k_is); (case c5 => k_is); (case k5 => k_is); (case a6 => k_is); (case l6 => k_is); (case c6 => k_is); (case k6 => k_is); (case a7 => k_is); (case l7 => k_is); (case c7 => k_is); (case k7 => k_is); (case a8 => k_is); (case l8 => k_is); (case c8 => k_is); (case k8 => k_is); (case a9 => k_is); (case l9 => k_is); (case c9 => k_is); (case k9 => k_is); (case a10 => k_is); (case l10 => k_is); (case c10 => k_is); (case k10 => k_is); (case a11 => k_is); (case l11 => k_is); (case c11 => k_is); (case k11 => k_is); (case a12 => k_is); (case l12 => k_is); (case c12 => k_is); (case k12 => k_is); (case a13 => k_is); (case l13 => k_is); (case c13 => k_is); (case k13 => k_is); (case a14 => k_is); (case l14 => k_is); (case c14 => k_is); (case k14 => k_is); (case a15 => k_is); (case l15 => k_is); (case c15 => k_is); (case k15 => k_is); (case a16 => k_is); (case l16 => k_is); (case c16 => k_is); (case k16 => k_is); (case a17 => k_is); (case l17 => k_is); (case c17 => k_is); (case k17 => k_is); (case a18 => k_is); (case l18 => k_is); (case c18 => k_is); (case k18 => k_is); (case a19 => k_is); (case l19 => k_is); (case c19 => k_is); (case k19 => k_is); (case a20 => k_is); (case l20 => k_is); (case c20 => k_is); (case k20 => k_is); (case a21 => k_is); (case l21 => k_is); (case c21 => k_is); (case k21 => k_is); (case a22 => k_is); (case l22 => k_is); (case c22 => k_is); (case k22 => k_is); (case z0 => k_is); (case z1 => k_is); (case z2 => k_is); (case z3 => k_is); (case z4 => k_is); (case z5 => k_is); (case z6 => k_is); (case z7 => k_is); (case z8 => k_is); (case z9 => k_is); (case z10 => k_is); (case z11 => k_is); (case z12 => k_is); (case z13 => k_is); (case z14 => k_is); (case z15 => k_is); (case z16 => k_is); (case z17 => k_is); (case z18 => k_is); (case z19 => k_is); (case zv => k_is); (case cx0 => k_is); (case cx1 => k_is); (case cx2 => k_is); (case cx3 => k_is); (case ce0 => k_exc); (case ck0 => k_is); (case cs0 => k_is); (case ct0 => k_is); (case hg0 => k_is); (case hk0 => k_is); (case hs0 => k_is); (case hd0 => k_is); (case ha0 => k_is); (case hn0 => k_is); (case ht0 => k_is); (case hm0 => k_is); (case so0_0 => k_is); (case so0_1 => k_is); (case so0_2 => k_is); (case so0_3 => k_is); (case so0_4 => k_is); (case ce1 => k_exc); (case ck1 => k_is); (case cs1 => k_is); (case ct1 => k_is); (case hg1 => k_is); (case hk1 => k_is); (case hs1 => k_is); (case hd1 => k_is); (case ha1 => k_is); (case hn1 => k_is); (case ht1 => k_is); (case hm1 => k_is); (case so1_0 => k_is); (case so1_1 => k_is); (case so1_2 => k_is); (case so1_3 => k_is); (case so1_4 => k_is); (case ce2 => k_exc); (case ck2 => k_is); (case cs2 => k_is); (case ct2 => k_is); (case hg2 => k_is); (case hk2 => k_is); (case hs2 => k_is); (case hd2 => k_is); (case ha2 => k_is); (case hn2 => k_is); (case ht2 => k_is); (case hm2 => k_is); (case so2_0 => k_is); (case so2_1 => k_is); (case so2_2 => k_is); (case so2_3 => k_is); (case so2_4 => k_is); (case ce3 => k_exc); (case ck3 => k_is); (case cs3 => k_is); (case ct3 => k_is); (case hg3 => k_is); (case hk3 => k_is); (case hs3 => k_is); (case hd3 => k_is); (case ha3 => k_is); (case hn3 => k_is); (case ht3 => k_is); (case hm3 => k_is); (case so3_0 => k_is); (case so3_1 => k_is); (case so3_2 => k_is); (case so3_3 => k_is); (case so3_4 => k_is)
  case S => exact K01.all_true
