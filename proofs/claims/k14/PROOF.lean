import PyProof.Rows.All
import HandS.ForMost
import HandS.Exc
import HandS.Deep
import HandS.Wide
import HandS.TupAny
import HandS.Flow
import HandS.IsInst
import HandS.Zip
import HandS.ForExc
import HandS.StrMore
import PyProof.ListStr
import PyProof.StrOps2
import PyProof.SliceStr2
import KE.SortData
import HandS.Style
import HandS.Text
import HandS.RaiseMore
import HandS.Iter
import KE.KDictKeyed
import KE.KDictWalk
import HandS.Conv
import HandS.More
import KE.KIndexOf
import PyProof.ReprRoads
import KE.KDictPairs
import KE.GoesMore
import KE.GoesEnum
import PyProof.Draws
import HandS.DictTup
import HandS.TupLe
import KE.DataMinMax
import PyProof.DictMoreH
import KE.KEqDict
import KE.KDictSum
import HandS.WordsExc
import HandS.ExcIs
import HandS.SetFor
import KE.KUnpack
import PyProof.TupleOfSeq
import PyProof.Transfer
import HandS.TupMul
import PyProof.Rows.TupDisplay
import HandS.ExcInit
import HandS.ExcField
import HandS.TupSets
import PyProof.EqAt
import PyProof.NeKinds
import KE.SortKeyHeap
import HandS.Sort
import HandS.ExcValue
import KE.KDictCopyH
import KE.KDictOf
import HandS.TupLen
import HandS.Strs
import HandS.TryMany
import PyProof.DictFindH
import HandS.Codes
import PyProof.P3Eq
import PySem.Challenge.RW_stickytiles_k14_rows_of_anything
set_option Elab.async false
set_option linter.all false
set_option maxRecDepth 100000
set_option maxHeartbeats 0
namespace L3
open PySem PySem.Spec PyProof.Rows L2

/-! ### data -/
inductive D where
  | non | bl (b : Bool) | int (i : Int) | str (x : Str) | tup (ds : List D) | ktp (ds : List D) | lst (ds : List D) | frz (ds : List D) | loc (l : Nat)
  | exn (a : Nat) | exf (a dd : Nat) (f : Str) (i : Int) | exk (c : Str) (fl : Option (Str × Int))
/-- keys that are tuples of tuples of numbers -/
abbrev NK := List (List Int)
inductive Ob where
  | lst (ds : List D) | dK (kvs : List (Key × D)) | dT (kvs : List (List Key × D)) | dN (kvs : List (NK × D)) | ins (C : Str) (fs : List (Str × D)) | lck (o : Ob)
def nkD (k : NK) : D := .tup (k.map fun t => .tup (t.map D.int))
def nkHash (k : NK) : Int := reduceHash (Builtin.Tuple.tupleHashOf (k.map fun t => reduceHash (Builtin.Tuple.tupleHashOf (t.map hashInt))))
def entN (x : NK × Addr × Value) : DictEntry := ⟨nkHash x.1, .ref x.2.1, x.2.2⟩
/-- a dict with such keys, at a: its entries -/
def NdO (a : Addr) (xs : List (NK × Addr × Value)) : HO := .ext fun h => (a == sysModules) = false ∧ ∃ o es ep, h.get? a = some o ∧ o.ExactDict ∧ o.data = .dict es ep ∧ es.toList = xs.map entN
abbrev Store := List Ob
abbrev DSt := List (Option D)
inductive Res (α : Type) where
  | ok (a : α) (S : Store) | exc (c : Str) (fs : List (Str × D)) (S : Store) | stuck
def Res.bind {α β : Type} (r : Res α) (f : α → Store → Res β) : Res β := match r with
  | .ok a S => f a S
  | .exc c fs S => .exc c fs S
  | .stuck => .stuck
@[simp] theorem Res.bind_ok {α β : Type} (a : α) (S : Store) (f : α → Store → Res β) : (Res.ok a S).bind f = f a S := (rfl)
@[simp] theorem Res.bind_exc {α β : Type} (c : Str) (fs : List (Str × D)) (S : Store) (f : α → Store → Res β) : (Res.exc c fs S).bind f = .exc c fs S := (rfl)
@[simp] theorem Res.bind_stuck {α β : Type} (f : α → Store → Res β) : (Res.stuck : Res α).bind f = .stuck := (rfl)

/-! ### how data lies in the heap: M the mutable objects by number, B the lists that are being made -/
structure Wd where
  M : List Addr
  B : List Addr
def H0 : Hp := fun _ => none
theorem no_rd {a : Addr} {u : HO} : ¬ Rd H0 a u := fun h => by
  rcases h with h | ⟨o, h⟩ <;> cases h
section
variable (K : PySem.W.Frag) (w : Wd) (H : Hp)
def FzL (a : Addr) (xs : List V) : Prop := (a ∉ w.M ∧ a ∉ w.B ∧ Rd H a (.lst xs)) ∨ SqL K H0 a xs
def FzX (a : Addr) (xs : List V) : Prop := a ∉ w.M ∧ a ∉ w.B ∧ H a = some (.lst xs)
def FzT (a : Addr) (xs : List V) : Prop := a ∉ w.M ∧ a ∉ w.B ∧ H a = some (.tup xs)
/-- the field of an exception in hand, an exception that is kept -/
def FzE (a : Addr) (u : HO) : Prop := a ∉ w.M ∧ a ∉ w.B ∧ H a = some u
def KeptO (a : Addr) (cls : Value) (d : Option Addr) : HO := .ext fun h => ∃ oe vs, h.get? a = some oe ∧ L2.Zc cls d oe ∧ oe.data = .fields vs
def KeptD (a A : Addr) : Option (Str × Int) → Prop
  | none => FzE w H a (KeptO a (.ref A) none)
  | some (f, i) => ∃ d, FzE w H a (KeptO a (.ref A) (some d)) ∧ FzE w H d (.xd [(f, V.int i)])
/-- tuples that are known exactly: the module's, and made ones -/
def KcT (a : Addr) (xs : List V) : Prop := ∃ (o : Obj) (its : Array Value) (n : Nat), K.lookup a = some o ∧ o.cls = .type "tuple" ∧ o.dict = none ∧ o.data = .seq its n ∧ its.size ≤ sizeLine ∧ Vals xs its.toList
def PlT (a : Addr) (xs : List V) : Prop := a ∉ w.M ∧ a ∉ w.B ∧ ∃ (o : Obj) (its : Array Value) (n : Nat), H a = some (.frz o (.tup xs)) ∧ o.cls = .type "tuple" ∧ o.dict = none ∧ o.data = .seq its n
mutual
def Rep : D → V → Prop
  | .non, v => v = .non
  | .bl b, v => v = .bl b
  | .int i, v => v = .int i
  | .str x, v => v = .str x
  | .tup ds, v => ∃ a vs, v = .ref a ∧ FzT w H a vs ∧ Reps ds vs
  | .ktp ds, v => ∃ a vs, v = .ref a ∧ (KcT K a vs ∨ PlT w H a vs) ∧ Reps ds vs
  | .lst ds, v => ∃ a vs, v = .ref a ∧ FzX w H a vs ∧ Reps ds vs
  | .frz ds, v => ∃ a vs, v = .ref a ∧ FzL K w H a vs ∧ Reps ds vs
  | .loc l, v => ∃ a, w.M[l]? = some a ∧ v = .ref a
  | .exn a, v => v = .ref a
  | .exf a dd f i, v => v = .ref a ∧ FzE w H dd (.xd [(f, V.int i)])
  | .exk c fl, v => ∃ a A, v = .ref a ∧ PySem.W.nsIn K mainGlobals c = some (some (.ref A)) ∧ KeptD w H a A fl
def Reps : List D → List V → Prop
  | [], vs => vs = []
  | d :: ds, vs => ∃ v r, vs = v :: r ∧ Rep d v ∧ Reps ds r
end
def RepO : Option D → Option V → Prop
  | none, _ => True
  | some d, some v => Rep K w H d v
  | some _, none => False
/-- the slots -/
def RSt (ds : DSt) (vs : L2.St) : Prop := ds.length = vs.length ∧ ∀ (i : Nat) (d : D), ds[i]? = some (some d) → ∃ v, vs[i]? = some (some v) ∧ Rep K w H d v
/-- pairs by keys -/
def RKv {κ : Type} : List (κ × D) → List (κ × V) → Prop
  | [], vs => vs = []
  | (k, d) :: ds, vs => ∃ v r, vs = (k, v) :: r ∧ Rep K w H d v ∧ RKv ds r
/-- pairs by such keys: where the key's tuple lies -/
def RNv : List (NK × D) → List (NK × Addr × Value) → Prop
  | [], xs => xs = []
  | (k, d) :: ds, xs => ∃ p u v r, xs = (k, p, u) :: r ∧ Rep K w H (nkD k) (.ref p) ∧ RelV v u ∧ Rep K w H d v ∧ RNv ds r
def HoOk (mg : Str → Option Value) : Ob → HO → Prop
  | .lst ds, u => ∃ vs, u = .lst vs ∧ Reps K w H ds vs
  | .dK kvs, u => ∃ vs, u = .dK vs ∧ RKv K w H kvs vs
  | .dT kvs, u => ∃ vs, u = .dT vs ∧ RKv K w H kvs vs
  | .dN kvs, u => ∃ a xs, u = NdO a xs ∧ RNv K w H kvs xs ∧ (kvs.map (·.1)).Nodup
  | .ins C fs, u => ∃ A dx vs, mg C = some (.ref A) ∧ u = .ins A dx vs ∧ RKv K w H fs vs
  | .lck o, u => ∃ od u', u = .frz od u' ∧ HoOk mg o u'
structure Ab (mg : Str → Option Value) (S : Store) : Prop where
  len : w.M.length = S.length
  nd : w.M.Nodup
  bm : ∀ a ∈ w.B, a ∉ w.M
  bt : ∀ a ∈ w.B, ∃ xs, H a = some (.lst xs)
  ob : ∀ (l : Nat) (a : Addr) (o : Ob), w.M[l]? = some a → S[l]? = some o → ∃ u, H a = some u ∧ HoOk K w H mg o u
end
/-- what a step may do: new mutable objects, new objects; what is no mutable object stands -/
structure Ex (w : Wd) (H : Hp) (w' : Wd) (H' : Hp) : Prop where
  pre : ∃ t, w'.M = w.M ++ t
  bk : w'.B = w.B
  keep : ∀ a u, H a = some u → a ∉ w.M → H' a = some u ∧ a ∉ w'.M
  fz : ∀ a od u, H a = some (.frz od u) → H' a = some (.frz od u)
theorem Ex.refl (w : Wd) (H : Hp) : Ex w H w H := ⟨⟨[], by simp⟩, rfl, fun a u h n => ⟨h, n⟩, fun _ _ _ h => h⟩
theorem Ex.trans {w w1 w2 : Wd} {H H1 H2 : Hp} (a : Ex w H w1 H1) (b : Ex w1 H1 w2 H2) : Ex w H w2 H2 := by
  obtain ⟨t, ht⟩ := a.pre
  obtain ⟨t', ht'⟩ := b.pre
  refine ⟨⟨t ++ t', by rw [ht', ht, List.append_assoc]⟩, b.bk.trans a.bk, fun c u h n => ?_, fun c od u h => b.fz c od u (a.fz c od u h)⟩
  obtain ⟨h1, n1⟩ := a.keep c u h n
  exact b.keep c u h1 n1
theorem Ex.get {w w' : Wd} {H H' : Hp} (e : Ex w H w' H') {l : Nat} {a : Addr} (h : w.M[l]? = some a) : w'.M[l]? = some a := by
  obtain ⟨t, ht⟩ := e.pre
  rw [ht]
  obtain ⟨h1, h2⟩ := List.getElem?_eq_some_iff.mp h
  rw [List.getElem?_append_left h1]; exact h
section
variable {K : PySem.W.Frag} {w w' : Wd} {H H' : Hp}
theorem FzL.sq {a : Addr} {xs : List V} (h : FzL K w H a xs) : SqL K H a xs := by
  rcases h with ⟨_, _, h⟩ | h | h
  · exact .inl h
  · exact absurd h no_rd
  · exact .inr h
theorem FzT.sq {a : Addr} {xs : List V} (h : FzT w H a xs) : SqT K H a xs := .inl (.inl h.2.2)
theorem Ex.rd (e : Ex w H w' H') {a : Addr} {u : HO} (n : a ∉ w.M) (b : a ∉ w.B) (h : Rd H a u) : a ∉ w'.M ∧ a ∉ w'.B ∧ Rd H' a u := by
  rcases h with h | ⟨o, h⟩
  · obtain ⟨h1, n1⟩ := e.keep a _ h n
    exact ⟨n1, by rw [e.bk]; exact b, .inl h1⟩
  · obtain ⟨h1, n1⟩ := e.keep a _ h n
    exact ⟨n1, by rw [e.bk]; exact b, .inr ⟨o, h1⟩⟩
theorem FzL.mono (e : Ex w H w' H') {a : Addr} {xs : List V} (h : FzL K w H a xs) : FzL K w' H' a xs := by
  rcases h with ⟨n, b, h⟩ | h
  · exact .inl (e.rd n b h)
  · exact .inr h
theorem FzX.mono (e : Ex w H w' H') {a : Addr} {xs : List V} (h : FzX w H a xs) : FzX w' H' a xs :=
  let ⟨n, b, h⟩ := h
  let ⟨h1, n1⟩ := e.keep a _ h n
  ⟨n1, by rw [e.bk]; exact b, h1⟩
theorem FzX.sq {a : Addr} {xs : List V} (h : FzX w H a xs) : SqL K H a xs := .inl (.inl h.2.2)
theorem PlT.by {a : Addr} {xs : List V} (k : ∀ a u, H a = some u → a ∉ w.M → a ∉ w.B → a ∉ w'.M ∧ a ∉ w'.B ∧ H' a = some u) (h : PlT w H a xs) : PlT w' H' a xs :=
  let ⟨n, b, o, its, m, f, r⟩ := h
  let ⟨n1, b1, f1⟩ := k a _ f n b
  ⟨n1, b1, o, its, m, f1, r⟩
theorem PlT.mono (e : Ex w H w' H') {a : Addr} {xs : List V} (h : PlT w H a xs) : PlT w' H' a xs := h.by fun a u f n b =>
  let ⟨h1, n1⟩ := e.keep a u f n
  ⟨n1, by rw [e.bk]; exact b, h1⟩
theorem kp_sq {a : Addr} {xs : List V} (h : KcT K a xs ∨ PlT w H a xs) : SqT K H a xs := by
  rcases h with ⟨o, its, n, h1, h2, _, h3⟩ | ⟨_, _, o, its, n, h, _⟩
  · exact .inr ⟨o, its, n, h1, h2, h3⟩
  · exact .inl (.inr ⟨o, h⟩)
theorem FzT.mono (e : Ex w H w' H') {a : Addr} {xs : List V} (h : FzT w H a xs) : FzT w' H' a xs :=
  let ⟨n, b, h⟩ := h
  let ⟨h1, n1⟩ := e.keep a _ h n
  ⟨n1, by rw [e.bk]; exact b, h1⟩
theorem FzE.mono (e : Ex w H w' H') {a : Addr} {u : HO} (h : FzE w H a u) : FzE w' H' a u :=
  let ⟨n, b, h⟩ := h
  let ⟨h1, n1⟩ := e.keep a _ h n
  ⟨n1, by rw [e.bk]; exact b, h1⟩
mutual
/-- any change that keeps frozen lists, tuples and the numbers' addresses -/
theorem Rep.gen (hX : ∀ a xs, FzX w H a xs → FzX w' H' a xs) (hL : ∀ a xs, FzL K w H a xs → FzL K w' H' a xs) (hT : ∀ a xs, FzT w H a xs → FzT w' H' a xs) (hP : ∀ a xs, PlT w H a xs → PlT w' H' a xs) (hE : ∀ a u, FzE w H a u → FzE w' H' a u) (hM : ∀ (l : Nat) (a : Addr), w.M[l]? = some a → w'.M[l]? = some a) : ∀ {d : D} {v : V}, Rep K w H d v → Rep K w' H' d v
  | .non, _, h => by simpa only [Rep] using h
  | .bl b, _, h => by simpa only [Rep] using h
  | .int i, _, h => by simpa only [Rep] using h
  | .str x, _, h => by simpa only [Rep] using h
  | .tup ds, _, h => by
    simp only [Rep] at h ⊢
    obtain ⟨a, vs, e, f, r⟩ := h
    exact ⟨a, vs, e, hT _ _ f, Reps.gen hX hL hT hP hE hM r⟩
  | .ktp ds, _, h => by
    simp only [Rep] at h ⊢
    obtain ⟨a, vs, e, f, r⟩ := h
    exact ⟨a, vs, e, f.imp_right (hP _ _), Reps.gen hX hL hT hP hE hM r⟩
  | .lst ds, _, h => by
    simp only [Rep] at h ⊢
    obtain ⟨a, vs, e, f, r⟩ := h
    exact ⟨a, vs, e, hX _ _ f, Reps.gen hX hL hT hP hE hM r⟩
  | .frz ds, _, h => by
    simp only [Rep] at h ⊢
    obtain ⟨a, vs, e, f, r⟩ := h
    exact ⟨a, vs, e, hL _ _ f, Reps.gen hX hL hT hP hE hM r⟩
  | .loc l, _, h => by
    simp only [Rep] at h ⊢
    obtain ⟨a, e, f⟩ := h
    exact ⟨a, hM _ _ e, f⟩
  | .exn a, _, h => by simpa only [Rep] using h
  | .exf a dd f i, _, h => by
    simp only [Rep] at h ⊢
    exact ⟨h.1, hE _ _ h.2⟩
  | .exk c fl, _, h => by
    simp only [Rep] at h ⊢
    obtain ⟨a, A, e, g, k⟩ := h
    refine ⟨a, A, e, g, ?_⟩
    match fl, k with
    | none, k => exact hE _ _ k
    | some (f, i), ⟨d, k1, k2⟩ => exact ⟨d, hE _ _ k1, hE _ _ k2⟩
theorem Reps.gen (hX : ∀ a xs, FzX w H a xs → FzX w' H' a xs) (hL : ∀ a xs, FzL K w H a xs → FzL K w' H' a xs) (hT : ∀ a xs, FzT w H a xs → FzT w' H' a xs) (hP : ∀ a xs, PlT w H a xs → PlT w' H' a xs) (hE : ∀ a u, FzE w H a u → FzE w' H' a u) (hM : ∀ (l : Nat) (a : Addr), w.M[l]? = some a → w'.M[l]? = some a) : ∀ {ds : List D} {vs : List V}, Reps K w H ds vs → Reps K w' H' ds vs
  | [], _, h => by simpa only [Reps] using h
  | d :: ds, _, h => by
    simp only [Reps] at h ⊢
    obtain ⟨v, r, e, h1, h2⟩ := h
    exact ⟨v, r, e, Rep.gen hX hL hT hP hE hM h1, Reps.gen hX hL hT hP hE hM h2⟩
end
theorem Rep.mono (e : Ex w H w' H') {d : D} {v : V} (h : Rep K w H d v) : Rep K w' H' d v := h.gen (fun _ _ f => f.mono e) (fun _ _ f => f.mono e) (fun _ _ f => f.mono e) (fun _ _ f => f.mono e) (fun _ _ f => f.mono e) fun _ _ => e.get
theorem Reps.mono (e : Ex w H w' H') {d : List D} {v : List V} (h : Reps K w H d v) : Reps K w' H' d v := h.gen (fun _ _ f => f.mono e) (fun _ _ f => f.mono e) (fun _ _ f => f.mono e) (fun _ _ f => f.mono e) (fun _ _ f => f.mono e) fun _ _ => e.get
theorem RKv.gen {κ : Type} (f : ∀ d v, Rep K w H d v → Rep K w' H' d v) : ∀ {ds : List (κ × D)} {vs : List (κ × V)}, RKv K w H ds vs → RKv K w' H' ds vs
  | [], _, h => h
  | (k, d) :: ds, _, h => by
    obtain ⟨v, r, e, h1, h2⟩ := h
    exact ⟨v, r, e, f _ _ h1, RKv.gen f h2⟩
theorem RNv.gen (f : ∀ d v, Rep K w H d v → Rep K w' H' d v) : ∀ {ds : List (NK × D)} {xs : List (NK × Addr × Value)}, RNv K w H ds xs → RNv K w' H' ds xs
  | [], _, h => h
  | (k, d) :: ds, _, h => by
    obtain ⟨p, u, v, r, e, h1, h2, h3, h4⟩ := h
    exact ⟨p, u, v, r, e, f _ _ h1, h2, f _ _ h3, RNv.gen f h4⟩
theorem RSt.gen (f : ∀ d v, Rep K w H d v → Rep K w' H' d v) {ds : DSt} {vs : L2.St} (h : RSt K w H ds vs) : RSt K w' H' ds vs :=
  ⟨h.1, fun i d e => let ⟨v, e1, r⟩ := h.2 i d e; ⟨v, e1, f _ _ r⟩⟩
theorem RSt.mono (e : Ex w H w' H') {ds : DSt} {vs : L2.St} (h : RSt K w H ds vs) : RSt K w' H' ds vs := h.gen fun _ _ r => r.mono e
theorem HoOk.gen {mg : Str → Option Value} (f : ∀ d v, Rep K w H d v → Rep K w' H' d v) (g : ∀ d v, Reps K w H d v → Reps K w' H' d v) : ∀ {o : Ob} {u : HO}, HoOk K w H mg o u → HoOk K w' H' mg o u
  | .lst ds, _, h => by
    obtain ⟨vs, e, r⟩ := h
    exact ⟨vs, e, g _ _ r⟩
  | .dK ds, _, h => by
    obtain ⟨vs, e, r⟩ := h
    exact ⟨vs, e, r.gen f⟩
  | .dT ds, _, h => by
    obtain ⟨vs, e, r⟩ := h
    exact ⟨vs, e, r.gen f⟩
  | .dN ds, _, h => by
    obtain ⟨a, xs, e, r, n⟩ := h
    exact ⟨a, xs, e, r.gen f, n⟩
  | .ins C ds, _, h => by
    obtain ⟨A, dx, vs, m, e, r⟩ := h
    exact ⟨A, dx, vs, m, e, r.gen f⟩
  | .lck o, _, h => by
    obtain ⟨od, u', e, r⟩ := h
    exact ⟨od, u', e, HoOk.gen f g r⟩
theorem Reps.length : ∀ {ds : List D} {vs : List V}, Reps K w H ds vs → ds.length = vs.length
  | [], _, h => by simp only [Reps] at h; rw [h]; rfl
  | d :: ds, _, h => by
    simp only [Reps] at h
    obtain ⟨v, r, rfl, _, h2⟩ := h
    simp [Reps.length h2]
theorem Reps.get : ∀ {ds : List D} {vs : List V} {i : Nat} {d : D}, Reps K w H ds vs → ds[i]? = some d → ∃ v, vs[i]? = some v ∧ Rep K w H d v
  | [], _, _, _, h, e => by simp at e
  | d :: ds, _, 0, d', h, e => by
    simp only [Reps] at h
    obtain ⟨v, r, rfl, h1, h2⟩ := h
    simp at e; subst e
    exact ⟨v, by simp, h1⟩
  | d :: ds, _, i + 1, d', h, e => by
    simp only [Reps] at h
    obtain ⟨v, r, rfl, h1, h2⟩ := h
    simpa using Reps.get (i := i) h2 (by simpa using e)
theorem Reps.nil : Reps K w H [] [] := by simp only [Reps]
theorem Reps.cons {d : D} {v : V} {ds : List D} {vs : List V} (h : Rep K w H d v) (t : Reps K w H ds vs) : Reps K w H (d :: ds) (v :: vs) := by
  simp only [Reps]; exact ⟨v, vs, rfl, h, t⟩
theorem Reps.append : ∀ {ds es : List D} {vs us : List V}, Reps K w H ds vs → Reps K w H es us → Reps K w H (ds ++ es) (vs ++ us)
  | [], _, _, _, h, g => by simp only [Reps] at h; subst h; exact g
  | d :: ds, _, _, _, h, g => by
    simp only [Reps] at h
    obtain ⟨v, r, rfl, h1, h2⟩ := h
    exact .cons h1 (Reps.append h2 g)
theorem Ab.obs {mg : Str → Option Value} {S : Store} (A : Ab K w H mg S) {l : Nat} {o : Ob} (h : S[l]? = some o) : ∃ a u, w.M[l]? = some a ∧ H a = some u ∧ HoOk K w H mg o u := by
  obtain ⟨h1, _⟩ := List.getElem?_eq_some_iff.mp h
  have h2 : l < w.M.length := by rw [A.len]; exact h1
  obtain ⟨u, e, k⟩ := A.ob l w.M[l] o (List.getElem?_eq_getElem h2) h
  exact ⟨_, u, List.getElem?_eq_getElem h2, e, k⟩
theorem Ab.there {mg : Str → Option Value} {S : Store} (A : Ab K w H mg S) {a : Addr} (h : a ∈ w.M) : ∃ u, H a = some u := by
  obtain ⟨l, h1, e⟩ := List.getElem_of_mem h
  have h2 : l < S.length := by rw [← A.len]; exact h1
  obtain ⟨u, e', _⟩ := A.ob l a S[l] (by rw [← e]; exact List.getElem?_eq_getElem h1) (List.getElem?_eq_getElem h2)
  exact ⟨u, e'⟩
theorem Ab.new {mg : Str → Option Value} {S : Store} (A : Ab K w H mg S) {p : Addr} (h : H p = none) : p ∉ w.M := fun z => by
  obtain ⟨u, e⟩ := A.there z
  rw [h] at e; cases e
theorem Ab.newB {mg : Str → Option Value} {S : Store} (A : Ab K w H mg S) {p : Addr} (h : H p = none) : p ∉ w.B := fun z => by
  obtain ⟨u, e⟩ := A.bt p z
  rw [h] at e; cases e
end
section
variable {K : PySem.W.Frag} {mg : Str → Option Value} {w : Wd} {H : Hp} {S : Store}
theorem ne_new {a p : Addr} {u : HO} (h : H a = some u) (hp : H p = none) : a ≠ p := ne_of_none h hp
/-- a new frozen object -/
theorem Ex.new {p : Addr} {o : HO} (hp : H p = none) : Ex w H w (upd H p o) :=
  ⟨⟨[], by simp⟩, rfl, fun a u h n => ⟨by rw [upd_ne (ne_new h hp)]; exact h, n⟩, fun a od u h => by rw [upd_ne (ne_new h hp)]; exact h⟩
theorem HoOk.mono {w' : Wd} {H' : Hp} (e : Ex w H w' H') {o : Ob} {u : HO} (h : HoOk K w H mg o u) : HoOk K w' H' mg o u := h.gen (fun _ _ r => r.mono e) fun _ _ r => r.mono e
theorem Ab.newF (A : Ab K w H mg S) {p : Addr} {o : HO} (hp : H p = none) : Ab K w (upd H p o) mg S :=
  ⟨A.len, A.nd, A.bm, fun a ha => let ⟨u, e⟩ := A.bt a ha; ⟨u, by rw [upd_ne (ne_new e hp)]; exact e⟩, fun l a ob h1 h2 => by
    obtain ⟨u, e, k⟩ := A.ob l a ob h1 h2
    exact ⟨u, by rw [upd_ne (ne_new e hp)]; exact e, k.mono (Ex.new hp)⟩⟩
/-- a new mutable object -/
theorem Ex.newM {p : Addr} {o : HO} (hp : H p = none) : Ex w H ⟨w.M ++ [p], w.B⟩ (upd H p o) :=
  ⟨⟨[p], rfl⟩, rfl, fun a u h n => ⟨by rw [upd_ne (ne_new h hp)]; exact h, by simp only [List.mem_append, List.mem_singleton, not_or]; exact ⟨n, ne_new h hp⟩⟩, fun a od u h => by rw [upd_ne (ne_new h hp)]; exact h⟩
theorem Ab.newM (A : Ab K w H mg S) {p : Addr} {o : HO} {ob : Ob} (hp : H p = none) (k : HoOk K ⟨w.M ++ [p], w.B⟩ (upd H p o) mg ob o) : Ab K ⟨w.M ++ [p], w.B⟩ (upd H p o) mg (S ++ [ob]) := by
  have hn := A.new hp
  have hB := A.newB hp
  refine ⟨by simp [A.len], ?_, fun a hb hm => ?_, fun a ha => let ⟨u, e⟩ := A.bt a ha; ⟨u, by rw [upd_ne (ne_new e hp)]; exact e⟩, fun l a ob' h1 h2 => ?_⟩
  · show (w.M ++ [p]).Nodup
    rw [List.nodup_append]
    exact ⟨A.nd, by simp, fun a ha b hb => by simp only [List.mem_singleton] at hb; subst hb; exact fun e => hn (e ▸ ha)⟩
  · simp only [List.mem_append, List.mem_singleton] at hm
    rcases hm with hm | rfl
    · exact A.bm a hb hm
    · exact hB hb
  · have h1 : (w.M ++ [p])[l]? = some a := h1
    by_cases hl : l < S.length
    · have hl' : l < w.M.length := by rw [A.len]; exact hl
      rw [List.getElem?_append_left hl] at h2
      rw [List.getElem?_append_left hl'] at h1
      obtain ⟨u, e, k'⟩ := A.ob l a ob' h1 h2
      exact ⟨u, by rw [upd_ne (ne_new e hp)]; exact e, k'.mono (Ex.newM hp)⟩
    · have hl' : ¬ l < w.M.length := by rw [A.len]; exact hl
      rw [List.getElem?_append_right (by omega)] at h1 h2
      rw [A.len] at h1
      have h0 : l - S.length = 0 := by
        cases hq : l - S.length with
        | zero => rfl
        | succ n => rw [hq] at h2; simp at h2
      rw [h0] at h1 h2
      simp at h1 h2
      subst h1 h2
      exact ⟨o, upd_same, k⟩
theorem nz_lst {a : Addr} {xs : List V} (h : H a = some (.lst xs)) : ∀ od u, H a ≠ some (.frz od u) := fun od u z => by rw [h] at z; cases z
theorem nz_dK {a : Addr} {xs : List (Key × V)} (h : H a = some (.dK xs)) : ∀ od u, H a ≠ some (.frz od u) := fun od u z => by rw [h] at z; cases z
theorem nz_dT {a : Addr} {xs : List (List Key × V)} (h : H a = some (.dT xs)) : ∀ od u, H a ≠ some (.frz od u) := fun od u z => by rw [h] at z; cases z
theorem nz_ins {a C dx : Addr} {fs : List (Str × V)} (h : H a = some (.ins C dx fs)) : ∀ od u, H a ≠ some (.frz od u) := fun od u z => by rw [h] at z; cases z
/-- a mutable object is written -/
theorem Ex.wr {a : Addr} {o : HO} (hm : a ∈ w.M) (hz : ∀ od u, H a ≠ some (.frz od u)) : Ex w H w (upd H a o) :=
  ⟨⟨[], by simp⟩, rfl, fun b u h n => ⟨by rw [upd_ne (fun z : b = a => n (by rw [z]; exact hm))]; exact h, n⟩, fun b od u h => by rw [upd_ne (fun z : b = a => hz od u (by rw [← z]; exact h))]; exact h⟩
theorem Ab.wr (A : Ab K w H mg S) {l : Nat} {a : Addr} {o : HO} {ob : Ob} (hm : w.M[l]? = some a) (hz : ∀ od u, H a ≠ some (.frz od u)) (k : HoOk K w H mg ob o) : Ab K w (upd H a o) mg (S.set l ob) := by
  have hmem : a ∈ w.M := List.mem_of_getElem? hm
  refine ⟨by simp [A.len], A.nd, A.bm, fun b hb => ?_, fun l' a' ob' h1 h2 => ?_⟩
  · obtain ⟨u, e⟩ := A.bt b hb
    exact ⟨u, by rw [upd_ne (fun z : b = a => A.bm b hb (by rw [z]; exact hmem))]; exact e⟩
  by_cases hl : l' = l
  · subst hl
    rw [hm] at h1; cases h1
    have : l' < S.length := by rw [← A.len]; exact (List.getElem?_eq_some_iff.mp hm).1
    rw [List.getElem?_set_self this] at h2
    cases h2
    exact ⟨o, upd_same, k.mono (Ex.wr hmem hz)⟩
  · rw [List.getElem?_set_ne (Ne.symm hl)] at h2
    obtain ⟨u, e, k'⟩ := A.ob l' a' ob' h1 h2
    have hne : a' ≠ a := fun z => by
      subst z
      obtain ⟨q1, q2⟩ := List.getElem?_eq_some_iff.mp h1
      obtain ⟨q3, q4⟩ := List.getElem?_eq_some_iff.mp hm
      exact hl ((List.getElem_inj A.nd).mp (q2.trans q4.symm))
    exact ⟨u, by rw [upd_ne hne]; exact e, k'.mono (Ex.wr hmem hz)⟩
/-- data that is made at a new place -/
theorem Rep.tupNew {p : Addr} {ds : List D} {vs : List V} (A : Ab K w H mg S) (hp : H p = none) (r : Reps K w H ds vs) : Rep K w (upd H p (.tup vs)) (.tup ds) (.ref p) := by
  simp only [Rep]
  exact ⟨p, vs, rfl, ⟨A.new hp, A.newB hp, upd_same⟩, r.mono (Ex.new hp)⟩
theorem Rep.lstNew {p : Addr} {ds : List D} {vs : List V} (A : Ab K w H mg S) (hp : H p = none) (r : Reps K w H ds vs) : Rep K w (upd H p (.lst vs)) (.lst ds) (.ref p) := by
  simp only [Rep]
  exact ⟨p, vs, rfl, ⟨A.new hp, A.newB hp, upd_same⟩, r.mono (Ex.new hp)⟩
theorem Rep.locNew {p : Addr} {H' : Hp} (A : Ab K w H mg S) : Rep K ⟨w.M ++ [p], w.B⟩ H' (.loc S.length) (.ref p) := by
  simp only [Rep]
  exact ⟨p, by rw [← A.len]; simp, rfl⟩
end
end L3
namespace L3
open PySem PySem.Spec L2

/-! ### what is told of a step's end -/
abbrev XW := Value → Option Addr → L2.St → Hp → Prop
def XRel (K : PySem.W.Frag) (w : Wd) (H : Hp) (fs : List (Str × D)) : Option Addr → Prop
  | none => fs = []
  | some d => fs ≠ [] ∧ ∃ vs, H d = some (.xd vs) ∧ RKv K w H fs vs ∧ d ∉ w.M
def Post {α β : Type} (K : PySem.W.Frag) (mg : Str → Option Value) (R : Wd → Hp → α → β → Prop) (W : XW) (σ : L2.St) (w : Wd) (H : Hp) (r : Res α) (Q : β → Hp → Prop) : Prop :=
  match r with
  | .ok a S' => ∀ w' H' v, Ex w H w' H' → Ab K w' H' mg S' → R w' H' a v → Q v H'
  | .exc c fs S' => ∀ w' H' C od, Ex w H w' H' → Ab K w' H' mg S' → mg c = some (.ref C) → XRel K w' H' fs od → W (.ref C) od σ H'
  | .stuck => False
section
variable {α β γ δ : Type} {K : PySem.W.Frag} {mg : Str → Option Value} {R : Wd → Hp → α → β → Prop} {R' : Wd → Hp → γ → δ → Prop} {W : XW} {σ : L2.St} {w w' : Wd} {H H' : Hp}
theorem Post.ex {r : Res α} {Q : β → Hp → Prop} (h : Post K mg R W σ w H r Q) (e : Ex w H w' H') : Post K mg R W σ w' H' r Q := by
  cases r with
  | ok a S => exact fun w2 H2 v e2 => h w2 H2 v (e.trans e2)
  | exc c fs S => exact fun w2 H2 C od e2 => h w2 H2 C od (e.trans e2)
  | stuck => exact h
theorem Post.bind {r : Res α} {f : α → Store → Res γ} {Q : δ → Hp → Prop} {Q' : β → Hp → Prop} (h : Post K mg R' W σ w H (r.bind f) Q)
    (k : ∀ a S1 w1 H1 v, Ex w H w1 H1 → Ab K w1 H1 mg S1 → R w1 H1 a v → Post K mg R' W σ w1 H1 (f a S1) Q → Q' v H1) : Post K mg R W σ w H r Q' := by
  cases r with
  | ok a S => exact fun w2 H2 v e2 A2 r2 => k a S w2 H2 v e2 A2 r2 (Post.ex h e2)
  | exc c fs S => exact h
  | stuck => exact h
theorem Post.imp {r : Res α} {Q Q' : β → Hp → Prop} (h : Post K mg R W σ w H r Q) (k : ∀ v H', Q v H' → Q' v H') : Post K mg R W σ w H r Q' := by
  cases r with
  | ok a S => exact fun w2 H2 v e2 A2 r2 => k _ _ (h w2 H2 v e2 A2 r2)
  | exc c fs S => exact h
  | stuck => exact h
theorem Post.fin {a : α} {S : Store} {v : β} {Q : β → Hp → Prop} (h : Post K mg R W σ w H (.ok a S) Q) (A : Ab K w H mg S) (r : R w H a v) : Q v H := h w H v (Ex.refl _ _) A r
end
/-- readings by functions -/
def tOf (K : PySem.W.Frag) (mg : Str → Option Value) (W : XW) (m : DSt → Store → Res D) : TE := fun σ H Q => ∃ w dσ S, Ab K w H mg S ∧ RSt K w H dσ σ ∧ Post K mg (Rep K) W σ w H (m dσ S) Q
def RB (w : Wd) (H : Hp) (a b : Bool) : Prop := a = b
def tOfT (K : PySem.W.Frag) (mg : Str → Option Value) (W : XW) (m : DSt → Store → Res Bool) : TT := fun σ H Q => ∃ w dσ S, Ab K w H mg S ∧ RSt K w H dσ σ ∧ Post K mg RB W σ w H (m dσ S) Q
def tOfA (K : PySem.W.Frag) (mg : Str → Option Value) (W : XW) (m : DSt → Store → Res (List D)) : TA := fun σ H Q => ∃ w dσ S, Ab K w H mg S ∧ RSt K w H dσ σ ∧ Post K mg (Reps K) W σ w H (m dσ S) Q
abbrev PM (X : Cx) (W : XW) (e : Expr) (m : DSt → Store → Res D) : Prop := PE X e (tOf X.K X.mg W m)
abbrev PMT (X : Cx) (W : XW) (e : Expr) (m : DSt → Store → Res Bool) : Prop := PT X e (tOfT X.K X.mg W m)
abbrev PMA (X : Cx) (W : XW) (es : List Expr) (m : DSt → Store → Res (List D)) : Prop := PA X es (tOfA X.K X.mg W m)
section
variable {X : Cx} {W : XW}
theorem PE.imp {e : Expr} {t t' : TE} (h : PE X e t) (k : ∀ σ H Q, t' σ H Q → t σ H Q) : PE X e t' := ⟨fun pins s σ H Q I q => h.run pins s σ H Q I (k σ H Q q)⟩
theorem PT.imp {e : Expr} {t t' : TT} (h : PT X e t) (k : ∀ σ H Q, t' σ H Q → t σ H Q) : PT X e t' := ⟨fun pins s σ H Q I q => h.run pins s σ H Q I (k σ H Q q)⟩
theorem PA.imp {e : List Expr} {t t' : TA} (h : PA X e t) (k : ∀ σ H Q, t' σ H Q → t σ H Q) : PA X e t' := ⟨fun pos pins s σ H Q I q => h.run pos pins s σ H Q I (k σ H Q q)⟩
theorem PS.imp {e : Stmt} {t t' : TS} (h : PS X e t) (k : ∀ D σ H, t' D σ H → t D σ H) : PS X e t' := ⟨fun pins s σ H D I q => h.run pins s σ H D I (k D σ H q)⟩
theorem PSs.imp {e : List Stmt} {t t' : TS} (h : PSs X e t) (k : ∀ D σ H, t' D σ H → t D σ H) : PSs X e t' := ⟨fun pins s σ H D I q => h.run pins s σ H D I (k D σ H q)⟩

/-! ### names, constants -/
def mVar (i : Nat) (σ : DSt) (S : Store) : Res D := match σ[i]? with
  | some (some d) => .ok d S
  | _ => .stuck
def mC (d : D) (_ : DSt) (S : Store) : Res D := .ok d S
theorem pm_var (i : Nat) {x : Str} {pos : Pos} (hN : X.N[i]? = some x := by rfl) (hv : Vis X.env.scope x := by first | exact Or.inl rfl | exact Or.inr (Or.inl rfl) | exact Or.inr (Or.inr rfl)) (hd : (x == ("__debug__" : Str)) = false := by decide)
    (hcd : (x == ("__classdict__" : Str)) = false := by decide) : PM X W (.Name x pos) (mVar i) := by
  refine PE.imp (pe_var hN hv hd hcd) fun σ H Q ⟨w, dσ, S, A, R, P⟩ => ?_
  unfold mVar at P
  split at P
  · rename_i d e
    obtain ⟨v, e1, r⟩ := R.2 i d e
    exact ⟨v, e1, P.fin A r⟩
  · exact P.elim
theorem PE.const {e : Expr} {v : V} {d : D} (h : PE X e (tC v)) (r : ∀ w H, Rep X.K w H d v) : PM X W e (mC d) :=
  PE.imp h fun σ H Q ⟨w, dσ, S, A, R, P⟩ => P.fin A (r w H)
theorem pm_int {i j pos} : PM X W (.Constant (.int i) j pos) (mC (.int i)) := PE.const pe_int fun _ _ => by simp only [Rep]
theorem pm_bl {i j pos} : PM X W (.Constant (.bool i) j pos) (mC (.bl i)) := PE.const pe_bl fun _ _ => by simp only [Rep]
theorem pm_non {j pos} : PM X W (.Constant .none j pos) (mC .non) := PE.const pe_non fun _ _ => by simp only [Rep]
theorem pm_str {i j pos} : PM X W (.Constant (.str i) j pos) (mC (.str i)) := PE.const pe_str fun _ _ => by simp only [Rep]
/-- a module's constant -/
theorem pm_glob {x : Str} {v : V} {d : D} {u : Value} {pos : Pos} (hg : Gl X x) (hm : X.mg x = some u) (r : RelV v u) (k : ∀ w H, Rep X.K w H d v) (hd : (x == ("__debug__" : Str)) = false := by decide) : PM X W (.Name x pos) (mC d) :=
  PE.const (pe_glob hg hm r hd) k

/-! ### two values -/
def m2 (ma mb : DSt → Store → Res D) (f : D → D → Store → Res D) (σ : DSt) (S : Store) : Res D := (ma σ S).bind fun a S1 => (mb σ S1).bind fun b S2 => f a b S2
def m1 (ma : DSt → Store → Res D) (f : D → Store → Res D) (σ : DSt) (S : Store) : Res D := (ma σ S).bind fun a S1 => f a S1
/-- a rule for two values, by functions -/
def Op2 (X : Cx) (W : XW) (r : R2) (f : D → D → Store → Res D) : Prop :=
  ∀ w H S d e x y σ Q, Ab X.K w H X.mg S → Rep X.K w H d x → Rep X.K w H e y → Post X.K X.mg (Rep X.K) W σ w H (f d e S) Q → r x y H Q
def OpD (X : Cx) (W : XW) (op : Value → Value → Sem Value) (f : D → D → Store → Res D) : Prop := ∃ r, OpR X op r ∧ Op2 X W r f
theorem tOf_two {ma mb : DSt → Store → Res D} {f : D → D → Store → Res D} {r : R2} (h : Op2 X W r f) {σ : L2.St} {H : Hp} {Q : VK} (q : tOf X.K X.mg W (m2 ma mb f) σ H Q) : tOp r (tOf X.K X.mg W ma) (tOf X.K X.mg W mb) σ H Q := by
  obtain ⟨w, dσ, S, A, R, P⟩ := q
  refine ⟨w, dσ, S, A, R, P.bind fun d S1 w1 H1 x e1 A1 r1 P1 => ⟨w1, dσ, S1, A1, R.mono e1, P1.bind fun e S2 w2 H2 y e2 A2 r2 P2 => ?_⟩⟩
  exact h w2 H2 S2 d e x y σ Q A2 (r1.mono e2) r2 P2
theorem pm_op {a b : Expr} {op : Operator} {pos : Pos} {ma mb : DSt → Store → Res D} {f : D → D → Store → Res D} (ho : OpD X W (binaryOp op) f) (ha : PM X W a ma) (hb : PM X W b mb) : PM X W (.BinOp a op b pos) (m2 ma mb f) :=
  let ⟨_, h1, h2⟩ := ho
  PE.imp (pe_op h1 ha hb) fun _ _ _ => tOf_two h2
theorem pm_cmp {a b : Expr} {op : CmpOp} {pos : Pos} {ma mb : DSt → Store → Res D} {f : D → D → Store → Res D} (ho : OpD X W (compareOp op) f) (ha : PM X W a ma) (hb : PM X W b mb) (hm : behindInMarks op b = false) : PM X W (.Compare a [op] [b] pos) (m2 ma mb f) :=
  let ⟨_, h1, h2⟩ := ho
  PE.imp (pe_cmpR h1 ha hb hm) fun _ _ _ => tOf_two h2
/-- a value's test: it is a truth -/
def mT (m : DSt → Store → Res D) (σ : DSt) (S : Store) : Res Bool := (m σ S).bind fun d S1 => match d with
  | .bl b => .ok b S1
  | _ => .stuck
theorem rep_bl {K : PySem.W.Frag} {w : Wd} {H : Hp} {b : Bool} {v : V} (h : Rep K w H (.bl b) v) : v = .bl b := by simpa only [Rep] using h
theorem rep_int {K : PySem.W.Frag} {w : Wd} {H : Hp} {b : Int} {v : V} (h : Rep K w H (.int b) v) : v = .int b := by simpa only [Rep] using h
theorem rep_str {K : PySem.W.Frag} {w : Wd} {H : Hp} {b : Str} {v : V} (h : Rep K w H (.str b) v) : v = .str b := by simpa only [Rep] using h
theorem rep_non {K : PySem.W.Frag} {w : Wd} {H : Hp} {v : V} (h : Rep K w H .non v) : v = .non := by simpa only [Rep] using h
theorem of_bl {K : PySem.W.Frag} {w : Wd} {H : Hp} (b : Bool) : Rep K w H (.bl b) (.bl b) := by simp only [Rep]
theorem of_int {K : PySem.W.Frag} {w : Wd} {H : Hp} (b : Int) : Rep K w H (.int b) (.int b) := by simp only [Rep]
theorem of_str {K : PySem.W.Frag} {w : Wd} {H : Hp} (b : Str) : Rep K w H (.str b) (.str b) := by simp only [Rep]
theorem of_non {K : PySem.W.Frag} {w : Wd} {H : Hp} : Rep K w H .non .non := by simp only [Rep]
theorem of_loc {K : PySem.W.Frag} {w : Wd} {H : Hp} {l : Nat} {a : Addr} (h : w.M[l]? = some a) : Rep K w H (.loc l) (.ref a) := by simp only [Rep]; exact ⟨a, h, rfl⟩
theorem tOf_test {m : DSt → Store → Res D} {σ : L2.St} {H : Hp} {Q : Bool → Hp → Prop} (q : tOfT X.K X.mg W (mT m) σ H Q) : tTest (tOf X.K X.mg W m) σ H Q := by
  obtain ⟨w, dσ, S, A, R, P⟩ := q
  refine ⟨w, dσ, S, A, R, P.bind fun d S1 w1 H1 x e1 A1 r1 P1 => ?_⟩
  cases d with
  | bl b => exact ⟨b, rep_bl r1, P1.fin A1 rfl⟩
  | _ => exact P1.elim
/-- a comparison as a test -/
theorem pmt_cmp {a b : Expr} {op : CmpOp} {pos : Pos} {ma mb : DSt → Store → Res D} {f : D → D → Store → Res D} (ho : OpD X W (compareOp op) f) (ha : PM X W a ma) (hb : PM X W b mb) (hm : behindInMarks op b = false) : PMT X W (.Compare a [op] [b] pos) (mT (m2 ma mb f)) := by
  obtain ⟨r, h1, h2⟩ := ho
  refine PT.imp (pt_cmpR h1 ha hb hm) fun σ H Q q => ?_
  obtain ⟨w, dσ, S, A, R, P⟩ := q
  refine tOf_two h2 ⟨w, dσ, S, A, R, P.bind fun d S1 w1 H1 x e1 A1 r1 P1 => ?_⟩
  cases d with
  | bl b => exact ⟨b, rep_bl r1, P1.fin A1 rfl⟩
  | _ => exact P1.elim
def mCh (ma mb mc : DSt → Store → Res D) (f g : D → D → Store → Res D) (σ : DSt) (S : Store) : Res D :=
  (ma σ S).bind fun a S1 => (mb σ S1).bind fun b S2 => (f a b S2).bind fun z S3 => match z with
    | .bl true => (mc σ S3).bind fun c S4 => g b c S4
    | .bl false => .ok (.bl false) S3
    | _ => .stuck
theorem tOf_chain {ma mb mc : DSt → Store → Res D} {f g : D → D → Store → Res D} {r r' : R2} (h : Op2 X W r f) (h' : Op2 X W r' g) {σ : L2.St} {H : Hp} {Q : VK} (q : tOf X.K X.mg W (mCh ma mb mc f g) σ H Q) :
    tChain r r' (tOf X.K X.mg W ma) (tOf X.K X.mg W mb) (tOf X.K X.mg W mc) σ H Q := by
  obtain ⟨w, dσ, S, A, R, P⟩ := q
  refine ⟨w, dσ, S, A, R, P.bind fun d S1 w1 H1 x e1 A1 r1 P1 => ⟨w1, dσ, S1, A1, R.mono e1, P1.bind fun e S2 w2 H2 y e2 A2 r2 P2 => ?_⟩⟩
  refine h w2 H2 S2 d e x y σ _ A2 (r1.mono e2) r2 (P2.bind fun z S3 w3 H3 v e3 A3 r3 P3 => ?_)
  cases z with
  | bl b =>
    refine ⟨b, rep_bl r3, ?_⟩
    cases b with
    | true =>
      rw [if_pos rfl]
      refine ⟨w3, dσ, S3, A3, ((R.mono e1).mono e2).mono e3, P3.bind fun c S4 w4 H4 u e4 A4 r4 P4 => ?_⟩
      exact h' w4 H4 S4 e c y u σ Q A4 ((r2.mono e3).mono e4) r4 P4
    | false =>
      rw [if_neg Bool.false_ne_true]
      exact P3.fin A3 (of_bl false)
  | _ => exact P3.elim
theorem pm_chain {a b c : Expr} {op op' : CmpOp} {pos : Pos} {ma mb mc : DSt → Store → Res D} {f g : D → D → Store → Res D} (ho : OpD X W (compareOp op) f) (ho' : OpD X W (compareOp op') g) (ha : PM X W a ma) (hb : PM X W b mb) (hc : PM X W c mc)
    (hm : lastMarks [op, op'] [b, c] = false := by with_unfolding_all rfl) : PM X W (.Compare a [op, op'] [b, c] pos) (mCh ma mb mc f g) :=
  let ⟨_, h1, h2⟩ := ho
  let ⟨_, h3, h4⟩ := ho'
  PE.imp (pe_chain h1 h3 ha hb hc hm) fun _ _ _ => tOf_chain h2 h4
theorem pmt_chain {a b c : Expr} {op op' : CmpOp} {pos : Pos} {ma mb mc : DSt → Store → Res D} {f g : D → D → Store → Res D} (ho : OpD X W (compareOp op) f) (ho' : OpD X W (compareOp op') g) (ha : PM X W a ma) (hb : PM X W b mb) (hc : PM X W c mc)
    (hm : lastMarks [op, op'] [b, c] = false := by with_unfolding_all rfl) : PMT X W (.Compare a [op, op'] [b, c] pos) (mT (mCh ma mb mc f g)) := by
  obtain ⟨r, h1, h2⟩ := ho
  obtain ⟨r', h3, h4⟩ := ho'
  refine PT.imp (pt_chain h1 h3 ha hb hc hm) fun σ H Q q => ?_
  obtain ⟨w, dσ, S, A, R, P⟩ := q
  refine tOf_chain h2 h4 ⟨w, dσ, S, A, R, P.bind fun d S1 w1 H1 x e1 A1 r1 P1 => ?_⟩
  cases d with
  | bl b => exact ⟨b, rep_bl r1, P1.fin A1 rfl⟩
  | _ => exact P1.elim

/-! ### tests -/
theorem pmt_val {e : Expr} {m : DSt → Store → Res D} (h : PM X W e m) (he : ∀ whole, isTrue e X.env whole = (do let v ← whole; standAt e.pos; holding [v] (truthy v)) := by intro _; rfl) : PMT X W e (mT m) := PT.imp (pt_val h he) fun σ H Q q => tOf_test q
def mNotT (m : DSt → Store → Res Bool) (σ : DSt) (S : Store) : Res Bool := (m σ S).bind fun b S1 => .ok (!b) S1
theorem pmt_not {e : Expr} {pos : Pos} {m : DSt → Store → Res Bool} (h : PMT X W e m) : PMT X W (.UnaryOp .Not e pos) (mNotT m) :=
  PT.imp (pt_not h) fun σ H Q ⟨w, dσ, S, A, R, P⟩ => ⟨w, dσ, S, A, R, P.bind fun b S1 w1 H1 x e1 A1 r1 P1 => by
    cases (show b = x from r1)
    exact P1.fin A1 rfl⟩
end
end L3
namespace L3
open PySem PySem.Spec L2
instance {i j : Int} : Decidable (CMul i j) := by unfold CMul; infer_instance
instance {i j : Int} : Decidable (CMulW i j) := by unfold CMulW; infer_instance
instance {i j : Int} : Decidable (CDivW i j) := by unfold CDivW; infer_instance

/-! ### what may be read -/
def exL (S : Store) : D → Option (List D)
  | .lst ds => some ds
  | .loc l => match S[l]? with
    | some (.lst ds) => some ds
    | _ => none
  | _ => none
def rdL (S : Store) : D → Option (List D)
  | .frz ds => some ds
  | d => exL S d
section
variable {K : PySem.W.Frag} {mg : Str → Option Value} {w : Wd} {H : Hp} {S : Store}
theorem exL_rep {d : D} {ds : List D} {v : V} (A : Ab K w H mg S) (h : exL S d = some ds) (r : Rep K w H d v) : ∃ a vs, v = .ref a ∧ H a = some (.lst vs) ∧ Reps K w H ds vs := by
  cases d with
  | lst xs =>
    simp only [exL, Option.some.injEq] at h
    subst h
    simp only [Rep] at r
    obtain ⟨a, vs, e, f, r⟩ := r
    exact ⟨a, vs, e, f.2.2, r⟩
  | loc l =>
    simp only [exL] at h
    simp only [Rep] at r
    obtain ⟨a, e, rfl⟩ := r
    split at h
    · rename_i xs q
      cases h
      obtain ⟨u, e1, vs, e2, k⟩ := A.ob l a _ e q
      subst e2
      exact ⟨a, vs, rfl, e1, k⟩
    · cases h
  | _ => simp [exL] at h
theorem rdL_rep {d : D} {ds : List D} {v : V} (A : Ab K w H mg S) (h : rdL S d = some ds) (r : Rep K w H d v) : ∃ a vs, v = .ref a ∧ SqL K H a vs ∧ Reps K w H ds vs := by
  cases d with
  | frz xs =>
    simp only [rdL, Option.some.injEq] at h
    subst h
    simp only [Rep] at r
    obtain ⟨a, vs, e, f, r⟩ := r
    exact ⟨a, vs, e, f.sq, r⟩
  | _ =>
    obtain ⟨a, vs, e, f, r⟩ := exL_rep A (by simpa only [rdL] using h) r
    exact ⟨a, vs, e, .of f, r⟩
theorem tup_rep {ds : List D} {v : V} (r : Rep K w H (.tup ds) v) : ∃ a vs, v = .ref a ∧ H a = some (.tup vs) ∧ Reps K w H ds vs := by
  simp only [Rep] at r
  obtain ⟨a, vs, e, f, r⟩ := r
  exact ⟨a, vs, e, f.2.2, r⟩
def rdT : D → Option (List D)
  | .tup ds => some ds
  | .ktp ds => some ds
  | _ => none
theorem rdT_rep {d : D} {ds : List D} {v : V} (h : rdT d = some ds) (r : Rep K w H d v) : ∃ a vs, v = .ref a ∧ SqT K H a vs ∧ Reps K w H ds vs := by
  cases d with
  | tup xs =>
    simp only [rdT, Option.some.injEq] at h
    subst h
    obtain ⟨a, vs, e, f, r⟩ := tup_rep r
    exact ⟨a, vs, e, .of f, r⟩
  | ktp xs =>
    simp only [rdT, Option.some.injEq] at h
    subst h
    simp only [Rep] at r
    obtain ⟨a, vs, e, f, r⟩ := r
    exact ⟨a, vs, e, kp_sq f, r⟩
  | _ => simp [rdT] at h
end

/-! ### arithmetic -/
section
variable {X : Cx} {W : XW}
def addD (d e : D) (S : Store) : Res D := match d, e with
  | .int i, .int j => .ok (.int (i + j)) S
  | .str i, .str j => if i.length + j.length ≤ sizeLine then .ok (.str (i ++ j)) S else .stuck
  | .tup a, .tup b => if a.length + b.length ≤ sizeLine then .ok (.tup (a ++ b)) S else .stuck
  | d, e => match exL S d, exL S e with
    | some a, some b => if a.length + b.length ≤ sizeLine then .ok (.lst (a ++ b)) S else .stuck
    | _, _ => .stuck
theorem od_add : OpD X W (binaryOp .Add) addD := by
  refine ⟨_, op_add.or (op_add_str.or (op_catA.or op_cat)), fun w H S d e x y σ Q A rd re P => ?_⟩
  unfold addD at P
  split at P
  · exact .inl ⟨_, _, rep_int rd, rep_int re, P.fin A (of_int _)⟩
  · split at P
    · rename_i hz
      exact .inr (.inl ⟨_, _, rep_str rd, rep_str re, hz, P.fin A (of_str _)⟩)
    · exact P.elim
  · split at P
    · rename_i ds es hz
      refine .inr (.inr (.inl ?_))
      have rd0 := rd
      have re0 := re
      simp only [Rep] at rd re
      obtain ⟨a, vs, rfl, f, r⟩ := rd
      obtain ⟨b, us, rfl, g, r'⟩ := re
      refine ⟨a, b, vs, us, rfl, rfl, f.sq, g.sq, by rw [← r.length, ← r'.length]; exact hz, fun z => ?_, fun _ z => ?_, fun _ _ p hp => ?_⟩
      · subst z
        have : ds = [] := by have := r.length; simpa using this
        subst this
        exact P.fin A re0
      · subst z
        have : es = [] := by have := r'.length; simpa using this
        subst this
        rw [List.append_nil] at P
        exact P.fin A rd0
      · exact P w _ _ (Ex.new hp) (A.newF hp) (Rep.tupNew A hp (r.append r'))
    · exact P.elim
  · split at P
    · rename_i a b ha hb
      split at P
      · rename_i hz
        obtain ⟨l, vs, rfl, f, r⟩ := exL_rep A ha rd
        obtain ⟨l', us, rfl, g, r'⟩ := exL_rep A hb re
        exact .inr (.inr (.inr ⟨l, l', vs, us, rfl, rfl, f, g, by rw [← r.length, ← r'.length]; exact hz, fun p hp => P w _ _ (Ex.new hp) (A.newF hp) (Rep.lstNew A hp (r.append r'))⟩))
      · exact P.elim
    · exact P.elim
def subD (d e : D) (S : Store) : Res D := match d, e with
  | .int i, .int j => .ok (.int (i - j)) S
  | _, _ => .stuck
theorem od_sub : OpD X W (binaryOp .Sub) subD := by
  refine ⟨_, op_sub, fun w H S d e x y σ Q A rd re P => ?_⟩
  unfold subD at P
  split at P
  · exact ⟨_, _, rep_int rd, rep_int re, P.fin A (of_int _)⟩
  · exact P.elim
/-- a text times an int: see HandS.. -/
def mulD (d e : D) (S : Store) : Res D := match d, e with
  | .int i, .int j => if CMul i j ∨ CMulW i j then .ok (.int (i * j)) S else .stuck
  | d, .int k => match exL S d with
    | some a => if -(2 ^ 63) ≤ k ∧ k < 2 ^ 63 ∧ a.length * k.toNat ≤ sizeLine then .ok (.lst (List.replicate k.toNat a).flatten) S else .stuck
    | none => .stuck
  | _, _ => .stuck
theorem Reps.flat {K : PySem.W.Frag} {w : Wd} {H : Hp} {ds : List D} {vs : List V} (r : Reps K w H ds vs) : ∀ k : Nat, Reps K w H (List.replicate k ds).flatten (List.replicate k vs).flatten
  | 0 => .nil
  | k + 1 => by
    simp only [List.replicate_succ, List.flatten_cons]
    exact r.append (Reps.flat r k)
theorem od_mul : OpD X W (binaryOp .Mult) mulD := by
  refine ⟨_, op_mul.or (op_mulW.or op_rep), fun w H S d e x y σ Q A rd re P => ?_⟩
  unfold mulD at P
  split at P
  · split at P
    · rename_i hz
      rcases hz with hz | hz
      · exact .inl ⟨_, _, rep_int rd, rep_int re, hz, P.fin A (of_int _)⟩
      · exact .inr (.inl ⟨_, _, rep_int rd, rep_int re, hz, P.fin A (of_int _)⟩)
    · exact P.elim
  · split at P
    · rename_i a ha
      split at P
      · rename_i hz
        obtain ⟨l, vs, rfl, f, r⟩ := exL_rep A ha rd
        exact .inr (.inr ⟨l, _, vs, rfl, rep_int re, f, hz.1, hz.2.1, by rw [← r.length]; exact hz.2.2, fun p hp => P w _ _ (Ex.new hp) (A.newF hp) (Rep.lstNew A hp (r.flat _))⟩)
      · exact P.elim
    · exact P.elim
  · exact P.elim
def fdivD (d e : D) (S : Store) : Res D := match d, e with
  | .int i, .int j => if CDivW i j then .ok (.int (i / j)) S else .stuck
  | _, _ => .stuck
theorem od_fdiv : OpD X W (binaryOp .FloorDiv) fdivD := by
  refine ⟨_, op_fdivW, fun w H S d e x y σ Q A rd re P => ?_⟩
  unfold fdivD at P
  split at P
  · split at P
    · rename_i hz
      exact ⟨_, _, rep_int rd, rep_int re, hz, P.fin A (of_int _)⟩
    · exact P.elim
  · exact P.elim
def modD (d e : D) (S : Store) : Res D := match d, e with
  | .int i, .int j => if 0 < j then .ok (.int (i % j)) S else .stuck
  | _, _ => .stuck
theorem od_mod : OpD X W (binaryOp .Mod) modD := by
  refine ⟨_, op_mod, fun w H S d e x y σ Q A rd re P => ?_⟩
  unfold modD at P
  split at P
  · split at P
    · rename_i hz
      exact ⟨_, _, rep_int rd, rep_int re, hz, P.fin A (of_int _)⟩
    · exact P.elim
  · exact P.elim
def CPowX (i j : Int) : Prop := 0 ≤ j ∧ (Builtin.Int.intBits i : Int) * j ≤ 2 ^ 27
instance {i j : Int} : Decidable (CPowX i j) := by unfold CPowX; infer_instance
theorem op_powX : OpR X (binaryOp .Pow) (rI CPowX fun i j => .int (i ^ j.toNat)) := opI fun _ _ _ _ _ _ _ hc q => PyProof.Rows.pow_int hc.1 hc.2 q
def powD (d e : D) (S : Store) : Res D := match d, e with
  | .int i, .int j => if CPowX i j then .ok (.int (i ^ j.toNat)) S else .stuck
  | _, _ => .stuck
theorem od_pow : OpD X W (binaryOp .Pow) powD := by
  refine ⟨_, op_powX, fun w H S d e x y σ Q A rd re P => ?_⟩
  unfold powD at P
  split at P
  · split at P
    · rename_i hz
      exact ⟨_, _, rep_int rd, rep_int re, hz, P.fin A (of_int _)⟩
    · exact P.elim
  · exact P.elim

/-! ### order -/
/-- the ints of a tuple -/
def intsOf : List D → Option (List Int)
  | [] => some []
  | .int i :: r => (intsOf r).map (i :: ·)
  | _ => none
theorem intsOf_rep {K : PySem.W.Frag} {w : Wd} {H : Hp} : ∀ {ds : List D} {ns : List Int} {vs : List V}, intsOf ds = some ns → Reps K w H ds vs → vs = ns.map V.int
  | [], ns, vs, h, r => by
    simp only [intsOf, Option.some.injEq] at h
    simp only [Reps] at r
    subst h r
    rfl
  | .int i :: ds, ns, vs, h, r => by
    simp only [intsOf, Option.map_eq_some_iff] at h
    obtain ⟨ms, h1, rfl⟩ := h
    simp only [Reps] at r
    obtain ⟨v, us, rfl, e, r⟩ := r
    rw [rep_int e, intsOf_rep h1 r]
    rfl
  | .non :: _, _, _, h, _ => by simp [intsOf] at h
  | .bl _ :: _, _, _, h, _ => by simp [intsOf] at h
  | .str _ :: _, _, _, h, _ => by simp [intsOf] at h
  | .tup _ :: _, _, _, h, _ => by simp [intsOf] at h
  | .ktp _ :: _, _, _, h, _ => by simp [intsOf] at h
  | .lst _ :: _, _, _, h, _ => by simp [intsOf] at h
  | .frz _ :: _, _, _, h, _ => by simp [intsOf] at h
  | .loc _ :: _, _, _, h, _ => by simp [intsOf] at h
  | .exn _ :: _, _, _, h, _ => by simp [intsOf] at h
  | .exf _ _ _ _ :: _, _, _, h, _ => by simp [intsOf] at h
  | .exk _ _ :: _, _, _, h, _ => by simp [intsOf] at h
def ltD (d e : D) (S : Store) : Res D := match d, e with
  | .int i, .int j => .ok (.bl (decide (i < j))) S
  | .str i, .str j => .ok (.bl (decide (i.cps.toList < j.cps.toList))) S
  | .tup a, .tup b => match intsOf a, intsOf b with
    | some ns, some ms => .ok (.bl (HT.lexLt ns ms)) S
    | _, _ => .stuck
  | _, _ => .stuck
theorem od_lt (hu : X.A.units < cLine) : OpD X W (compareOp .Lt) ltD := by
  refine ⟨_, op_lt.or (op_lt_str.or (op_ltT hu)), fun w H S d e x y σ Q A rd re P => ?_⟩
  unfold ltD at P
  split at P
  · exact .inl ⟨_, _, rep_int rd, rep_int re, P.fin A (of_bl _)⟩
  · exact .inr (.inl ⟨_, _, rep_str rd, rep_str re, P.fin A (of_bl _)⟩)
  · split at P
    · rename_i ns ms h1 h2
      obtain ⟨a, vs, rfl, f, r⟩ := tup_rep rd
      obtain ⟨b, us, rfl, g, r'⟩ := tup_rep re
      exact .inr (.inr ⟨a, b, ns, ms, rfl, rfl, by rw [← intsOf_rep h1 r]; exact .of f, by rw [← intsOf_rep h2 r']; exact .of g, P.fin A (of_bl _)⟩)
    · exact P.elim
  · exact P.elim
def cmpI (p : Int → Int → Bool) (d e : D) (S : Store) : Res D := match d, e with
  | .int i, .int j => .ok (.bl (p i j)) S
  | _, _ => .stuck
theorem od_le : OpD X W (compareOp .LtE) (cmpI fun i j => decide (i ≤ j)) := by
  refine ⟨_, op_le, fun w H S d e x y σ Q A rd re P => ?_⟩
  unfold cmpI at P
  split at P
  · exact ⟨_, _, rep_int rd, rep_int re, P.fin A (of_bl _)⟩
  · exact P.elim
theorem od_gt : OpD X W (compareOp .Gt) (cmpI fun i j => decide (j < i)) := by
  refine ⟨_, op_gt, fun w H S d e x y σ Q A rd re P => ?_⟩
  unfold cmpI at P
  split at P
  · exact ⟨_, _, rep_int rd, rep_int re, P.fin A (of_bl _)⟩
  · exact P.elim
theorem od_ge : OpD X W (compareOp .GtE) (cmpI fun i j => decide (j ≤ i)) := by
  refine ⟨_, op_ge, fun w H S d e x y σ Q A rd re P => ?_⟩
  unfold cmpI at P
  split at P
  · exact ⟨_, _, rep_int rd, rep_int re, P.fin A (of_bl _)⟩
  · exact P.elim

/-! ### equality of data -/
mutual
def toPy : D → Option PyData
  | .non => some .none
  | .bl b => some (.bool b)
  | .int i => some (.int i)
  | .str x => some (.str x)
  | .tup ds => (toPys ds).map .tuple
  | .lst ds => (toPys ds).map .list
  | .frz ds => (toPys ds).map .list
  | .ktp ds => (toPys ds).map .tuple
  | .loc _ => none
  | .exn _ => none
  | .exf _ _ _ _ => none
  | .exk _ _ => none
def toPys : List D → Option (List PyData)
  | [] => some []
  | d :: ds => match toPy d, toPys ds with
    | some p, some ps => some (p :: ps)
    | _, _ => none
end
section
variable {K : PySem.W.Frag} {mg : Str → Option Value} {w : Wd} {H : Hp} {S : Store}
mutual
theorem toPy_rep : ∀ {d : D} {p : PyData} {v : V}, toPy d = some p → Rep K w H d v → Dp K H v p
  | .non, p, v, h, r => by
    simp only [toPy, Option.some.injEq] at h; subst h; rw [rep_non r]; exact .non
  | .bl b, p, v, h, r => by
    simp only [toPy, Option.some.injEq] at h; subst h; rw [rep_bl r]; exact .bl b
  | .int b, p, v, h, r => by
    simp only [toPy, Option.some.injEq] at h; subst h; rw [rep_int r]; exact .int b
  | .str b, p, v, h, r => by
    simp only [toPy, Option.some.injEq] at h; subst h; rw [rep_str r]; exact .str b
  | .tup ds, p, v, h, r => by
    simp only [toPy, Option.map_eq_some_iff] at h
    obtain ⟨ps, h1, rfl⟩ := h
    simp only [Rep] at r
    obtain ⟨a, vs, rfl, f, r⟩ := r
    exact .tup f.sq (toPys_rep h1 r)
  | .lst ds, p, v, h, r => by
    simp only [toPy, Option.map_eq_some_iff] at h
    obtain ⟨ps, h1, rfl⟩ := h
    simp only [Rep] at r
    obtain ⟨a, vs, rfl, f, r⟩ := r
    exact .lst f.sq (toPys_rep h1 r)
  | .frz ds, p, v, h, r => by
    simp only [toPy, Option.map_eq_some_iff] at h
    obtain ⟨ps, h1, rfl⟩ := h
    simp only [Rep] at r
    obtain ⟨a, vs, rfl, f, r⟩ := r
    exact .lst f.sq (toPys_rep h1 r)
  | .ktp ds, p, v, h, r => by
    simp only [toPy, Option.map_eq_some_iff] at h
    obtain ⟨ps, h1, rfl⟩ := h
    simp only [Rep] at r
    obtain ⟨a, vs, rfl, f, r⟩ := r
    exact .tup (kp_sq f) (toPys_rep h1 r)
  | .loc l, p, v, h, r => by simp [toPy] at h
  | .exn _, p, v, h, r => by simp [toPy] at h
  | .exf _ _ _ _, p, v, h, r => by simp [toPy] at h
  | .exk _ _, p, v, h, r => by simp [toPy] at h
theorem toPys_rep : ∀ {ds : List D} {ps : List PyData} {vs : List V}, toPys ds = some ps → Reps K w H ds vs → DpAll K H vs ps
  | [], ps, vs, h, r => by
    simp only [toPys, Option.some.injEq] at h
    simp only [Reps] at r
    subst h r
    exact .nil
  | d :: ds, ps, vs, h, r => by
    simp only [toPys] at h
    split at h
    · rename_i p qs h1 h2
      cases h
      simp only [Reps] at r
      obtain ⟨v, us, rfl, e, r⟩ := r
      exact .cons (toPy_rep h1 e) (toPys_rep h2 r)
    · cases h
end
end
/-- a value as data; of mutable objects the lists alone -/
def pyS (S : Store) : D → Option PyData
  | .loc l => match S[l]? with
    | some (.lst ds) => (toPys ds).map .list
    | _ => none
  | d => toPy d
theorem pyS_rep {K : PySem.W.Frag} {mg : Str → Option Value} {w : Wd} {H : Hp} {S : Store} (A : Ab K w H mg S) {d : D} {p : PyData} {v : V} (h : pyS S d = some p) (r : Rep K w H d v) : Dp K H v p := by
  cases d with
  | loc l =>
    simp only [pyS] at h
    split at h
    · rename_i ds q
      simp only [Option.map_eq_some_iff] at h
      obtain ⟨ps, h1, rfl⟩ := h
      obtain ⟨a, vs, rfl, f, r'⟩ := exL_rep (ds := ds) A (by simp only [exL, q]) r
      exact .lst (.of f) (toPys_rep h1 r')
    · cases h
  | _ => exact toPy_rep (by simpa only [pyS] using h) r
def eqD (neg : Bool) (d e : D) (S : Store) : Res D := match pyS S d, pyS S e with
  | some p, some q => if SeqAt.shaped p = true ∧ SeqAt.shaped q = true then .ok (.bl (xor neg (PyData.eqv p q))) S else .stuck
  | _, _ => .stuck
theorem od_eq (hu : X.A.units + 64 < cLine) : OpD X W (compareOp .Eq) (eqD false) := by
  refine ⟨_, op_eqD hu, fun w H S d e x y σ Q A rd re P => ?_⟩
  unfold eqD at P
  split at P
  · rename_i p q h1 h2
    split at P
    · rename_i hs
      refine ⟨p, q, pyS_rep A h1 rd, pyS_rep A h2 re, hs.1, hs.2, ?_⟩
      rw [Bool.false_xor] at P
      exact P.fin A (of_bl _)
    · exact P.elim
  · exact P.elim
theorem od_ne (hu : X.A.units + 64 < cLine) : OpD X W (compareOp .NotEq) (eqD true) := by
  refine ⟨_, op_neD hu, fun w H S d e x y σ Q A rd re P => ?_⟩
  unfold eqD at P
  split at P
  · rename_i p q h1 h2
    split at P
    · rename_i hs
      refine ⟨p, q, pyS_rep A h1 rd, pyS_rep A h2 re, hs.1, hs.2, ?_⟩
      rw [Bool.true_xor] at P
      exact P.fin A (of_bl _)
    · exact P.elim
  · exact P.elim
def isND (neg : Bool) (d e : D) (S : Store) : Res D := match d, e with
  | .non, .non => .ok (.bl (!neg)) S
  | _, .non => .ok (.bl neg) S
  | _, _ => .stuck
theorem rep_nn {K : PySem.W.Frag} {w : Wd} {H : Hp} {d : D} {v : V} (r : Rep K w H d v) (h : d ≠ .non) : v ≠ .non := by
  intro z
  subst z
  cases d <;> simp [Rep] at r
  exact h rfl
theorem od_is : OpD X W (compareOp .Is) (isND false) := by
  refine ⟨_, op_isN, fun w H S d e x y σ Q A rd re P => ?_⟩
  unfold isND at P
  split at P
  · refine ⟨rep_non re, ?_⟩
    rw [rep_non rd, decide_eq_true rfl]
    exact P.fin A (of_bl _)
  · rename_i hn
    refine ⟨rep_non re, ?_⟩
    rw [decide_eq_false (rep_nn rd fun z => hn z)]
    exact P.fin A (of_bl _)
  · exact P.elim
theorem od_isnot : OpD X W (compareOp .IsNot) (isND true) := by
  refine ⟨_, op_notN, fun w H S d e x y σ Q A rd re P => ?_⟩
  unfold isND at P
  split at P
  · refine ⟨rep_non re, ?_⟩
    rw [rep_non rd, decide_eq_true rfl]
    exact P.fin A (of_bl _)
  · rename_i hn
    refine ⟨rep_non re, ?_⟩
    rw [decide_eq_false (rep_nn rd fun z => hn z)]
    exact P.fin A (of_bl _)
  · exact P.elim
end
end L3
namespace L3
open PySem PySem.Spec L2

section
variable {K : PySem.W.Frag} {mg : Str → Option Value} {w : Wd} {H : Hp} {S : Store}
theorem Reps.take : ∀ {ds : List D} {vs : List V} (n : Nat), Reps K w H ds vs → Reps K w H (ds.take n) (vs.take n)
  | _, _, 0, _ => by simpa using Reps.nil
  | [], _, n + 1, h => by simp only [Reps] at h; subst h; simpa using Reps.nil
  | d :: ds, _, n + 1, h => by
    simp only [Reps] at h
    obtain ⟨v, r, rfl, h1, h2⟩ := h
    exact .cons h1 (Reps.take n h2)
theorem Reps.drop : ∀ {ds : List D} {vs : List V} (n : Nat), Reps K w H ds vs → Reps K w H (ds.drop n) (vs.drop n)
  | _, _, 0, h => by simpa using h
  | [], _, n + 1, h => by simp only [Reps] at h; subst h; simpa using Reps.nil
  | d :: ds, _, n + 1, h => by
    simp only [Reps] at h
    obtain ⟨v, r, rfl, h1, h2⟩ := h
    exact Reps.drop n h2
theorem Reps.set {d : D} {v : V} (r : Rep K w H d v) : ∀ {ds : List D} {vs : List V} (n : Nat), Reps K w H ds vs → Reps K w H (ds.set n d) (vs.set n v)
  | [], _, n, h => by simp only [Reps] at h; subst h; simpa using Reps.nil
  | d :: ds, _, 0, h => by
    simp only [Reps] at h
    obtain ⟨v, us, rfl, h1, h2⟩ := h
    exact .cons r h2
  | d :: ds, _, n + 1, h => by
    simp only [Reps] at h
    obtain ⟨v, us, rfl, h1, h2⟩ := h
    exact .cons h1 (Reps.set r n h2)
theorem Reps.reverse : ∀ {ds : List D} {vs : List V}, Reps K w H ds vs → Reps K w H ds.reverse vs.reverse
  | [], _, h => by simp only [Reps] at h; subst h; simpa using Reps.nil
  | d :: ds, _, h => by
    simp only [Reps] at h
    obtain ⟨v, us, rfl, h1, h2⟩ := h
    rw [List.reverse_cons, List.reverse_cons]
    exact (Reps.reverse h2).append (.cons h1 .nil)
theorem Reps.eraseIdx : ∀ {ds : List D} {vs : List V} (n : Nat), Reps K w H ds vs → Reps K w H (ds.eraseIdx n) (vs.eraseIdx n)
  | [], _, n, h => by simp only [Reps] at h; subst h; simpa using Reps.nil
  | d :: ds, _, 0, h => by
    simp only [Reps] at h
    obtain ⟨v, us, rfl, h1, h2⟩ := h
    simpa using h2
  | d :: ds, _, n + 1, h => by
    simp only [Reps] at h
    obtain ⟨v, us, rfl, h1, h2⟩ := h
    simpa using Reps.cons h1 (Reps.eraseIdx n h2)
theorem Reps.dropLast {ds : List D} {vs : List V} (h : Reps K w H ds vs) : Reps K w H ds.dropLast vs.dropLast := by
  rw [List.dropLast_eq_take, List.dropLast_eq_take, h.length]
  exact h.take _
theorem Reps.at {ds : List D} {vs : List V} {i : Int} {d : D} (h : Reps K w H ds vs) (e : atI ds i = some d) : ∃ v, atI vs i = some v ∧ Rep K w H d v := by
  unfold atI at e ⊢
  rw [h.length] at e
  cases q : ixN vs.length i with
  | none => rw [q] at e; cases e
  | some j =>
    rw [q] at e
    exact h.get (i := j) e
end

/-! ### dicts -/
def keyOf : D → Option Key
  | .int i => some (.inl i)
  | .str x => some (.inr x)
  | _ => none
def keysOf : List D → Option (List Key)
  | [] => some []
  | d :: r => match keyOf d, keysOf r with
    | some k, some ks => some (k :: ks)
    | _, _ => none
def obK : Ob → Option (List (Key × D))
  | .dK kvs => some kvs
  | .lck (.dK kvs) => some kvs
  | _ => none
def obT : Ob → Option (List (List Key × D))
  | .dT kvs => some kvs
  | .lck (.dT kvs) => some kvs
  | _ => none
def lookK {κ : Type} [DecidableEq κ] (kvs : List (κ × D)) (k : κ) : Option D := (kvs.find? fun kv => decide (kv.1 = k)).map (·.2)
def dlook (S : Store) (d k : D) : Option (Option D) := match d with
  | .loc l => match S[l]? with
    | some o => match obK o, keyOf k with
      | some kvs, some key => some (lookK kvs key)
      | _, _ => match obT o, k with
        | some kvs, .tup ks => match keysOf ks with
          | some key => some (lookK kvs key)
          | none => none
        | _, _ => none
    | none => none
  | _ => none
section
variable {K : PySem.W.Frag} {mg : Str → Option Value} {w : Wd} {H : Hp} {S : Store}
theorem keyOf_rep {d : D} {k : Key} {v : V} (h : keyOf d = some k) (r : Rep K w H d v) : v = kV k := by
  cases d <;> simp only [keyOf, Option.some.injEq, reduceCtorEq] at h
  · subst h; exact rep_int r
  · subst h; exact rep_str r
theorem keysOf_rep : ∀ {ds : List D} {ks : List Key} {vs : List V}, keysOf ds = some ks → Reps K w H ds vs → vs = ks.map kV
  | [], ks, vs, h, r => by
    simp only [keysOf, Option.some.injEq] at h
    simp only [Reps] at r
    subst h r
    rfl
  | d :: ds, ks, vs, h, r => by
    simp only [keysOf] at h
    split at h
    · rename_i k ks' h1 h2
      cases h
      simp only [Reps] at r
      obtain ⟨v, us, rfl, e, r⟩ := r
      rw [keyOf_rep h1 e, keysOf_rep h2 r]
      rfl
    · cases h
theorem RKv.look {κ : Type} [DecidableEq κ] (k : κ) : ∀ {kvs : List (κ × D)} {vs : List (κ × V)}, RKv K w H kvs vs → RepO K w H (lookK kvs k) (valV vs k) ∧ (lookK kvs k = none → valV vs k = none)
  | [], _, h => by
    simp only [RKv] at h; subst h
    exact ⟨trivial, fun _ => rfl⟩
  | (j, d) :: kvs, _, h => by
    obtain ⟨v, r, rfl, h1, h2⟩ := h
    unfold lookK
    by_cases e : j = k
    · rw [valV_pos (p := (j, v)) e, List.find?_cons_of_pos (by simp [e])]
      exact ⟨h1, fun z => by cases z⟩
    · rw [valV_neg (p := (j, v)) e, List.find?_cons_of_neg (by simp [e])]
      exact RKv.look k h2
theorem RKv.length {κ : Type} : ∀ {kvs : List (κ × D)} {vs : List (κ × V)}, RKv K w H kvs vs → kvs.length = vs.length
  | [], _, h => by simp only [RKv] at h; subst h; rfl
  | (j, d) :: kvs, _, h => by
    obtain ⟨v, r, rfl, h1, h2⟩ := h
    simp [RKv.length h2]
theorem obK_rep {o : Ob} {u : HO} {kvs : List (Key × D)} (h : obK o = some kvs) (k : HoOk K w H mg o u) {a : Addr} (e : H a = some u) : ∃ vs, Rd H a (.dK vs) ∧ RKv K w H kvs vs := by
  unfold obK at h
  split at h
  · cases h
    obtain ⟨vs, rfl, r⟩ := k
    exact ⟨vs, .inl e, r⟩
  · cases h
    obtain ⟨od, u', rfl, k⟩ := k
    obtain ⟨vs, rfl, r⟩ := k
    exact ⟨vs, .inr ⟨od, e⟩, r⟩
  · cases h
theorem obT_rep {o : Ob} {u : HO} {kvs : List (List Key × D)} (h : obT o = some kvs) (k : HoOk K w H mg o u) {a : Addr} (e : H a = some u) : ∃ vs, Rd H a (.dT vs) ∧ RKv K w H kvs vs := by
  unfold obT at h
  split at h
  · cases h
    obtain ⟨vs, rfl, r⟩ := k
    exact ⟨vs, .inl e, r⟩
  · cases h
    obtain ⟨od, u', rfl, k⟩ := k
    obtain ⟨vs, rfl, r⟩ := k
    exact ⟨vs, .inr ⟨od, e⟩, r⟩
  · cases h
theorem dlook_rep {d k : D} {o : Option D} {x y : V} (A : Ab K w H mg S) (h : dlook S d k = some o) (rd : Rep K w H d x) (rk : Rep K w H k y) :
    ∃ a r, x = .ref a ∧ DGet H a y r ∧ RepO K w H o r ∧ (o = none → r = none) := by
  unfold dlook at h
  split at h
  · rename_i l
    simp only [Rep] at rd
    obtain ⟨a, el, rfl⟩ := rd
    split at h
    · rename_i ob q
      obtain ⟨u, eu, ko⟩ := A.ob l a ob el q
      split at h
      · rename_i kvs key h1 h2
        cases h
        obtain ⟨vs, hr, r⟩ := obK_rep h1 ko eu
        have := r.look key
        exact ⟨a, _, rfl, .inl ⟨vs, key, hr, keyOf_rep h2 rk, rfl⟩, this.1, this.2⟩
      · split at h
        · rename_i kvs ks h1 hno
          split at h
          · rename_i key h2
            cases h
            obtain ⟨vs, hr, r⟩ := obT_rep h1 ko eu
            obtain ⟨b, us, rfl, f, r'⟩ := tup_rep rk
            have := r.look key
            have e2 := keysOf_rep h2 r'
            subst e2
            exact ⟨a, _, rfl, .inr ⟨vs, key, b, hr, rfl, f, rfl⟩, this.1, this.2⟩
          · cases h
        · cases h
    · cases h
  · cases h
end

/-! ### subscripts -/
section
variable {X : Cx} {W : XW}
def rIxDct : R2 := fun x y H Q => ∃ a v, x = .ref a ∧ DGet H a y (some v) ∧ Q v H
theorem ix_dict (hu : X.A.units + 1 < cLine) : IxR X rIxDct := by
  intro value slice pins s σ H x y v u Q I rx ry h hs
  obtain ⟨a, z, rfl, g, q⟩ := h
  cases rx
  exact PyProof.Rows.tail_any (dict_typeIs I g) PySem.F.slot_dict_getitem.lookup (d_getItem hu I g ry fun w' s' I' r' => ⟨z, H, I', r', q⟩) hs
def seqOf (S : Store) (d : D) : Option (List D) := match rdL S d with
  | some ds => some ds
  | none => rdT d
def ixD (d i : D) (S : Store) : Res D := match d, i with
  | .str z, .int n => if z.length ≤ sizeLine then (match atI z.cps.toList n with
    | some c => .ok (.str ⟨#[c]⟩) S
    | none => .stuck) else .stuck
  | d, i => match seqOf S d with
    | some ds => match i with
      | .int n => match atI ds n with
        | some e => .ok e S
        | none => .stuck
      | _ => .stuck
    | none => match dlook S d i with
      | some (some e) => .ok e S
      | _ => .stuck
theorem od_ix (hu : X.A.units + 1 < cLine) : ∃ r, IxR X r ∧ Op2 X W r ixD := by
  refine ⟨_, ix_list.or (ix_tup.or (ix_str.or (ix_dict hu))), fun w H S d e x y σ Q A rd re P => ?_⟩
  unfold ixD at P
  split at P
  · split at P
    · rename_i hz
      split at P
      · rename_i c hc
        exact .inr (.inr (.inl ⟨_, _, c, rep_str rd, rep_int re, hz, hc, P.fin A (of_str _)⟩))
      · exact P.elim
    · exact P.elim
  · split at P
    · rename_i ds hd
      split at P
      · split at P
        · rename_i n d' hn
          unfold seqOf at hd
          split at hd
          · rename_i xs hx
            cases hd
            obtain ⟨a, vs, rfl, f, r⟩ := rdL_rep A hx rd
            obtain ⟨v, hv, rv⟩ := r.at hn
            exact .inl ⟨a, vs, _, v, rfl, rep_int re, f, hv, P.fin A rv⟩
          · obtain ⟨a, vs, rfl, f, r⟩ := rdT_rep hd rd
            obtain ⟨v, hv, rv⟩ := r.at hn
            exact .inr (.inl ⟨a, vs, _, v, rfl, rep_int re, f, hv, P.fin A rv⟩)
        · exact P.elim
      · exact P.elim
    · split at P
      · rename_i hl
        obtain ⟨a, r, rfl, g, ro, _⟩ := dlook_rep A hl rd re
        cases r with
        | none => exact ro.elim
        | some v => exact .inr (.inr (.inr ⟨a, v, rfl, g, P.fin A ro⟩))
      · exact P.elim
theorem pm_ix {a b : Expr} {pos : Pos} {ma mb : DSt → Store → Res D} (hu : X.A.units + 1 < cLine) (ha : PM X W a ma) (hb : PM X W b mb) (hs : PlainIx b) : PM X W (.Subscript a b pos) (m2 ma mb ixD) :=
  let ⟨_, h1, h2⟩ := od_ix hu
  PE.imp (pe_ix h1 ha hb hs) fun _ _ _ => tOf_two h2
/-- a slice's part -/
def PMO (X : Cx) (W : XW) (e : Option Expr) (m : DSt → Store → Res (Option Int)) : Prop := PO X e (fun σ H Q => ∃ w dσ S, Ab X.K w H X.mg S ∧ RSt X.K w H dσ σ ∧ Post X.K X.mg (fun _ _ (a b : Option Int) => a = b) W σ w H (m dσ S) Q)
def mNoPart (_ : DSt) (S : Store) : Res (Option Int) := .ok none S
def mPart (m : DSt → Store → Res D) (σ : DSt) (S : Store) : Res (Option Int) := (m σ S).bind fun d S1 => match d with
  | .int i => .ok (some i) S1
  | _ => .stuck
theorem PO.imp {e : Option Expr} {t t' : TO} (h : PO X e t) (k : ∀ σ H Q, t' σ H Q → t σ H Q) : PO X e t' := ⟨fun pins s σ H Q I q => h.run pins s σ H Q I (k σ H Q q)⟩
theorem pmo_none : PMO X W none mNoPart := PO.imp po_none fun σ H Q ⟨w, dσ, S, A, R, P⟩ => P.fin A rfl
theorem pmo_some {e : Expr} {m : DSt → Store → Res D} (h : PM X W e m) : PMO X W (some e) (mPart m) := PO.imp (po_some h) fun σ H Q ⟨w, dσ, S, A, R, P⟩ =>
  ⟨w, dσ, S, A, R, P.bind fun d S1 w1 H1 x e1 A1 r1 P1 => by
    cases d with
    | int i => exact ⟨i, rep_int r1, P1.fin A1 rfl⟩
    | _ => exact P1.elim⟩
def cut {α : Type} (xs : List α) (lo hi : Option Int) : List α := (xs.drop (HT.sIx xs.length 0 lo)).take (HT.sIx xs.length xs.length hi - HT.sIx xs.length 0 lo)
theorem Reps.cut {K : PySem.W.Frag} {w : Wd} {H : Hp} {ds : List D} {vs : List V} (h : Reps K w H ds vs) (lo hi : Option Int) : Reps K w H (L3.cut ds lo hi) (cutV vs lo hi) := by
  unfold L3.cut cutV
  rw [h.length]
  exact (h.drop _).take _
def sliceD (d : D) (lo hi : Option Int) (S : Store) : Res D := match d with
  | .str z => if z.length ≤ sizeLine then .ok (.str (cutS z lo hi)) S else .stuck
  | .tup ds => .ok (.tup (L3.cut ds lo hi)) S
  | .ktp ds => if HT.sIx ds.length 0 lo = 0 ∧ HT.sIx ds.length ds.length hi = ds.length then .ok (.ktp ds) S else .ok (.tup (L3.cut ds lo hi)) S
  | d => match rdL S d with
    | some ds => .ok (.lst (L3.cut ds lo hi)) S
    | none => .stuck
def mSl (m : DSt → Store → Res D) (ml mh : DSt → Store → Res (Option Int)) (σ : DSt) (S : Store) : Res D :=
  (m σ S).bind fun d S1 => (ml σ S1).bind fun lo S2 => (mh σ S2).bind fun hi S3 => sliceD d lo hi S3
theorem pm_slice {e : Expr} {lo hi : Option Expr} {p2 pos : Pos} {m : DSt → Store → Res D} {ml mh : DSt → Store → Res (Option Int)} (he : PM X W e m) (hl : PMO X W lo ml) (hh : PMO X W hi mh) :
    PM X W (.Subscript e (.Slice lo hi none p2) pos) (mSl m ml mh) := by
  refine PE.imp (pe_slice (sl_list.or (sl_tupA.or sl_str)) he hl hh) fun σ H Q ⟨w, dσ, S, A, R, P⟩ => ?_
  refine ⟨w, dσ, S, A, R, P.bind fun d S1 w1 H1 x e1 A1 r1 P1 => ⟨w1, dσ, S1, A1, R.mono e1, P1.bind fun lo' S2 w2 H2 l2 e2 A2 r2 P2 => ⟨w2, dσ, S2, A2, (R.mono e1).mono e2, P2.bind fun hi' S3 w3 H3 h3 e3 A3 r3 P3 => ?_⟩⟩⟩
  subst r2 r3
  have rd := (r1.mono e2).mono e3
  unfold sliceD at P3
  split at P3
  · split at P3
    · rename_i hz
      exact .inr (.inr ⟨_, rep_str rd, hz, P3.fin A3 (of_str _)⟩)
    · exact P3.elim
  · rename_i ds
    obtain ⟨a, vs, rfl, f, r⟩ := tup_rep rd
    refine .inr (.inl ⟨a, vs, rfl, .of f, fun z => ?_, fun _ p hp => P3 w3 _ _ (Ex.new hp) (A3.newF hp) (Rep.tupNew A3 hp (r.cut lo' hi'))⟩)
    have e : L3.cut ds lo' hi' = ds := by
      unfold L3.cut
      rw [← r.length] at z
      rw [z.1, z.2, List.drop_zero, Nat.sub_zero, List.take_length]
    rw [e] at P3
    exact P3.fin A3 rd
  · rename_i ds
    have rd' := rd
    simp only [Rep] at rd'
    obtain ⟨a, vs, rfl, f, r⟩ := rd'
    refine .inr (.inl ⟨a, vs, rfl, kp_sq f, fun z => ?_, fun z p hp => ?_⟩)
    · rw [r.length, if_pos z] at P3
      exact P3.fin A3 rd
    · rw [r.length, if_neg z] at P3
      exact P3 w3 _ _ (Ex.new hp) (A3.newF hp) (Rep.tupNew A3 hp (r.cut lo' hi'))
  · split at P3
    · rename_i ds hd
      obtain ⟨a, vs, rfl, f, r⟩ := rdL_rep A3 hd rd
      exact .inl ⟨a, vs, rfl, f, fun p hp => P3 w3 _ _ (Ex.new hp) (A3.newF hp) (Rep.lstNew A3 hp (r.cut lo' hi'))⟩
    · exact P3.elim
end
end L3
namespace L3
open PySem PySem.Spec L2

/-! ### argument lists, displays, and, or -/
section
variable {X : Cx} {W : XW}
def mNil (_ : DSt) (S : Store) : Res (List D) := .ok [] S
def mCons (m : DSt → Store → Res D) (ms : DSt → Store → Res (List D)) (σ : DSt) (S : Store) : Res (List D) := (m σ S).bind fun d S1 => (ms σ S1).bind fun ds S2 => .ok (d :: ds) S2
theorem pma_nil : PMA X W [] mNil := PA.imp pa_nil fun σ H Q ⟨w, dσ, S, A, R, P⟩ => P.fin A .nil
theorem pma_cons {e : Expr} {es : List Expr} {m : DSt → Store → Res D} {ms : DSt → Store → Res (List D)} (ha : PM X W e m) (hr : PMA X W es ms) (hs : starEach (e :: es) X.env = (false, eval e X.env) :: starEach es X.env := by rfl) : PMA X W (e :: es) (mCons m ms) :=
  PA.imp (pa_cons ha hr hs) fun σ H Q ⟨w, dσ, S, A, R, P⟩ => ⟨w, dσ, S, A, R, P.bind fun d S1 w1 H1 x e1 A1 r1 P1 => ⟨w1, dσ, S1, A1, R.mono e1, P1.bind fun ds S2 w2 H2 xs e2 A2 r2 P2 => P2.fin A2 (.cons (r1.mono e2) r2)⟩⟩
def mTup (ms : DSt → Store → Res (List D)) (σ : DSt) (S : Store) : Res D := (ms σ S).bind fun ds S1 => if ds.length ≤ sizeLine then .ok (.tup ds) S1 else .stuck
def mLst (ms : DSt → Store → Res (List D)) (σ : DSt) (S : Store) : Res D := (ms σ S).bind fun ds S1 => if ds.length ≤ sizeLine then .ok (.lst ds) S1 else .stuck
/-- a list that will be changed -/
def mLstM (ms : DSt → Store → Res (List D)) (σ : DSt) (S : Store) : Res D := (ms σ S).bind fun ds S1 => if ds.length ≤ sizeLine then .ok (.loc S1.length) (S1 ++ [.lst ds]) else .stuck
theorem pm_tup {es : List Expr} {x1} {pos : Pos} {ms : DSt → Store → Res (List D)} (h : PMA X W es ms) : PM X W (.Tuple es x1 pos) (mTup ms) :=
  PE.imp (pe_tup h) fun σ H Q ⟨w, dσ, S, A, R, P⟩ => ⟨w, dσ, S, A, R, P.bind fun ds S1 w1 H1 xs e1 A1 r1 P1 => by
    split at P1
    · rename_i hz
      exact ⟨by rw [← r1.length]; exact hz, fun p hp => P1 w1 _ _ (Ex.new hp) (A1.newF hp) (Rep.tupNew A1 hp r1)⟩
    · exact P1.elim⟩
theorem pm_lst {es : List Expr} {pos : Pos} {ms : DSt → Store → Res (List D)} (h : PMA X W es ms) : PM X W (.List es pos) (mLst ms) :=
  PE.imp (pe_lst h) fun σ H Q ⟨w, dσ, S, A, R, P⟩ => ⟨w, dσ, S, A, R, P.bind fun ds S1 w1 H1 xs e1 A1 r1 P1 => by
    split at P1
    · rename_i hz
      exact ⟨by rw [← r1.length]; exact hz, fun p hp => P1 w1 _ _ (Ex.new hp) (A1.newF hp) (Rep.lstNew A1 hp r1)⟩
    · exact P1.elim⟩
theorem newLst {K : PySem.W.Frag} {mg : Str → Option Value} {w : Wd} {H : Hp} {S : Store} {p : Addr} {ds : List D} {vs : List V} (A : Ab K w H mg S) (hp : H p = none) (r : Reps K w H ds vs) :
    Ab K ⟨w.M ++ [p], w.B⟩ (upd H p (.lst vs)) mg (S ++ [.lst ds]) := A.newM hp ⟨vs, rfl, r.mono (Ex.newM hp)⟩
theorem pm_lstM {es : List Expr} {pos : Pos} {ms : DSt → Store → Res (List D)} (h : PMA X W es ms) : PM X W (.List es pos) (mLstM ms) :=
  PE.imp (pe_lst h) fun σ H Q ⟨w, dσ, S, A, R, P⟩ => ⟨w, dσ, S, A, R, P.bind fun ds S1 w1 H1 xs e1 A1 r1 P1 => by
    split at P1
    · rename_i hz
      exact ⟨by rw [← r1.length]; exact hz, fun p hp => P1 _ _ _ (Ex.newM hp) (newLst A1 hp r1) (Rep.locNew A1)⟩
    · exact P1.elim⟩
theorem pm_dictT {pos : Pos} : PM X W (.Dict [] [] pos) (fun _ S => .ok (.loc S.length) (S ++ [.dT []])) :=
  PE.imp pe_dnewT fun σ H Q ⟨w, dσ, S, A, R, P⟩ p hp => P _ _ _ (Ex.newM hp) (A.newM hp ⟨[], rfl, rfl⟩) (Rep.locNew A)
def mAndT (a b : DSt → Store → Res Bool) (σ : DSt) (S : Store) : Res Bool := (a σ S).bind fun x S1 => if x = true then b σ S1 else .ok false S1
def mOrT (a b : DSt → Store → Res Bool) (σ : DSt) (S : Store) : Res Bool := (a σ S).bind fun x S1 => if x = true then .ok true S1 else b σ S1
abbrev PMW (X : Cx) (W : XW) (e : Expr) (m : DSt → Store → Res Bool) : Prop := PW X e (tOfT X.K X.mg W m)
theorem PW.imp {e : Expr} {t t' : TT} (h : PW X e t) (k : ∀ σ H Q, t' σ H Q → t σ H Q) : PW X e t' := ⟨fun wh pins s σ H Q I q => h.run wh pins s σ H Q I (k σ H Q q)⟩
theorem pmw_and1 {a : Expr} {pos : Pos} {m : DSt → Store → Res Bool} (h : PMT X W a m) : PMW X W (.BoolOp .And [a] pos) m := pw_and1 h
theorem pmw_or1 {a : Expr} {pos : Pos} {m : DSt → Store → Res Bool} (h : PMT X W a m) : PMW X W (.BoolOp .Or [a] pos) m := pw_or1 h
theorem pmw_and {a b : Expr} {rest : List Expr} {pos : Pos} {m n : DSt → Store → Res Bool} (h : PMT X W a m) (h2 : PMW X W (.BoolOp .And (b :: rest) pos) n) : PMW X W (.BoolOp .And (a :: b :: rest) pos) (mAndT m n) :=
  PW.imp (pw_and h h2) fun σ H Q ⟨w, dσ, S, A, R, P⟩ => ⟨w, dσ, S, A, R, P.bind fun d S1 w1 H1 x e1 A1 r1 P1 => by
    cases (show d = x from r1)
    split at P1
    · rename_i hd
      rw [if_pos hd]
      exact ⟨w1, dσ, S1, A1, R.mono e1, P1⟩
    · rename_i hd
      rw [if_neg hd]
      exact P1.fin A1 rfl⟩
theorem pmw_or {a b : Expr} {rest : List Expr} {pos : Pos} {m n : DSt → Store → Res Bool} (h : PMT X W a m) (h2 : PMW X W (.BoolOp .Or (b :: rest) pos) n) : PMW X W (.BoolOp .Or (a :: b :: rest) pos) (mOrT m n) :=
  PW.imp (pw_or h h2) fun σ H Q ⟨w, dσ, S, A, R, P⟩ => ⟨w, dσ, S, A, R, P.bind fun d S1 w1 H1 x e1 A1 r1 P1 => by
    cases (show d = x from r1)
    split at P1
    · rename_i hd
      rw [if_pos hd]
      exact P1.fin A1 rfl
    · rename_i hd
      rw [if_neg hd]
      exact ⟨w1, dσ, S1, A1, R.mono e1, P1⟩⟩
theorem PMW.pt {e : Expr} {m : DSt → Store → Res Bool} (h : PMW X W e m) : PMT X W e m := L2.PW.pt h
/-- and, or, not of truths, as values -/
def mAndV (a b : DSt → Store → Res D) (σ : DSt) (S : Store) : Res D := (a σ S).bind fun x S1 => match x with
  | .bl true => b σ S1
  | .bl false => .ok (.bl false) S1
  | _ => .stuck
def mOrV (a b : DSt → Store → Res D) (σ : DSt) (S : Store) : Res D := (a σ S).bind fun x S1 => match x with
  | .bl true => .ok (.bl true) S1
  | .bl false => b σ S1
  | _ => .stuck
def mNotV (a : DSt → Store → Res D) (σ : DSt) (S : Store) : Res D := (a σ S).bind fun x S1 => match x with
  | .bl k => .ok (.bl (!k)) S1
  | _ => .stuck
theorem pm_one {op} {a : Expr} {pos : Pos} {m : DSt → Store → Res D} (h : PM X W a m) : PM X W (.BoolOp op [a] pos) m := pe_one h
theorem pm_and {a b : Expr} {rest : List Expr} {pos : Pos} {m n : DSt → Store → Res D} (h : PM X W a m) (h2 : PM X W (.BoolOp .And (b :: rest) pos) n) : PM X W (.BoolOp .And (a :: b :: rest) pos) (mAndV m n) :=
  PE.imp (pe_and h h2) fun σ H Q ⟨w, dσ, S, A, R, P⟩ => ⟨w, dσ, S, A, R, P.bind fun d S1 w1 H1 x e1 A1 r1 P1 => by
    split at P1
    · exact ⟨true, rep_bl r1, by rw [if_pos rfl]; exact ⟨w1, dσ, S1, A1, R.mono e1, P1⟩⟩
    · exact ⟨false, rep_bl r1, by rw [if_neg Bool.false_ne_true]; exact P1.fin A1 (of_bl _)⟩
    · exact P1.elim⟩
theorem pm_not {a : Expr} {pos : Pos} {m : DSt → Store → Res D} (h : PM X W a m) : PM X W (.UnaryOp .Not a pos) (mNotV m) :=
  PE.imp (pe_not h) fun σ H Q ⟨w, dσ, S, A, R, P⟩ => ⟨w, dσ, S, A, R, P.bind fun d S1 w1 H1 x e1 A1 r1 P1 => by
    split at P1
    · exact ⟨_, rep_bl r1, P1.fin A1 (of_bl _)⟩
    · exact P1.elim⟩
def mIf (c : DSt → Store → Res Bool) (a b : DSt → Store → Res D) (σ : DSt) (S : Store) : Res D := (c σ S).bind fun x S1 => if x = true then a σ S1 else b σ S1
theorem pm_ifExp {c a b : Expr} {pos : Pos} {mc : DSt → Store → Res Bool} {ma mb : DSt → Store → Res D} (hc : PMT X W c mc) (ha : PM X W a ma) (hb : PM X W b mb) : PM X W (.IfExp c a b pos) (mIf mc ma mb) :=
  PE.imp (pe_ifExp hc ha hb) fun σ H Q ⟨w, dσ, S, A, R, P⟩ => ⟨w, dσ, S, A, R, P.bind fun d S1 w1 H1 x e1 A1 r1 P1 => by
    cases (show d = x from r1)
    split at P1
    · rename_i hd
      rw [if_pos hd]
      exact ⟨w1, dσ, S1, A1, R.mono e1, P1⟩
    · rename_i hd
      rw [if_neg hd]
      exact ⟨w1, dσ, S1, A1, R.mono e1, P1⟩⟩
def mNeg (m : DSt → Store → Res D) (σ : DSt) (S : Store) : Res D := (m σ S).bind fun d S1 => match d with
  | .int i => .ok (.int (-i)) S1
  | _ => .stuck
end

/-! ### statements -/
inductive Fl where
  | nx (σ : DSt) | rt (d : D) | bk (σ : DSt) | ct (σ : DSt) | ex (c : Str) (fs : List (Str × D)) (σ : DSt)
def PostS (K : PySem.W.Frag) (mg : Str → Option Value) (W : XW) (w : Wd) (H : Hp) (r : Res Fl) (D : Ends) : Prop := match r with
  | .ok (.nx dσ) S => ∀ w' H' σ', Ex w H w' H' → Ab K w' H' mg S → RSt K w' H' dσ σ' → D.nx σ' H'
  | .ok (.bk dσ) S => ∀ w' H' σ', Ex w H w' H' → Ab K w' H' mg S → RSt K w' H' dσ σ' → D.bk σ' H'
  | .ok (.ct dσ) S => ∀ w' H' σ', Ex w H w' H' → Ab K w' H' mg S → RSt K w' H' dσ σ' → D.ct σ' H'
  | .ok (.rt d) S => ∀ w' H' v, Ex w H w' H' → Ab K w' H' mg S → Rep K w' H' d v → D.rt v H'
  | .ok (.ex c fs dσ) S => ∀ w' H' σ' C od, Ex w H w' H' → Ab K w' H' mg S → RSt K w' H' dσ σ' → mg c = some (.ref C) → XRel K w' H' fs od → W (.ref C) od σ' H'
  | _ => False
def liftE {α : Type} (r : Res α) (σ : DSt) (f : α → Store → Res Fl) : Res Fl := match r with
  | .ok a S => f a S
  | .exc c fs S => .ok (.ex c fs σ) S
  | .stuck => .stuck
@[simp] theorem liftE_ok {α : Type} (a : α) (S : Store) (σ : DSt) (f : α → Store → Res Fl) : liftE (.ok a S) σ f = f a S := (rfl)
@[simp] theorem liftE_exc {α : Type} (c : Str) (fs : List (Str × D)) (S : Store) (σ : DSt) (f : α → Store → Res Fl) : liftE (.exc c fs S) σ f = .ok (.ex c fs σ) S := (rfl)
@[simp] theorem liftE_stuck {α : Type} (σ : DSt) (f : α → Store → Res Fl) : liftE .stuck σ f = .stuck := (rfl)
def tOfS (K : PySem.W.Frag) (mg : Str → Option Value) (W : XW) (m : DSt → Store → Res Fl) : TS := fun D σ H => ∃ w dσ S, Ab K w H mg S ∧ RSt K w H dσ σ ∧ PostS K mg W w H (m dσ S) D
abbrev PMS (X : Cx) (W : XW) (s : Stmt) (m : DSt → Store → Res Fl) : Prop := PS X s (tOfS X.K X.mg W m)
abbrev PMSs (X : Cx) (W : XW) (s : List Stmt) (m : DSt → Store → Res Fl) : Prop := PSs X s (tOfS X.K X.mg W m)
section
variable {α β : Type} {K : PySem.W.Frag} {mg : Str → Option Value} {R : Wd → Hp → α → β → Prop} {W : XW} {σ : L2.St} {w w' : Wd} {H H' : Hp} {D : Ends}
theorem PostS.ex {r : Res Fl} (h : PostS K mg W w H r D) (e : Ex w H w' H') : PostS K mg W w' H' r D := by
  cases r with
  | ok a S => cases a with
    | nx d => exact fun w2 H2 v e2 => h w2 H2 v (e.trans e2)
    | bk d => exact fun w2 H2 v e2 => h w2 H2 v (e.trans e2)
    | ct d => exact fun w2 H2 v e2 => h w2 H2 v (e.trans e2)
    | rt d => exact fun w2 H2 v e2 => h w2 H2 v (e.trans e2)
    | ex c fs d => exact fun w2 H2 v C od e2 => h w2 H2 v C od (e.trans e2)
  | exc c fs S => exact h
  | stuck => exact h
theorem PostS.bindE {r : Res α} {dσ : DSt} {f : α → Store → Res Fl} {Q' : β → Hp → Prop} (h : PostS K mg W w H (liftE r dσ f) D) (q : RSt K w H dσ σ)
    (k : ∀ a S1 w1 H1 v, Ex w H w1 H1 → Ab K w1 H1 mg S1 → R w1 H1 a v → PostS K mg W w1 H1 (f a S1) D → Q' v H1) : Post K mg R W σ w H r Q' := by
  cases r with
  | ok a S => exact fun w2 H2 v e2 A2 r2 => k a S w2 H2 v e2 A2 r2 (PostS.ex h e2)
  | exc c fs S => exact fun w2 H2 C od e2 A2 g x => h w2 H2 σ C od e2 A2 (q.mono e2) g x
  | stuck => exact h
theorem PostS.nx {dσ : DSt} {S : Store} (h : PostS K mg W w H (.ok (.nx dσ) S) D) (A : Ab K w H mg S) (r : RSt K w H dσ σ) : D.nx σ H := h w H σ (Ex.refl _ _) A r
theorem RSt.set {dσ : DSt} {d : L3.D} {v : V} (h : RSt K w H dσ σ) (r : Rep K w H d v) (i : Nat) : RSt K w H (dσ.set i (some d)) (σ.set i (some v)) := by
  refine ⟨by simpa using h.1, fun j e hj => ?_⟩
  by_cases z : i = j
  · subst z
    by_cases hl : i < dσ.length
    · rw [List.getElem?_set_self hl] at hj
      cases hj
      exact ⟨v, by rw [List.getElem?_set_self (by rw [← h.1]; exact hl)], r⟩
    · rw [List.getElem?_eq_none (by simpa using hl)] at hj
      cases hj
  · rw [List.getElem?_set_ne z] at hj ⊢
    exact h.2 j e hj
end
def mSkip (σ : DSt) (S : Store) : Res Fl := .ok (.nx σ) S
def thenS (r : Res Fl) (f : DSt → Store → Res Fl) : Res Fl := match r with
  | .ok (.nx σ) S => f σ S
  | r => r
@[simp] theorem thenS_nx (σ : DSt) (S : Store) (f : DSt → Store → Res Fl) : thenS (.ok (.nx σ) S) f = f σ S := (rfl)
@[simp] theorem thenS_rt (d : D) (S : Store) (f : DSt → Store → Res Fl) : thenS (.ok (.rt d) S) f = .ok (.rt d) S := (rfl)
@[simp] theorem thenS_bk (d : DSt) (S : Store) (f : DSt → Store → Res Fl) : thenS (.ok (.bk d) S) f = .ok (.bk d) S := (rfl)
@[simp] theorem thenS_ct (d : DSt) (S : Store) (f : DSt → Store → Res Fl) : thenS (.ok (.ct d) S) f = .ok (.ct d) S := (rfl)
@[simp] theorem thenS_ex (c : Str) (fs : List (Str × D)) (d : DSt) (S : Store) (f : DSt → Store → Res Fl) : thenS (.ok (.ex c fs d) S) f = .ok (.ex c fs d) S := (rfl)
@[simp] theorem thenS_stuck (f : DSt → Store → Res Fl) : thenS .stuck f = .stuck := (rfl)
def mSeq (a b : DSt → Store → Res Fl) (σ : DSt) (S : Store) : Res Fl := thenS (a σ S) b
theorem PostS.seq {K : PySem.W.Frag} {mg : Str → Option Value} {W : XW} {w : Wd} {H : Hp} {D : Ends} {r : Res Fl} {f : DSt → Store → Res Fl} (h : PostS K mg W w H (thenS r f) D) : PostS K mg W w H r { D with nx := tOfS K mg W f D } := by
  cases r with
  | ok a S => cases a with
    | nx d => exact fun w2 H2 σ2 e2 A2 r2 => ⟨w2, d, S, A2, r2, PostS.ex h e2⟩
    | bk d => exact h
    | ct d => exact h
    | rt d => exact h
    | ex c fs d => exact h
  | exc c fs S => exact h
  | stuck => exact h
section
variable {X : Cx} {W : XW} {st : Stmt} {rest : List Stmt} {pos : Pos} {e : Expr} {m : DSt → Store → Res D}
theorem pms_nil : PMSs X W [] mSkip := PSs.imp pss_nil fun D σ H ⟨w, dσ, S, A, R, P⟩ => P.nx A R
theorem pms_cons {a b : DSt → Store → Res Fl} (h1 : PMS X W st a) (h2 : PMSs X W rest b) : PMSs X W (st :: rest) (mSeq a b) :=
  PSs.imp (pss_cons h1 h2) fun D σ H ⟨w, dσ, S, A, R, P⟩ => ⟨w, dσ, S, A, R, P.seq⟩
theorem pms_one {a : DSt → Store → Res Fl} (h1 : PMS X W st a) : PMSs X W [st] a := pss_one h1
def mDo (m : DSt → Store → Res D) (σ : DSt) (S : Store) : Res Fl := liftE (m σ S) σ fun _ S1 => .ok (.nx σ) S1
theorem pms_expr (he : PM X W e m) (hs : swapsWith e none pos.line X.env = pure false := by rfl) : PMS X W (.Expr e pos) (mDo m) :=
  PS.imp (ps_expr he hs) fun D σ H ⟨w, dσ, S, A, R, P⟩ => ⟨w, dσ, S, A, R, P.bindE R fun d S1 w1 H1 v e1 A1 r1 P1 => P1.nx A1 (R.mono e1)⟩
def mRet (m : DSt → Store → Res D) (σ : DSt) (S : Store) : Res Fl := liftE (m σ S) σ fun d S1 => .ok (.rt d) S1
theorem pms_ret (he : PM X W e m) : PMS X W (.Return (some e) pos) (mRet m) :=
  PS.imp (ps_ret he) fun D σ H ⟨w, dσ, S, A, R, P⟩ => ⟨w, dσ, S, A, R, P.bindE R fun d S1 w1 H1 v e1 A1 r1 P1 => P1 w1 H1 v (Ex.refl _ _) A1 r1⟩
def mIfS (c : DSt → Store → Res Bool) (a b : DSt → Store → Res Fl) (σ : DSt) (S : Store) : Res Fl := liftE (c σ S) σ fun x S1 => if x = true then a σ S1 else b σ S1
theorem pms_if {c : Expr} {a b : List Stmt} {mc : DSt → Store → Res Bool} {ma mb : DSt → Store → Res Fl} (hc : PMT X W c mc) (ha : PMSs X W a ma) (hb : PMSs X W b mb) : PMS X W (.If c a b pos) (mIfS mc ma mb) :=
  PS.imp (ps_if hc ha hb) fun D σ H ⟨w, dσ, S, A, R, P⟩ => ⟨w, dσ, S, A, R, P.bindE R fun d S1 w1 H1 v e1 A1 r1 P1 => by
    cases (show d = v from r1)
    split at P1
    · rename_i hd
      rw [if_pos hd]
      exact ⟨w1, dσ, S1, A1, R.mono e1, P1⟩
    · rename_i hd
      rw [if_neg hd]
      exact ⟨w1, dσ, S1, A1, R.mono e1, P1⟩⟩
def mSet (i : Nat) (m : DSt → Store → Res D) (σ : DSt) (S : Store) : Res Fl := liftE (m σ S) σ fun d S1 => .ok (.nx (σ.set i (some d))) S1
theorem pms_set {i : Nat} {x : Str} {pos' : Pos} (hN : X.N.Nodup) (hi : X.N[i]? = some x) (hx : Loc X.env.scope x) (he : PM X W e m) (hs : swapsWith e (some (.Name x pos')) pos.line X.env = pure false := by rfl)
    (hf : X.fn x = true ∨ X.env.scope.names.lookup x = some .local := by first | exact .inl rfl | exact .inr rfl | assumption) : PMS X W (.Assign [.Name x pos'] e pos) (mSet i m) :=
  PS.imp (ps_set hN hi hx he hs hf) fun D σ H ⟨w, dσ, S, A, R, P⟩ => ⟨w, dσ, S, A, R, P.bindE R fun d S1 w1 H1 v e1 A1 r1 P1 => P1.nx A1 ((R.mono e1).set r1 i)⟩
end
end L3
namespace L3
open PySem PySem.Spec L2

/-! ### targets -/
def bindG {α β : Type} (r : Res α) (f : α → Store → Res β) : Res β := match r with
  | .ok a S => f a S
  | _ => .stuck
@[simp] theorem bindG_ok {α β : Type} (a : α) (S : Store) (f : α → Store → Res β) : bindG (.ok a S) f = f a S := (rfl)
@[simp] theorem bindG_stuck {α β : Type} (f : α → Store → Res β) : bindG (.stuck : Res α) f = .stuck := (rfl)
def PostG (K : PySem.W.Frag) (mg : Str → Option Value) (w : Wd) (H : Hp) (r : Res DSt) (Q : L2.St → Hp → Prop) : Prop := match r with
  | .ok dσ S => ∀ w' H' σ', Ex w H w' H' → Ab K w' H' mg S → RSt K w' H' dσ σ' → Q σ' H'
  | _ => False
def PostU (K : PySem.W.Frag) (mg : Str → Option Value) (w : Wd) (H : Hp) (r : Res Unit) (Q : Hp → Prop) : Prop := match r with
  | .ok _ S => ∀ w' H', Ex w H w' H' → Ab K w' H' mg S → Q H'
  | _ => False
section
variable {α β : Type} {K : PySem.W.Frag} {mg : Str → Option Value} {R : Wd → Hp → α → β → Prop} {W : XW} {σ : L2.St} {w w' : Wd} {H H' : Hp}
theorem PostG.ex {r : Res DSt} {Q : L2.St → Hp → Prop} (h : PostG K mg w H r Q) (e : Ex w H w' H') : PostG K mg w' H' r Q := by
  cases r with
  | ok a S => exact fun w2 H2 v e2 => h w2 H2 v (e.trans e2)
  | exc c fs S => exact h
  | stuck => exact h
theorem PostG.bind {r : Res α} {f : α → Store → Res DSt} {Q : L2.St → Hp → Prop} {Q' : β → Hp → Prop} (h : PostG K mg w H (bindG r f) Q)
    (k : ∀ a S1 w1 H1 v, Ex w H w1 H1 → Ab K w1 H1 mg S1 → R w1 H1 a v → PostG K mg w1 H1 (f a S1) Q → Q' v H1) : Post K mg R W σ w H r Q' := by
  cases r with
  | ok a S => exact fun w2 H2 v e2 A2 r2 => k a S w2 H2 v e2 A2 r2 (PostG.ex h e2)
  | exc c fs S => exact h.elim
  | stuck => exact h
theorem PostG.bindG {r : Res DSt} {f : DSt → Store → Res DSt} {Q Q' : L2.St → Hp → Prop} (h : PostG K mg w H (bindG r f) Q)
    (k : ∀ dσ S1 w1 H1 v, Ex w H w1 H1 → Ab K w1 H1 mg S1 → RSt K w1 H1 dσ v → PostG K mg w1 H1 (f dσ S1) Q → Q' v H1) : PostG K mg w H r Q' := by
  cases r with
  | ok a S => exact fun w2 H2 v e2 A2 r2 => k a S w2 H2 v e2 A2 r2 (PostG.ex h e2)
  | exc c fs S => exact h.elim
  | stuck => exact h
theorem PostG.bindU {r : Res Unit} {f : Unit → Store → Res DSt} {Q : L2.St → Hp → Prop} {Q' : Hp → Prop} (h : PostG K mg w H (L3.bindG r f) Q)
    (k : ∀ S1 w1 H1, Ex w H w1 H1 → Ab K w1 H1 mg S1 → PostG K mg w1 H1 (f () S1) Q → Q' H1) : PostU K mg w H r Q' := by
  cases r with
  | ok a S => exact fun w2 H2 e2 A2 => k S w2 H2 e2 A2 (PostG.ex h e2)
  | exc c fs S => exact h.elim
  | stuck => exact h
theorem PostG.fin {dσ : DSt} {S : Store} {Q : L2.St → Hp → Prop} (h : PostG K mg w H (.ok dσ S) Q) (A : Ab K w H mg S) (r : RSt K w H dσ σ) : Q σ H := h w H σ (Ex.refl _ _) A r
end
def tOfG (K : PySem.W.Frag) (mg : Str → Option Value) (m : D → DSt → Store → Res DSt) : TG := fun v σ H Q => ∃ w dσ S d, Ab K w H mg S ∧ RSt K w H dσ σ ∧ Rep K w H d v ∧ PostG K mg w H (m d dσ S) Q
def tOfGs (K : PySem.W.Frag) (mg : Str → Option Value) (m : List D → DSt → Store → Res DSt) : TGs := fun v σ H Q => ∃ w dσ S d, Ab K w H mg S ∧ RSt K w H dσ σ ∧ Reps K w H d v ∧ PostG K mg w H (m d dσ S) Q
abbrev PMG (X : Cx) (e : Expr) (m : D → DSt → Store → Res DSt) : Prop := PG X e (tOfG X.K X.mg m)
abbrev PMGs (X : Cx) (e : List Expr) (m : List D → DSt → Store → Res DSt) : Prop := PGs X e (tOfGs X.K X.mg m)
section
variable {X : Cx} {W : XW} {pos : Pos}
theorem PG.imp {e : Expr} {t t' : TG} (h : PG X e t) (k : ∀ v σ H Q, t' v σ H Q → t v σ H Q) : PG X e t' := ⟨fun pins s σ H v u Q I r q => h.run pins s σ H v u Q I r (k v σ H Q q)⟩
theorem PGs.imp {e : List Expr} {t t' : TGs} (h : PGs X e t) (k : ∀ v σ H Q, t' v σ H Q → t v σ H Q) : PGs X e t' := ⟨fun pins s σ H v u Q I r q => h.run pins s σ H v u Q I r (k v σ H Q q)⟩
def gtName (i : Nat) (d : D) (σ : DSt) (S : Store) : Res DSt := .ok (σ.set i (some d)) S
theorem pmg_name {i : Nat} {x : Str} (hN : X.N.Nodup) (hi : X.N[i]? = some x) (hx : Loc X.env.scope x) (hf : X.fn x = true ∨ X.env.scope.names.lookup x = some .local := by first | exact .inl rfl | exact .inr rfl | assumption) : PMG X (.Name x pos) (gtName i) :=
  PG.imp (pg_name hN hi hx hf) fun v σ H Q ⟨w, dσ, S, d, A, R, r, P⟩ => P.fin A (R.set r i)
def gtNil (ds : List D) (σ : DSt) (S : Store) : Res DSt := match ds with
  | [] => .ok σ S
  | _ => .stuck
def gtCons (f : D → DSt → Store → Res DSt) (g : List D → DSt → Store → Res DSt) (ds : List D) (σ : DSt) (S : Store) : Res DSt := match ds with
  | d :: r => bindG (f d σ S) fun σ1 S1 => g r σ1 S1
  | [] => .stuck
theorem pmgs_nil : PMGs X [] gtNil := PGs.imp pgs_nil fun v σ H Q ⟨w, dσ, S, d, A, R, r, P⟩ => by
  cases d with
  | nil => simp only [Reps] at r; exact ⟨r, P.fin A R⟩
  | cons d ds => exact P.elim
theorem pmgs_cons {e : Expr} {es : List Expr} {f : D → DSt → Store → Res DSt} {g : List D → DSt → Store → Res DSt} (h1 : PMG X e f) (h2 : PMGs X es g)
    (hs : (assignEach (e :: es) X.env).map (·.2) = assign e X.env :: (assignEach es X.env).map (·.2) := by rfl) : PMGs X (e :: es) (gtCons f g) :=
  PGs.imp (pgs_cons h1 h2 hs) fun v σ H Q ⟨w, dσ, S, d, A, R, r, P⟩ => by
    cases d with
    | nil => exact P.elim
    | cons d ds =>
      simp only [Reps] at r
      obtain ⟨v', r', rfl, r1, r2⟩ := r
      exact ⟨v', r', rfl, w, dσ, S, d, A, R, r1, PostG.bindG P fun dσ1 S1 w1 H1 σ1 e1 A1 R1 P1 => ⟨w1, dσ1, S1, ds, A1, R1, r2.mono e1, P1⟩⟩
def gtTup (n : Nat) (g : List D → DSt → Store → Res DSt) (d : D) (σ : DSt) (S : Store) : Res DSt := match rdT d with
  | some ds => if ds.length = n then g ds σ S else .stuck
  | none => .stuck
theorem pmg_tup {es : List Expr} {k : Nat} {g : List D → DSt → Store → Res DSt} {n : Nat} (hc : X.calm = true) (h : PMGs X es g)
    (hn : (assignEach es X.env).length = n := by rfl) (hst : (assignEach es X.env).findIdx? (·.1) = none := by rfl) : PMG X (.Tuple es k pos) (gtTup n g) :=
  PG.imp (pg_tup hc h hn hst) fun v σ H Q ⟨w, dσ, S, d, A, R, r, P⟩ => by
    unfold gtTup at P
    split at P
    · rename_i ds hd
      split at P
      · rename_i hl
        obtain ⟨a, vs, rfl, f, r'⟩ := rdT_rep hd r
        exact ⟨a, vs, rfl, f, by rw [← r'.length]; exact hl, w, dσ, S, ds, A, R, r', P⟩
      · exact P.elim
    · exact P.elim
/-- stores by values -/
def OpSet (X : Cx) (f : D → D → D → Store → Res Unit) : Prop := ∃ t, PSet X t ∧ ∀ w H S o i v vo vi vv Q, Ab X.K w H X.mg S → Rep X.K w H o vo → Rep X.K w H i vi → Rep X.K w H v vv → PostU X.K X.mg w H (f o i v S) Q → t vo vi vv H Q
theorem PSet.or {t t' : TSet} (h : PSet X t) (h' : PSet X t') : PSet X (fun o i v H Q => t o i v H Q ∨ t' o i v H Q) := by
  intro pins s σ H o i v ov iv u Q I r1 r2 r3 q
  rcases q with q | q
  · exact h pins s σ H o i v ov iv u Q I r1 r2 r3 q
  · exact h' pins s σ H o i v ov iv u Q I r1 r2 r3 q
theorem set_dict (hu : X.A.units + 1 < cLine) : PSet X (fun o i v H Q => ∃ a H4, o = .ref a ∧ DPut H a i v H4 ∧ Q H4) := by
  intro pins s σ H o i v ov iv u Q I r1 r2 r3 ⟨a, H4, e, g, q⟩
  subst e
  obtain rfl : ov = Value.ref a := r1
  exact d_setItem hu I g r2 r3 fun s' I' => ⟨H4, I', q⟩
def putD {κ : Type} [DecidableEq κ] (kvs : List (κ × D)) (k : κ) (v : D) : List (κ × D) := if (kvs.any fun kv => decide (kv.1 = k)) = true then kvs.map (fun kv => if kv.1 = k then (kv.1, v) else kv) else kvs ++ [(k, v)]
theorem RKv.any {κ : Type} [DecidableEq κ] (k : κ) {K : PySem.W.Frag} {w : Wd} {H : Hp} : ∀ {kvs : List (κ × D)} {vs : List (κ × V)}, RKv K w H kvs vs → (kvs.any fun kv => decide (kv.1 = k)) = vs.any fun kv => decide (kv.1 = k)
  | [], _, h => by simp only [RKv] at h; subst h; rfl
  | (j, d) :: kvs, _, h => by
    obtain ⟨v, r, rfl, h1, h2⟩ := h
    simp only [List.any_cons, RKv.any k h2]
theorem RKv.repl {κ : Type} [DecidableEq κ] (k : κ) {K : PySem.W.Frag} {w : Wd} {H : Hp} {d : D} {v : V} (r : Rep K w H d v) : ∀ {kvs : List (κ × D)} {vs : List (κ × V)}, RKv K w H kvs vs →
    RKv K w H (kvs.map fun kv => if kv.1 = k then (kv.1, d) else kv) (vs.map fun kv => if kv.1 = k then (kv.1, v) else kv)
  | [], _, h => by simp only [RKv] at h; subst h; rfl
  | (j, d') :: kvs, _, h => by
    obtain ⟨v', us, rfl, h1, h2⟩ := h
    simp only [List.map_cons]
    by_cases e : j = k
    · rw [if_pos e, if_pos e]
      exact ⟨_, _, rfl, r, RKv.repl k r h2⟩
    · rw [if_neg e, if_neg e]
      exact ⟨_, _, rfl, h1, RKv.repl k r h2⟩
theorem RKv.snoc {κ : Type} (k : κ) {K : PySem.W.Frag} {w : Wd} {H : Hp} {d : D} {v : V} (r : Rep K w H d v) : ∀ {kvs : List (κ × D)} {vs : List (κ × V)}, RKv K w H kvs vs → RKv K w H (kvs ++ [(k, d)]) (vs ++ [(k, v)])
  | [], _, h => by simp only [RKv] at h; subst h; exact ⟨_, _, rfl, r, rfl⟩
  | (j, d') :: kvs, _, h => by
    obtain ⟨v', us, rfl, h1, h2⟩ := h
    exact ⟨_, _, rfl, h1, RKv.snoc k r h2⟩
theorem RKv.put {κ : Type} [DecidableEq κ] (k : κ) {K : PySem.W.Frag} {w : Wd} {H : Hp} {d : D} {v : V} (r : Rep K w H d v) {kvs : List (κ × D)} {vs : List (κ × V)} (h : RKv K w H kvs vs) : RKv K w H (putD kvs k d) (putK vs k v) := by
  have e : putK vs k v = if (vs.any fun kv => decide (kv.1 = k)) = true then vs.map (fun kv => if kv.1 = k then (kv.1, v) else kv) else vs ++ [(k, v)] := rfl
  rw [e]
  unfold putD
  rw [RKv.any k h]
  split
  · exact RKv.repl k r h
  · exact RKv.snoc k r h
def setD (o i v : D) (S : Store) : Res Unit := match o with
  | .loc l => match S[l]? with
    | some (.lst ds) => match i with
      | .int k => match ixN ds.length k with
        | some j => .ok () (S.set l (.lst (ds.set j v)))
        | none => .stuck
      | _ => .stuck
    | some (.dK kvs) => match keyOf i with
      | some k => if kvs.length < sizeLine then .ok () (S.set l (.dK (putD kvs k v))) else .stuck
      | none => .stuck
    | some (.dT kvs) => match i with
      | .tup ks => match keysOf ks with
        | some k => if kvs.length < sizeLine then .ok () (S.set l (.dT (putD kvs k v))) else .stuck
        | none => .stuck
      | _ => .stuck
    | _ => .stuck
  | _ => .stuck
theorem os_set (hu : X.A.units + 1 < cLine) : OpSet X setD := by
  refine ⟨_, PSet.or set_list (set_dict hu), fun w H S o i v vo vi vv Q A ro ri rv P => ?_⟩
  unfold setD at P
  split at P
  · rename_i l
    simp only [Rep] at ro
    obtain ⟨a, el, rfl⟩ := ro
    have hmem : a ∈ w.M := List.mem_of_getElem? el
    split at P
    · rename_i ds q
      obtain ⟨u, eu, vs, rfl, r⟩ := A.ob l a _ el q
      split at P
      · split at P
        · rename_i k _ j hj
          exact .inl ⟨a, vs, k, j, rfl, rep_int ri, eu, by rw [← r.length]; exact hj, P w _ (Ex.wr hmem (nz_lst eu)) (A.wr el (nz_lst eu) ⟨_, rfl, r.set rv j⟩)⟩
        · exact P.elim
      · exact P.elim
    · rename_i kvs q
      obtain ⟨u, eu, vs, rfl, r⟩ := A.ob l a _ el q
      split at P
      · rename_i k hk
        split at P
        · rename_i hz
          refine .inr ⟨a, _, rfl, .inl ⟨vs, k, eu, keyOf_rep hk ri, by rw [← r.length]; exact hz, rfl⟩, P w _ (Ex.wr hmem (nz_dK eu)) (A.wr el (nz_dK eu) ⟨_, rfl, r.put k rv⟩)⟩
        · exact P.elim
      · exact P.elim
    · rename_i kvs q
      obtain ⟨u, eu, vs, rfl, r⟩ := A.ob l a _ el q
      split at P
      · split at P
        · rename_i ks _ k hk
          split at P
          · rename_i hz
            obtain ⟨b, us, rfl, f, r'⟩ := tup_rep ri
            have e2 := keysOf_rep hk r'
            subst e2
            refine .inr ⟨a, _, rfl, .inr ⟨vs, k, b, eu, rfl, f, by rw [← r.length]; exact hz, rfl⟩, P w _ (Ex.wr hmem (nz_dT eu)) (A.wr el (nz_dT eu) ⟨_, rfl, r.put k rv⟩)⟩
          · exact P.elim
        · exact P.elim
      · exact P.elim
    · exact P.elim
  · exact P.elim
def gtSub (mo mi : DSt → Store → Res D) (f : D → D → D → Store → Res Unit) (d : D) (σ : DSt) (S : Store) : Res DSt :=
  bindG (mo σ S) fun o S1 => bindG (mi σ S1) fun i S2 => bindG (f o i d S2) fun _ S3 => .ok σ S3
theorem pmg_sub {o i : Expr} {mo mi : DSt → Store → Res D} {f : D → D → D → Store → Res Unit} (ho : PM X W o mo) (hi : PM X W i mi) (hs : OpSet X f)
    (ha : ∀ v, assign (.Subscript o i pos) X.env v = (do
      let ov ← holding [v] (eval o X.env)
      let iv ← holding [v, ov] (eval i X.env)
      standAt pos
      holding [v, ov, iv] (setItem ov iv v)
      release [v, ov, iv] []) := by intro _; rfl) : PMG X (.Subscript o i pos) (gtSub mo mi f) := by
  obtain ⟨t, h1, h2⟩ := hs
  refine PG.imp (pg_sub ho hi h1 ha) fun v σ H Q ⟨w, dσ, S, d, A, R, r, P⟩ => ?_
  refine ⟨w, dσ, S, A, R, PostG.bind P fun od S1 w1 H1 x e1 A1 r1 P1 => ⟨w1, dσ, S1, A1, R.mono e1, PostG.bind P1 fun id S2 w2 H2 y e2 A2 r2 P2 => ?_⟩⟩
  refine h2 w2 H2 S2 od id d x y v _ A2 (r1.mono e2) r2 ((r.mono e1).mono e2) (PostG.bindU P2 fun S3 w3 H3 e3 A3 P3 => ?_)
  exact P3.fin A3 (((R.mono e1).mono e2).mono e3)
/-- target = value -/
def mAsg (m : DSt → Store → Res D) (g : D → DSt → Store → Res DSt) (σ : DSt) (S : Store) : Res Fl := liftE (m σ S) σ fun d S1 => bindG (g d σ S1) fun σ2 S2 => .ok (.nx σ2) S2
theorem PostS.bindG {K : PySem.W.Frag} {mg : Str → Option Value} {W : XW} {w : Wd} {H : Hp} {D : Ends} {r : Res DSt} {f : DSt → Store → Res Fl} {Q' : L2.St → Hp → Prop} (h : PostS K mg W w H (L3.bindG r f) D)
    (k : ∀ dσ S1 w1 H1 v, Ex w H w1 H1 → Ab K w1 H1 mg S1 → RSt K w1 H1 dσ v → PostS K mg W w1 H1 (f dσ S1) D → Q' v H1) : PostG K mg w H r Q' := by
  cases r with
  | ok a S => exact fun w2 H2 v e2 A2 r2 => k a S w2 H2 v e2 A2 r2 (PostS.ex h e2)
  | exc c fs S => exact h.elim
  | stuck => exact h
theorem pms_asg {tg e : Expr} {m : DSt → Store → Res D} {g : D → DSt → Store → Res DSt} (he : PM X W e m) (hg : PMG X tg g) (hs : swapsWithSole [tg] e pos.line X.env = pure false := by rfl) (hw : swappedStores [tg] e X.env = pure none := by rfl)
    (h1 : (assignEach [tg] X.env).map (·.2) = [assign tg X.env] := by rfl) : PMS X W (.Assign [tg] e pos) (mAsg m g) :=
  PS.imp (ps_asg he hg hs hw h1) fun D σ H ⟨w, dσ, S, A, R, P⟩ => ⟨w, dσ, S, A, R, P.bindE R fun d S1 w1 H1 v e1 A1 r1 P1 =>
    ⟨w1, dσ, S1, d, A1, R.mono e1, r1, PostS.bindG P1 fun dσ2 S2 w2 H2 σ2 e2 A2 R2 P2 => P2.nx A2 R2⟩⟩
/-- a, b = x, y -/
def mPar (i j : Nat) (ms : DSt → Store → Res (List D)) (σ : DSt) (S : Store) : Res Fl := liftE (ms σ S) σ fun ds S1 => match ds with
  | [a, b] => .ok (.nx ((σ.set i (some a)).set j (some b))) S1
  | _ => .stuck
theorem pms_par {i j : Nat} {x y : Str} {a b : Expr} {ms : DSt → Store → Res (List D)} {px py pt : Pos} {kt k2 pt2} (hc : X.calm = true) (hN : X.N.Nodup) (hi : X.N[i]? = some x) (hj : X.N[j]? = some y) (hij : i ≠ j)
    (hx : X.env.scope.names.lookup x = some .local) (hy : X.env.scope.names.lookup y = some .local) (ha : PMA X W [a, b] ms)
    (hw : swappedStores [.Tuple [.Name x px, .Name y py] kt pt] (.Tuple [a, b] k2 pt2) X.env = pure (some [x, y]))
    (hs : swapsWithSole [.Tuple [.Name x px, .Name y py] kt pt] (.Tuple [a, b] k2 pt2) pos.line X.env = pure false := by rfl) :
    PMS X W (.Assign [.Tuple [.Name x px, .Name y py] kt pt] (.Tuple [a, b] k2 pt2) pos) (mPar i j ms) :=
  PS.imp (ps_par hc hN hi hj hij hx hy ha hw hs) fun D σ H ⟨w, dσ, S, A, R, P⟩ => ⟨w, dσ, S, A, R, P.bindE R fun ds S1 w1 H1 vs e1 A1 r1 P1 => by
    split at P1
    · simp only [Reps] at r1
      obtain ⟨v1, u1, rfl, q1, v2, u2, rfl, q2, rfl⟩ := r1
      exact ⟨v1, v2, rfl, P1.nx A1 (((R.mono e1).set q1 i).set q2 j)⟩
    · exact P1.elim⟩
end

/-! ### while -/
/-- n turns at most -/
def whileN (c : DSt → Store → Res Bool) (b : DSt → Store → Res Fl) : Nat → DSt → Store → Option (Res Fl)
  | 0, _, _ => none
  | n + 1, σ, S => match c σ S with
    | .ok true S1 => match b σ S1 with
      | .ok (.nx σ2) S2 => whileN c b n σ2 S2
      | .ok (.ct σ2) S2 => whileN c b n σ2 S2
      | .ok (.bk σ2) S2 => some (.ok (.nx σ2) S2)
      | r => some r
    | .ok false S1 => some (.ok (.nx σ) S1)
    | .exc k fs S1 => some (.ok (.ex k fs σ) S1)
    | .stuck => some .stuck
open Classical in
noncomputable def mWhile (c : DSt → Store → Res Bool) (b : DSt → Store → Res Fl) (σ : DSt) (S : Store) : Res Fl :=
  if h : ∃ n r, whileN c b n σ S = some r then Classical.choose (Classical.choose_spec h) else .stuck
section
variable {X : Cx} {W : XW} {pos : Pos}
end
end L3
namespace L3
open PySem PySem.Spec L2
open Classical

/-! ### what is walked -/
structure Src where
  items : List D
  guard : List (Nat × Ob)
def gOk (g : List (Nat × Ob)) (S : Store) : Prop := ∀ p ∈ g, S[p.1]? = some p.2
@[simp] theorem gOk_nil (S : Store) : gOk [] S = True := by simp [gOk]
@[simp] theorem gOk_cons (p : Nat × Ob) (g : List (Nat × Ob)) (S : Store) : gOk (p :: g) S = (S[p.1]? = some p.2 ∧ gOk g S) := by simp [gOk]
/-- later, maybe within a list that is being made -/
structure ExJ (w : Wd) (H : Hp) (w' : Wd) (H' : Hp) : Prop where
  pre : ∃ t, w'.M = w.M ++ t
  bn : ∀ b ∈ w'.B, b ∈ w.B ∨ H b = none
  keep : ∀ a u, H a = some u → a ∉ w.M → a ∉ w.B → H' a = some u ∧ a ∉ w'.M
  fz : ∀ a od u, H a = some (.frz od u) → H' a = some (.frz od u)
theorem Ex.j {w w' : Wd} {H H' : Hp} (e : Ex w H w' H') : ExJ w H w' H' := ⟨e.pre, fun b hb => .inl (by rw [← e.bk]; exact hb), fun a u h n _ => e.keep a u h n, e.fz⟩
section
variable {K : PySem.W.Frag} {mg : Str → Option Value} {w w' : Wd} {H H' : Hp} {S : Store}
theorem ExJ.get (e : ExJ w H w' H') {l : Nat} {a : Addr} (h : w.M[l]? = some a) : w'.M[l]? = some a := by
  obtain ⟨t, ht⟩ := e.pre
  rw [ht]
  obtain ⟨h1, h2⟩ := List.getElem?_eq_some_iff.mp h
  rw [List.getElem?_append_left h1]; exact h
theorem ExJ.at (e : ExJ w H w' H') {a : Addr} {u : HO} (n : a ∉ w.M) (b : a ∉ w.B) (h : H a = some u) : a ∉ w'.M ∧ a ∉ w'.B ∧ H' a = some u := by
  obtain ⟨h1, n1⟩ := e.keep a u h n b
  refine ⟨n1, fun z => ?_, h1⟩
  rcases e.bn a z with z | z
  · exact b z
  · rw [h] at z; cases z
theorem ExJ.rd (e : ExJ w H w' H') {a : Addr} {u : HO} (n : a ∉ w.M) (b : a ∉ w.B) (h : Rd H a u) : a ∉ w'.M ∧ a ∉ w'.B ∧ Rd H' a u := by
  rcases h with h | ⟨o, h⟩
  · obtain ⟨x, y, z⟩ := e.at n b h
    exact ⟨x, y, .inl z⟩
  · obtain ⟨x, y, z⟩ := e.at n b h
    exact ⟨x, y, .inr ⟨o, z⟩⟩
theorem Rep.monoJ (e : ExJ w H w' H') {d : D} {v : V} (h : Rep K w H d v) : Rep K w' H' d v :=
  h.gen (fun _ _ ⟨n, b, f⟩ => e.at n b f) (fun _ _ f => f.elim (fun ⟨n, b, f⟩ => .inl (e.rd n b f)) .inr) (fun _ _ ⟨n, b, f⟩ => e.at n b f) (fun _ _ f => f.by fun a u f n b => e.at n b f) (fun _ _ ⟨n, b, f⟩ => e.at n b f) fun _ _ => e.get
theorem Reps.monoJ (e : ExJ w H w' H') {d : List D} {v : List V} (h : Reps K w H d v) : Reps K w' H' d v :=
  h.gen (fun _ _ ⟨n, b, f⟩ => e.at n b f) (fun _ _ f => f.elim (fun ⟨n, b, f⟩ => .inl (e.rd n b f)) .inr) (fun _ _ ⟨n, b, f⟩ => e.at n b f) (fun _ _ f => f.by fun a u f n b => e.at n b f) (fun _ _ ⟨n, b, f⟩ => e.at n b f) fun _ _ => e.get
theorem RSt.monoJ (e : ExJ w H w' H') {ds : DSt} {vs : L2.St} (h : RSt K w H ds vs) : RSt K w' H' ds vs := h.gen fun _ _ r => r.monoJ e
theorem HoOk.monoJ (e : ExJ w H w' H') {o : Ob} {u : HO} (h : HoOk K w H mg o u) : HoOk K w' H' mg o u := h.gen (fun _ _ r => r.monoJ e) fun _ _ r => r.monoJ e
end
def JOk (K : PySem.W.Frag) (mg : Str → Option Value) (w : Wd) (H : Hp) (J : It) (src : Src) : Prop := ∀ w' H' S i, ExJ w H w' H' → Ab K w' H' mg S → gOk src.guard S →
  (∀ d, src.items[i]? = some d → J.go i H' ∧ ∀ x H2, J.yld i H' x H2 → ∃ w2, Ex w' H' w2 H2 ∧ Ab K w2 H2 mg S ∧ Rep K w2 H2 d x) ∧ (src.items.length ≤ i → J.stop i H')
def RI (K : PySem.W.Frag) (mg : Str → Option Value) (w : Wd) (H : Hp) (src : Src) (J : It) : Prop := JOk K mg w H J src ∧ src.items.length ≤ sizeLine
def tOfI (K : PySem.W.Frag) (mg : Str → Option Value) (W : XW) (m : DSt → Store → Res Src) : TI := fun σ H R => ∃ w dσ S, Ab K w H mg S ∧ RSt K w H dσ σ ∧ Post K mg (RI K mg) W σ w H (m dσ S) R
abbrev PMI (X : Cx) (W : XW) (tg e : Expr) (m : DSt → Store → Res Src) : Prop := PI X tg e (tOfI X.K X.mg W m)

/-! ### for -/
noncomputable def forGo (gd : List (Nat × Ob)) (g : D → DSt → Store → Res DSt) (b : DSt → Store → Res Fl) : List D → DSt → Store → Res Fl
  | [], σ, S => if gOk gd S then .ok (.nx σ) S else .stuck
  | d :: ds, σ, S => if gOk gd S then bindG (g d σ S) fun σ1 S1 => match b σ1 S1 with
    | .ok (.nx σ2) S2 => forGo gd g b ds σ2 S2
    | .ok (.ct σ2) S2 => forGo gd g b ds σ2 S2
    | .ok (.bk σ2) S2 => .ok (.nx σ2) S2
    | r => r
    else .stuck
noncomputable def mFor (mi : DSt → Store → Res Src) (g : D → DSt → Store → Res DSt) (b : DSt → Store → Res Fl) (σ : DSt) (S : Store) : Res Fl := liftE (mi σ S) σ fun src S1 => forGo src.guard g b src.items σ S1
section
variable {X : Cx} {W : XW} {pos : Pos}
theorem pms_for {tg iter : Expr} {body : List Stmt} {mi : DSt → Store → Res Src} {g : D → DSt → Store → Res DSt} {mb : DSt → Store → Res Fl} (hp : PassesOwn (model X.prog X.w) X.A X.env X.xe) (hc : X.calm = true) (hi : PMI X W tg iter mi) (hg : PMG X tg g) (hb : PMSs X W body mb)
    (hs : ∀ x, foldedSetIterable iter X.env x = pure x := by intro _; rfl) : PMS X W (.For tg iter body [] pos) (mFor mi g mb) := by
  refine PS.imp (ps_for hp hc hi hg hb hs) fun D σ H ⟨w, dσ, S, A, R, P⟩ => ⟨w, dσ, S, A, R, P.bindE R fun src S1 w1 H1 J e1 A1 rj P1 => ?_⟩
  obtain ⟨hJ, _⟩ := rj
  refine ⟨fun i m σ H => m = src.items.length - i ∧ i ≤ src.items.length ∧ ∃ w dσ S, Ex w1 H1 w H ∧ Ab X.K w H X.mg S ∧ RSt X.K w H dσ σ ∧ PostS X.K X.mg W w H (forGo src.guard g mb (src.items.drop i) dσ S) D,
    ⟨_, rfl, Nat.zero_le _, w1, dσ, S1, Ex.refl _ _, A1, R.mono e1, P1⟩, ?_⟩
  rintro i m σ H ⟨rfl, hi, w, dσ, S, ex, A, R, P⟩
  by_cases hlt : i < src.items.length
  · rw [List.drop_eq_getElem_cons hlt] at P
    simp only [forGo] at P
    split at P
    · rename_i hgd
      obtain ⟨go, yl⟩ := (hJ w H S i ex.j A hgd).1 src.items[i] (List.getElem?_eq_getElem hlt)
      refine .inr ⟨go, fun σ' H' => ∃ w dσ S, Ex w1 H1 w H' ∧ Ab X.K w H' X.mg S ∧ RSt X.K w H' dσ σ' ∧ PostS X.K X.mg W w H' (forGo src.guard g mb (src.items.drop (i + 1)) dσ S) D,
        fun σ' H' h => ⟨src.items.length - (i + 1), by omega, rfl, hlt, h⟩, fun x H' y => ?_⟩
      obtain ⟨w2, e2, A2, r2⟩ := yl x H' y
      have P2 := P.ex e2
      refine ⟨w2, dσ, S, src.items[i], A2, R.mono e2, r2, PostS.bindG P2 fun dσ3 S3 w3 H3 σ3 e3 A3 R3 P3 => ?_⟩
      refine ⟨w3, dσ3, S3, A3, R3, ?_⟩
      cases hq : mb dσ3 S3 with
      | ok fl S4 => cases fl with
        | nx σ4 => rw [hq] at P3; exact fun w5 H5 σ5 e5 A5 R5 => ⟨w5, σ4, S4, ((ex.trans e2).trans e3).trans e5, A5, R5, P3.ex e5⟩
        | ct σ4 => rw [hq] at P3; exact fun w5 H5 σ5 e5 A5 R5 => ⟨w5, σ4, S4, ((ex.trans e2).trans e3).trans e5, A5, R5, P3.ex e5⟩
        | bk σ4 => rw [hq] at P3; exact P3
        | rt d => rw [hq] at P3; exact P3
        | ex k fs d => rw [hq] at P3; exact P3
      | exc k fs S4 => rw [hq] at P3; exact P3.elim
      | stuck => rw [hq] at P3; exact P3.elim
    · exact P.elim
  · have e : i = src.items.length := by omega
    subst e
    rw [List.drop_length] at P
    simp only [forGo] at P
    split at P
    · rename_i hgd
      exact .inl ⟨(hJ w H S _ ex.j A hgd).2 (Nat.le_refl _), P.nx A R⟩
    · exact P.elim
end

/-! ### targets that store names alone -/
def FrS (σ σ' : L2.St) (is : List Nat) : Prop := σ'.length = σ.length ∧ ∀ j, j ∉ is → σ'[j]? = σ[j]?
theorem FrS.refl (σ : L2.St) : FrS σ σ [] := ⟨rfl, fun _ _ => rfl⟩
theorem FrS.trans {σ σ1 σ2 : L2.St} {is js : List Nat} (a : FrS σ σ1 is) (b : FrS σ1 σ2 js) : FrS σ σ2 (is ++ js) :=
  ⟨b.1.trans a.1, fun j hj => by
    simp only [List.mem_append, not_or] at hj
    exact (b.2 j hj.2).trans (a.2 j hj.1)⟩
def PostX (K : PySem.W.Frag) (mg : Str → Option Value) (is : List Nat) (σ : L2.St) (w : Wd) (H : Hp) (r : Res DSt) (Q : L2.St → Hp → Prop) : Prop := match r with
  | .ok dσ S => ∀ w' H' σ', Ex w H w' H' → Ab K w' H' mg S → RSt K w' H' dσ σ' → FrS σ σ' is → Q σ' H'
  | _ => False
def tOfX (K : PySem.W.Frag) (mg : Str → Option Value) (is : List Nat) (m : D → DSt → Store → Res DSt) : TG := fun v σ H Q => ∃ w dσ S d, Ab K w H mg S ∧ RSt K w H dσ σ ∧ Rep K w H d v ∧ PostX K mg is σ w H (m d dσ S) Q
def tOfXs (K : PySem.W.Frag) (mg : Str → Option Value) (is : List Nat) (m : List D → DSt → Store → Res DSt) : TGs := fun v σ H Q => ∃ w dσ S d, Ab K w H mg S ∧ RSt K w H dσ σ ∧ Reps K w H d v ∧ PostX K mg is σ w H (m d dσ S) Q
abbrev PMX (X : Cx) (is : List Nat) (e : Expr) (m : D → DSt → Store → Res DSt) : Prop := PG X e (tOfX X.K X.mg is m)
abbrev PMXs (X : Cx) (is : List Nat) (e : List Expr) (m : List D → DSt → Store → Res DSt) : Prop := PGs X e (tOfXs X.K X.mg is m)
section
variable {X : Cx} {pos : Pos}
theorem pmx_name {i : Nat} {x : Str} (hN : X.N.Nodup) (hi : X.N[i]? = some x) (hx : Loc X.env.scope x) (hf : X.fn x = true ∨ X.env.scope.names.lookup x = some .local := by first | exact .inl rfl | exact .inr rfl | assumption) : PMX X [i] (.Name x pos) (gtName i) :=
  PG.imp (pg_name hN hi hx hf) fun v σ H Q ⟨w, dσ, S, d, A, R, r, P⟩ => P w H _ (Ex.refl _ _) A (R.set r i) ⟨by simp, fun j hj => by
    simp only [List.mem_singleton] at hj
    rw [List.getElem?_set_ne (Ne.symm hj)]⟩
theorem pmxs_nil : PMXs X [] [] gtNil := PGs.imp pgs_nil fun v σ H Q ⟨w, dσ, S, d, A, R, r, P⟩ => by
  cases d with
  | nil => simp only [Reps] at r; exact ⟨r, P w H σ (Ex.refl _ _) A R (FrS.refl σ)⟩
  | cons d ds => exact P.elim
theorem pmxs_cons {e : Expr} {es : List Expr} {is js : List Nat} {f : D → DSt → Store → Res DSt} {g : List D → DSt → Store → Res DSt} (h1 : PMX X is e f) (h2 : PMXs X js es g)
    (hs : (assignEach (e :: es) X.env).map (·.2) = assign e X.env :: (assignEach es X.env).map (·.2) := by rfl) : PMXs X (is ++ js) (e :: es) (gtCons f g) :=
  PGs.imp (pgs_cons h1 h2 hs) fun v σ H Q ⟨w, dσ, S, d, A, R, r, P⟩ => by
    cases d with
    | nil => exact P.elim
    | cons d ds =>
      simp only [Reps] at r
      obtain ⟨v', r', rfl, r1, r2⟩ := r
      refine ⟨v', r', rfl, w, dσ, S, d, A, R, r1, ?_⟩
      simp only [gtCons] at P
      cases hq : f d dσ S with
      | ok dσ1 S1 =>
        rw [hq] at P
        refine fun w1 H1 σ1 e1 A1 R1 F1 => ⟨w1, dσ1, S1, ds, A1, R1, r2.mono e1, ?_⟩
        simp only [bindG_ok] at P
        cases hq2 : g ds dσ1 S1 with
        | ok dσ2 S2 =>
          rw [hq2] at P
          exact fun w2 H2 σ2 e2 A2 R2 F2 => P w2 H2 σ2 (e1.trans e2) A2 R2 (F1.trans F2)
        | exc _ _ _ => rw [hq2] at P; exact P.elim
        | stuck => rw [hq2] at P; exact P.elim
      | exc _ _ _ => rw [hq] at P; exact P.elim
      | stuck => rw [hq] at P; exact P.elim
theorem pmx_tup {es : List Expr} {k : Nat} {is : List Nat} {g : List D → DSt → Store → Res DSt} {n : Nat} (hc : X.calm = true) (h : PMXs X is es g)
    (hn : (assignEach es X.env).length = n := by rfl) (hst : (assignEach es X.env).findIdx? (·.1) = none := by rfl) : PMX X is (.Tuple es k pos) (gtTup n g) :=
  PG.imp (pg_tup hc h hn hst) fun v σ H Q ⟨w, dσ, S, d, A, R, r, P⟩ => by
    unfold gtTup at P
    split at P
    · rename_i ds hd
      split at P
      · rename_i hl
        obtain ⟨a, vs, rfl, f, r'⟩ := rdT_rep hd r
        exact ⟨a, vs, rfl, f, by rw [← r'.length]; exact hl, w, dσ, S, ds, A, R, r', P⟩
      · exact P.elim
    · exact P.elim
end

/-! ### list comprehensions -/
/-- the slots of the block's own names -/
def dwipe (σ : DSt) : List Nat → DSt
  | [] => σ
  | v :: vs => (dwipe σ vs).set v none
theorem dwipe_rep {K : PySem.W.Frag} {w : Wd} {H : Hp} {dσ : DSt} {σ : L2.St} (R : RSt K w H dσ σ) : ∀ vs : List Nat, RSt K w H (dwipe dσ vs) (wipe σ vs)
  | [] => R
  | v :: vs => by
    have ih := dwipe_rep R vs
    unfold dwipe wipe
    refine ⟨by simpa using ih.1, fun j d hj => ?_⟩
    by_cases z : v = j
    · subst z
      by_cases hl : v < (dwipe dσ vs).length
      · rw [List.getElem?_set_self hl] at hj; cases hj
      · rw [List.getElem?_eq_none (by simpa using hl)] at hj; cases hj
    · rw [List.getElem?_set_ne z] at hj ⊢
      exact ih.2 j d hj
theorem wipe_len (σ : L2.St) (vs : List Nat) : (wipe σ vs).length = σ.length := wipe_length σ vs
theorem wipe_get (σ : L2.St) : ∀ (vs : List Nat) (j : Nat), (wipe σ vs)[j]? = if j ∈ vs ∧ j < σ.length then some none else σ[j]?
  | [], j => by simp [wipe]
  | v :: vs, j => by
    unfold wipe
    have ih := wipe_get σ vs j
    by_cases z : v = j
    · subst z
      by_cases hl : v < σ.length
      · rw [List.getElem?_set_self (by rw [wipe_len]; exact hl), if_pos ⟨List.mem_cons_self, hl⟩]
      · rw [List.getElem?_eq_none (by rw [List.length_set, wipe_len]; omega), if_neg (fun q => hl q.2), List.getElem?_eq_none (by omega)]
    · rw [List.getElem?_set_ne z, ih]
      have : (j ∈ v :: vs) ↔ j ∈ vs := by
        constructor
        · intro h
          rcases List.mem_cons.mp h with e | h
          · exact absurd e.symm z
          · exact h
        · exact List.mem_cons_of_mem _
      simp only [this]
theorem wipe_fr {σ σ2 : L2.St} {vs is : List Nat} (h : FrS (wipe σ vs) σ2 is) (hs : ∀ i ∈ is, i ∈ vs) : wipe σ2 vs = wipe σ vs := by
  have hlen : σ2.length = σ.length := by rw [h.1, wipe_len]
  refine List.ext_getElem? fun j => ?_
  rw [wipe_get, wipe_get, hlen]
  by_cases c : j ∈ vs ∧ j < σ.length
  · rw [if_pos c, if_pos c]
  · rw [if_neg c, if_neg c]
    by_cases hj : j ∈ vs
    · have : ¬ j < σ.length := fun z => c ⟨hj, z⟩
      rw [List.getElem?_eq_none (by omega), List.getElem?_eq_none (by omega)]
    · rw [h.2 j (fun z => hj (hs j z)), wipe_get, if_neg c]
abbrev W0 : XW := fun _ _ _ _ => False
noncomputable def lcGo (gd : List (Nat × Ob)) (g : D → DSt → Store → Res DSt) (t : DSt → Store → Res Bool) (e : DSt → Store → Res D) (σ : DSt) : List D → Store → Res (List D)
  | [], S => if gOk gd S then .ok [] S else .stuck
  | d :: ds, S => if gOk gd S then bindG (g d σ S) fun σ1 S1 => bindG (t σ1 S1) fun k S2 =>
      if k = true then bindG (e σ1 S2) fun y S3 => bindG (lcGo gd g t e σ ds S3) fun ys S4 => .ok (y :: ys) S4
      else lcGo gd g t e σ ds S2
    else .stuck
noncomputable def mLc (mi : DSt → Store → Res Src) (g : D → DSt → Store → Res DSt) (t : DSt → Store → Res Bool) (e : DSt → Store → Res D) (vs : List Nat) (σ : DSt) (S : Store) : Res D :=
  (mi σ S).bind fun src S1 => bindG (lcGo src.guard g t e (dwipe σ vs) src.items S1) fun ys S2 => .ok (.lst ys) S2
/-- the list will be changed -/
noncomputable def mLcM (mi : DSt → Store → Res Src) (g : D → DSt → Store → Res DSt) (t : DSt → Store → Res Bool) (e : DSt → Store → Res D) (vs : List Nat) (σ : DSt) (S : Store) : Res D :=
  (mi σ S).bind fun src S1 => bindG (lcGo src.guard g t e (dwipe σ vs) src.items S1) fun ys S2 => .ok (.loc S2.length) (S2 ++ [.lst ys])
/-- the state within the making of the list at p -/
structure Mk (w1 : Wd) (H1 : Hp) (p : Addr) (w : Wd) (H : Hp) : Prop where
  pre : ∃ t, w.M = w1.M ++ t
  bk : w.B = p :: w1.B
  keep : ∀ a u, H1 a = some u → a ∉ w1.M → H a = some u ∧ a ∉ w.M
  fz : ∀ a od u, H1 a = some (.frz od u) → H a = some (.frz od u)
section
variable {K : PySem.W.Frag} {mg : Str → Option Value} {w1 w w' : Wd} {H1 H H' : Hp} {p : Addr} {S : Store}
theorem Mk.j (m : L3.Mk w1 H1 p w H) (hp : H1 p = none) : ExJ w1 H1 w H := ⟨m.pre, fun b hb => by
  rw [m.bk] at hb
  rcases List.mem_cons.mp hb with rfl | hb
  · exact .inr hp
  · exact .inl hb, fun a u h n _ => m.keep a u h n, m.fz⟩
theorem Mk.step (m : L3.Mk w1 H1 p w H) (e : Ex w H w' H') : L3.Mk w1 H1 p w' H' := by
  obtain ⟨t, ht⟩ := m.pre
  obtain ⟨t', ht'⟩ := e.pre
  exact ⟨⟨t ++ t', by rw [ht', ht, List.append_assoc]⟩, e.bk.trans m.bk, fun a u h n => let ⟨h1, n1⟩ := m.keep a u h n; e.keep a u h1 n1, fun a od u h => e.fz a od u (m.fz a od u h)⟩
theorem Mk.wr (m : L3.Mk w1 H1 p w H) (hp : H1 p = none) (o : HO) : L3.Mk w1 H1 p w (upd H p o) :=
  ⟨m.pre, m.bk, fun a u h n => let ⟨h1, n1⟩ := m.keep a u h n; ⟨by rw [upd_ne (ne_new h hp)]; exact h1, n1⟩, fun a od u h => by rw [upd_ne (ne_new h hp)]; exact m.fz a od u h⟩
theorem Mk.fin (m : L3.Mk w1 H1 p w H) : Ex w1 H1 ⟨w.M, w1.B⟩ H := ⟨m.pre, rfl, m.keep, m.fz⟩
/-- writing the list that is made -/
theorem Rep.wrB (hb : p ∈ w.B) {o : HO} {d : D} {v : V} (h : Rep K w H d v) : Rep K w (upd H p o) d v := by
  have ne : ∀ {a : Addr}, a ∉ w.B → a ≠ p := fun n z => n (by rw [z]; exact hb)
  refine h.gen (fun a xs ⟨n, b, f⟩ => ⟨n, b, by rw [upd_ne (ne b)]; exact f⟩) (fun a xs f => ?_) (fun a xs ⟨n, b, f⟩ => ⟨n, b, by rw [upd_ne (ne b)]; exact f⟩) (fun a xs f => f.by fun a u f n b => ⟨n, b, by rw [upd_ne (ne b)]; exact f⟩) (fun a _ ⟨n, b, f⟩ => ⟨n, b, by rw [upd_ne (ne b)]; exact f⟩) fun _ _ q => q
  rcases f with ⟨n, b, f | ⟨o', f⟩⟩ | f
  · exact .inl ⟨n, b, .inl (by rw [upd_ne (ne b)]; exact f)⟩
  · exact .inl ⟨n, b, .inr ⟨o', by rw [upd_ne (ne b)]; exact f⟩⟩
  · exact .inr f
theorem Reps.wrB (hb : p ∈ w.B) {o : HO} : ∀ {d : List D} {v : List V}, Reps K w H d v → Reps K w (upd H p o) d v
  | [], _, h => by simpa only [Reps] using h
  | d :: ds, _, h => by
    simp only [Reps] at h
    obtain ⟨v, r, rfl, h1, h2⟩ := h
    exact .cons (h1.wrB hb) (Reps.wrB hb h2)
theorem Ab.wrB (A : Ab K w H mg S) (hb : p ∈ w.B) (xs : List V) : Ab K w (upd H p (.lst xs)) mg S := by
  have np := A.bm p hb
  refine ⟨A.len, A.nd, A.bm, fun a ha => ?_, fun l a ob h1 h2 => ?_⟩
  · by_cases z : a = p
    · subst z; exact ⟨xs, upd_same⟩
    · rw [upd_ne z]; exact A.bt a ha
  · obtain ⟨u, e, k⟩ := A.ob l a ob h1 h2
    refine ⟨u, by rw [upd_ne (fun z => np (by rw [← z]; exact List.mem_of_getElem? h1))]; exact e, k.gen (fun _ _ r => r.wrB hb) fun _ _ r => r.wrB hb⟩
theorem Ab.inB (A : Ab K w H mg S) (hp : H p = none) (xs : List V) : Ab K ⟨w.M, p :: w.B⟩ (upd H p (.lst xs)) mg S ∧ L3.Mk w H p ⟨w.M, p :: w.B⟩ (upd H p (.lst xs)) := by
  have m : L3.Mk w H p ⟨w.M, p :: w.B⟩ (upd H p (.lst xs)) := ⟨⟨[], by simp⟩, rfl, fun a u h n => ⟨by rw [upd_ne (ne_new h hp)]; exact h, n⟩, fun a od u h => by rw [upd_ne (ne_new h hp)]; exact h⟩
  refine ⟨⟨A.len, A.nd, fun a ha => ?_, fun a ha => ?_, fun l a ob h1 h2 => ?_⟩, m⟩
  · rcases List.mem_cons.mp ha with rfl | ha
    · exact A.new hp
    · exact A.bm a ha
  · rcases List.mem_cons.mp ha with rfl | ha
    · exact ⟨xs, upd_same⟩
    · obtain ⟨u, e⟩ := A.bt a ha
      exact ⟨u, by rw [upd_ne (ne_new e hp)]; exact e⟩
  · obtain ⟨u, e, k⟩ := A.ob l a ob h1 h2
    exact ⟨u, by rw [upd_ne (ne_new e hp)]; exact e, k.monoJ (m.j hp)⟩
theorem Rep.outB {M B : List Addr} {d : D} {v : V} (h : Rep K ⟨M, p :: B⟩ H d v) : Rep K ⟨M, B⟩ H d v :=
  Rep.gen (w := ⟨M, p :: B⟩) (w' := ⟨M, B⟩) (fun a xs ⟨n, b, f⟩ => ⟨n, fun z => b (List.mem_cons_of_mem _ z), f⟩) (fun a xs f => f.elim (fun ⟨n, b, f⟩ => .inl ⟨n, fun z => b (List.mem_cons_of_mem _ z), f⟩) .inr) (fun a xs ⟨n, b, f⟩ => ⟨n, fun z => b (List.mem_cons_of_mem _ z), f⟩) (fun a xs f => PlT.by (w := ⟨M, p :: B⟩) (w' := ⟨M, B⟩) (fun a u f n b => ⟨n, fun z => b (List.mem_cons_of_mem _ z), f⟩) f) (fun _ _ ⟨n, b, f⟩ => ⟨n, fun z => b (List.mem_cons_of_mem _ z), f⟩) (fun _ _ q => q) h
theorem Reps.outB {M B : List Addr} : ∀ {d : List D} {v : List V}, Reps K ⟨M, p :: B⟩ H d v → Reps K ⟨M, B⟩ H d v
  | [], _, h => by simpa only [Reps] using h
  | d :: ds, _, h => by
    simp only [Reps] at h
    obtain ⟨v, r, rfl, h1, h2⟩ := h
    exact .cons h1.outB (Reps.outB h2)
theorem Ab.outB {M B : List Addr} (A : Ab K ⟨M, p :: B⟩ H mg S) : Ab K ⟨M, B⟩ H mg S :=
  ⟨A.len, A.nd, fun a ha => A.bm a (List.mem_cons_of_mem _ ha), fun a ha => A.bt a (List.mem_cons_of_mem _ ha), fun l a ob h1 h2 => let ⟨u, e, k⟩ := A.ob l a ob h1 h2; ⟨u, e, k.gen (fun _ _ r => r.outB) fun _ _ r => r.outB⟩⟩
/-- the made list becomes a mutable object -/
theorem Rep.toM {M B : List Addr} {d : D} {v : V} (h : Rep K ⟨M, p :: B⟩ H d v) : Rep K ⟨M ++ [p], B⟩ H d v := by
  have q : ∀ {a : Addr}, a ∉ M → a ∉ p :: B → a ∉ M ++ [p] ∧ a ∉ B := fun n b =>
    ⟨fun z => by
      rcases List.mem_append.mp z with z | z
      · exact n z
      · simp only [List.mem_singleton] at z
        exact b (by rw [z]; exact List.mem_cons_self), fun z => b (List.mem_cons_of_mem _ z)⟩
  refine h.gen (fun a xs ⟨n, b, f⟩ => ⟨(q n b).1, (q n b).2, f⟩) (fun a xs f => f.elim (fun ⟨n, b, f⟩ => .inl ⟨(q n b).1, (q n b).2, f⟩) .inr) (fun a xs ⟨n, b, f⟩ => ⟨(q n b).1, (q n b).2, f⟩) (fun a xs f => f.by fun a u f n b => ⟨(q n b).1, (q n b).2, f⟩) (fun a u ⟨n, b, e⟩ => show FzE ⟨M ++ [p], B⟩ H a u from ⟨(q n b).1, (q n b).2, e⟩) fun l a e => ?_
  have e' : M[l]? = some a := e
  obtain ⟨h1, h2⟩ := List.getElem?_eq_some_iff.mp e'
  show (M ++ [p])[l]? = some a
  rw [List.getElem?_append_left h1]; exact e'
theorem Reps.toM {M B : List Addr} : ∀ {d : List D} {v : List V}, Reps K ⟨M, p :: B⟩ H d v → Reps K ⟨M ++ [p], B⟩ H d v
  | [], _, h => by simpa only [Reps] using h
  | d :: ds, _, h => by
    simp only [Reps] at h
    obtain ⟨v, r, rfl, h1, h2⟩ := h
    exact .cons h1.toM (Reps.toM h2)
theorem Ab.toM {M B : List Addr} {ds : List D} {vs : List V} (A : Ab K ⟨M, p :: B⟩ H mg S) (hB : p ∉ B) (e : H p = some (.lst vs)) (r : Reps K ⟨M, p :: B⟩ H ds vs) : Ab K ⟨M ++ [p], B⟩ H mg (S ++ [.lst ds]) := by
  have hlen : M.length = S.length := A.len
  have np : p ∉ M := A.bm p List.mem_cons_self
  refine ⟨by simp [hlen], ?_, fun a ha hm => ?_, fun a ha => A.bt a (List.mem_cons_of_mem _ ha), fun l a ob h1 h2 => ?_⟩
  · show (M ++ [p]).Nodup
    rw [List.nodup_append]
    exact ⟨A.nd, by simp, fun a ha b hb => by simp only [List.mem_singleton] at hb; subst hb; exact fun z => np (z ▸ ha)⟩
  · rcases List.mem_append.mp hm with z | z
    · exact A.bm a (List.mem_cons_of_mem _ ha) z
    · simp only [List.mem_singleton] at z; exact hB (z ▸ ha)
  · have h1 : (M ++ [p])[l]? = some a := h1
    by_cases hl : l < S.length
    · rw [List.getElem?_append_left hl] at h2
      rw [List.getElem?_append_left (by omega)] at h1
      obtain ⟨u, e', k⟩ := A.ob l a ob h1 h2
      exact ⟨u, e', k.gen (fun _ _ r => r.toM) fun _ _ r => r.toM⟩
    · rw [List.getElem?_append_right (by omega)] at h1 h2
      rw [hlen] at h1
      have h0 : l - S.length = 0 := by
        cases hq : l - S.length with
        | zero => rfl
        | succ n => rw [hq] at h2; simp at h2
      rw [h0] at h1 h2
      simp at h1 h2
      subst h1 h2
      exact ⟨_, e, vs, rfl, r.toM⟩
end
section
variable {X : Cx} {W : XW} {pos : Pos}
/-- both forms: what follows the block is told of the made list at p -/
theorem lc_imp {g : D → DSt → Store → Res DSt} {t : DSt → Store → Res Bool} {e : DSt → Store → Res D} {vs is : List Nat} (hs : ∀ i ∈ is, i ∈ vs) {σ : L2.St} {H : Hp} {Q : VK} {fin : List D → Store → Res D}
    (hfin : ∀ {w1 H1 p w S ys vs'}, Ab X.K w1 H1 X.mg S → w1.B = p :: w.B → H p = none → p ∉ w.B → H1 p = some (.lst vs') → Reps X.K w1 H1 ys vs' → Ex w H ⟨w1.M, w.B⟩ H1 → Post X.K X.mg (Rep X.K) W σ w H (fin ys S) Q → Q (.ref p) H1)
    {w : Wd} {dσ : DSt} {S : Store} (A : Ab X.K w H X.mg S) (R : RSt X.K w H dσ σ) {src : Src} {J : It} (hJ : JOk X.K X.mg w H J src) (hz : src.items.length ≤ sizeLine)
    (P : Post X.K X.mg (Rep X.K) W σ w H (bindG (lcGo src.guard g t e (dwipe dσ vs) src.items S) fin) Q) :
    ∀ p, H p = none → ∃ W' : Nat → Nat → Hp → Prop, (∃ m, W' 0 m (upd H p (.lst []))) ∧ ∀ i m H, W' i m H →
      (J.stop i H ∧ Q (.ref p) H) ∨ (J.go i H ∧ ∃ Nx : Hp → Prop, (∀ H', Nx H' → ∃ m', m' < m ∧ W' (i + 1) m' H') ∧ ∀ x H', J.yld i H x H' → tOfX X.K X.mg is g x (wipe σ vs) H' fun σ2 H2 => wipe σ2 vs = wipe σ vs ∧ tOfT X.K X.mg W0 t σ2 H2 fun b H3 =>
        if b = true then tOf X.K X.mg W0 e σ2 H3 fun y H4 => ∃ acc, H4 p = some (.lst acc) ∧ acc.length < sizeLine ∧ Nx (upd H4 p (.lst (acc ++ [y]))) else Nx H3) := by
  intro p hp
  have pB := A.newB hp
  obtain ⟨A0, m0⟩ := A.inB hp []
  have R0 := dwipe_rep R vs
  -- the invariant
  refine ⟨fun i m H2 => m = src.items.length - i ∧ i ≤ src.items.length ∧ ∃ w2 S2 ys vs', Ab X.K w2 H2 X.mg S2 ∧ L3.Mk w H p w2 H2 ∧ H2 p = some (.lst vs') ∧ Reps X.K w2 H2 ys vs' ∧ vs'.length ≤ i ∧
      Post X.K X.mg (Rep X.K) W σ w H (bindG (lcGo src.guard g t e (dwipe dσ vs) (src.items.drop i) S2) fun zs S3 => fin (ys ++ zs) S3) Q,
    ⟨_, rfl, Nat.zero_le _, _, S, [], [], A0, m0, upd_same, .nil, Nat.le_refl _, P⟩, ?_⟩
  rintro i m H2 ⟨rfl, hi, w2, S2, ys, vs', A2, m2, e2, r2, hl, P2⟩
  by_cases hlt : i < src.items.length
  · rw [List.drop_eq_getElem_cons hlt] at P2
    simp only [lcGo] at P2
    split at P2
    · rename_i hgd
      obtain ⟨go, yl⟩ := (hJ w2 H2 S2 i (m2.j hp) A2 hgd).1 src.items[i] (List.getElem?_eq_getElem hlt)
      refine .inr ⟨go, fun H3 => ∃ w3 S3 ys vs', Ab X.K w3 H3 X.mg S3 ∧ L3.Mk w H p w3 H3 ∧ H3 p = some (.lst vs') ∧ Reps X.K w3 H3 ys vs' ∧ vs'.length ≤ i + 1 ∧
        Post X.K X.mg (Rep X.K) W σ w H (bindG (lcGo src.guard g t e (dwipe dσ vs) (src.items.drop (i + 1)) S3) fun zs S3 => fin (ys ++ zs) S3) Q,
        fun H' h => ⟨src.items.length - (i + 1), by omega, rfl, hlt, h⟩, fun x H' y => ?_⟩
      obtain ⟨w3, e3, A3, r3⟩ := yl x H' y
      have m3 := m2.step e3
      refine ⟨w3, dwipe dσ vs, S2, src.items[i], A3, R0.monoJ (m3.j hp), r3, ?_⟩
      cases hq : g src.items[i] (dwipe dσ vs) S2 with
      | exc _ _ _ => rw [hq] at P2; exact P2.elim
      | stuck => rw [hq] at P2; exact P2.elim
      | ok dσ4 S4 =>
      rw [hq] at P2
      simp only [bindG_ok] at P2
      refine fun w4 H4 σ4 e4 A4 R4 F4 => ⟨wipe_fr F4 hs, w4, dσ4, S4, A4, R4, ?_⟩
      cases hq5 : t dσ4 S4 with
      | exc _ _ _ => rw [hq5] at P2; exact P2.elim
      | stuck => rw [hq5] at P2; exact P2.elim
      | ok k S5 =>
      rw [hq5] at P2
      simp only [bindG_ok] at P2
      refine fun w5 H5 k' e5 A5 hk => ?_
      cases (show k = k' from hk)
      have m5 := (m3.step e4).step e5
      have b2 : p ∉ w2.M := A2.bm p (by rw [m2.bk]; exact List.mem_cons_self)
      have at5 := ((e3.trans e4).trans e5).keep p _ e2 b2
      have r5 := ((r2.mono e3).mono e4).mono e5
      cases k with
      | false =>
        rw [if_neg Bool.false_ne_true] at P2 ⊢
        exact ⟨w5, S5, ys, vs', A5, m5, at5.1, r5, Nat.le_succ_of_le hl, P2⟩
      | true =>
        rw [if_pos rfl] at P2 ⊢
        refine ⟨w5, dσ4, S5, A5, R4.mono e5, ?_⟩
        cases hq6 : e dσ4 S5 with
        | exc _ _ _ => rw [hq6] at P2; exact P2.elim
        | stuck => rw [hq6] at P2; exact P2.elim
        | ok d S6 =>
        rw [hq6] at P2
        simp only [bindG_ok] at P2
        refine fun w6 H6 v e6 A6 r6 => ?_
        have m6 := m5.step e6
        have at6 := e6.keep p _ at5.1 at5.2
        have hb6 : p ∈ w6.B := by rw [m6.bk]; exact List.mem_cons_self
        refine ⟨vs', at6.1, by omega, w6, S6, ys ++ [d], vs' ++ [v], A6.wrB hb6 _, m6.wr hp _, upd_same, ((r5.mono e6).append (.cons r6 .nil)).wrB hb6, by simp; omega, ?_⟩
        cases hq7 : lcGo src.guard g t e (dwipe dσ vs) (src.items.drop (i + 1)) S6 with
        | exc _ _ _ => rw [hq7] at P2; exact P2.elim
        | stuck => rw [hq7] at P2; exact P2.elim
        | ok zs S7 =>
          rw [hq7] at P2
          simp only [bindG_ok, List.append_assoc, List.singleton_append] at P2 ⊢
          exact P2
    · exact P2.elim
  · have ei : i = src.items.length := by omega
    subst ei
    rw [List.drop_length] at P2
    simp only [lcGo] at P2
    split at P2
    · rename_i hgd
      simp only [bindG_ok, List.append_nil] at P2
      exact .inl ⟨(hJ w2 H2 S2 _ (m2.j hp) A2 hgd).2 (Nat.le_refl _), hfin A2 m2.bk hp pB e2 r2 m2.fin P2⟩
    · exact P2.elim
theorem fin_lst {σ : L2.St} {w1 : Wd} {H1 : Hp} {p : Addr} {w : Wd} {H : Hp} {S : Store} {ys : List D} {vs' : List V} {Q : VK} (A : Ab X.K w1 H1 X.mg S) (hb : w1.B = p :: w.B) (hpB : p ∉ w.B) (e : H1 p = some (.lst vs')) (r : Reps X.K w1 H1 ys vs') (ex : Ex w H ⟨w1.M, w.B⟩ H1)
    (P : Post X.K X.mg (Rep X.K) W σ w H (.ok (.lst ys) S) Q) : Q (.ref p) H1 := by
  obtain ⟨M, B⟩ := w1
  simp only at hb
  subst hb
  refine P ⟨M, w.B⟩ H1 _ ex A.outB ?_
  simp only [Rep]
  exact ⟨p, vs', rfl, ⟨A.bm p List.mem_cons_self, hpB, e⟩, r.outB⟩
theorem fin_lstM {σ : L2.St} {w1 : Wd} {H1 : Hp} {p : Addr} {w : Wd} {H : Hp} {S : Store} {ys : List D} {vs' : List V} {Q : VK} (A : Ab X.K w1 H1 X.mg S) (hb : w1.B = p :: w.B) (hpB : p ∉ w.B) (hpH : H p = none) (e : H1 p = some (.lst vs')) (r : Reps X.K w1 H1 ys vs') (ex : Ex w H ⟨w1.M, w.B⟩ H1)
    (P : Post X.K X.mg (Rep X.K) W σ w H (.ok (.loc S.length) (S ++ [.lst ys])) Q) : Q (.ref p) H1 := by
  obtain ⟨M, B⟩ := w1
  simp only at hb
  subst hb
  have hlen : M.length = S.length := A.len
  refine P ⟨M ++ [p], w.B⟩ H1 _ ⟨?_, rfl, fun a u h n => ?_, ex.fz⟩ (A.toM hpB e r) (of_loc ?_)
  · obtain ⟨t, ht⟩ := ex.pre
    exact ⟨t ++ [p], by show M ++ [p] = _; rw [show M = w.M ++ t from ht, List.append_assoc]⟩
  · obtain ⟨h1, h2⟩ := ex.keep a u h n
    refine ⟨h1, fun z => ?_⟩
    rcases List.mem_append.mp z with z | z
    · exact h2 z
    · simp only [List.mem_singleton] at z
      exact ne_new h hpH z
  · show (M ++ [p])[S.length]? = some p
    rw [← hlen]; simp
section
variable {elt tg iter : Expr} {ifs : List Expr} {scope : Scope} {own : List (Str × Nat)} {mi : DSt → Store → Res Src} {g : D → DSt → Store → Res DSt} {t : DSt → Store → Res Bool} {e : DSt → Store → Res D} {is : List Nat}
/-- the tests of a clause -/
theorem pmt_nil : PTs X [] (tOfT X.K X.mg W (fun _ S => .ok true S)) := ⟨fun pins s σ H Q I ⟨w, dσ, S, A, R, P⟩ => pts_nil.run pins s σ H Q I (P.fin A rfl)⟩
theorem pmt_one {c : Expr} {m : DSt → Store → Res Bool} (h : PMT X W c m) : PTs X [c] (tOfT X.K X.mg W m) := pts_one h
theorem pm_lc (hc : X.calm = true) (hN : X.N.Nodup) (hi : PMI X W tg iter mi) (ok : BlkOk X.N X.env.scope scope own)
    (hg : ∀ (s : Shared) (H : Hp) (C : Addr) (cl : List (Str × Addr)) (fp : List Addr), PMX (X.blk s H scope (compEnvC scope cl C X.env) fp) is tg g)
    (ht : ∀ (s : Shared) (H : Hp) (C : Addr) (cl : List (Str × Addr)) (fp : List Addr), PTs (X.blk s H scope (compEnvC scope cl C X.env) fp) ifs (tOfT X.K X.mg W0 t))
    (he : ∀ (s : Shared) (H : Hp) (C : Addr) (cl : List (Str × Addr)) (fp : List Addr), PM (X.blk s H scope (compEnvC scope cl C X.env) fp) W0 elt e) (his : ∀ i ∈ is, i ∈ own.map (·.2)) (hs : ∀ x, foldedSetIterable iter X.env x = pure x := by intro _; rfl) :
    PM X W (.ListComp elt [⟨tg, iter, ifs, 0⟩] scope pos) (mLc mi g t e (own.map (·.2))) :=
  PE.imp (pe_lc hc hN hi ok hg ht he hs) fun σ H Q ⟨w, dσ, S, A, R, P⟩ => ⟨w, dσ, S, A, R, P.bind fun src S1 w1 H1 J e1 A1 rj P1 =>
    lc_imp his (fun A' hb _ hpB e' r' ex P' => fin_lst A' hb hpB e' r' ex P') A1 (R.mono e1) rj.1 rj.2 P1⟩
end
end
end L3
namespace L3
open PySem PySem.Spec L2

section
variable {X : Cx} {W : XW} {tg : Expr} {pos : Pos}
theorem PI.imp {iter : Expr} {t t' : TI} (h : PI X tg iter t) (k : ∀ σ H R, t' σ H R → t σ H R) : PI X tg iter t' := ⟨fun pins s σ H R I q => h.run pins s σ H R I (k σ H R q)⟩
/-- a list, a tuple, a text -/
theorem pi_any {l : Expr} {tl : TE} (hl : PE X l tl) : PI X tg l (fun σ H R => tl σ H fun x H1 => (∃ a xs, x = .ref a ∧ SqL X.K H1 a xs ∧ (xs.length ≤ sizeLine → R (Itl X.K a) H1)) ∨
    (∃ a xs, x = .ref a ∧ SqT X.K H1 a xs ∧ (xs.length ≤ sizeLine → R (Itt X.K a) H1)) ∨ (∃ z, x = .str z ∧ R (Its z) H1)) := by
  refine ⟨fun pins s σ H R I h => ?_⟩
  refine thn (hl.run pins s σ H _ I h) fun v s1 ⟨x, H1, I1, r1, q1⟩ => ?_
  rcases q1 with ⟨a, xs, e, hq, q⟩ | ⟨a, xs, e, hq, q⟩ | ⟨z, e, q⟩
  · subst e
    cases r1
    obtain ⟨its, rv, p, hz⟩ := I1.list hq
    refine wpAny_pyIter_list p.isList ?_
    refine ⟨s1.heap.objs.size, [s1.heap.objs.size], _, _, H1, rfl, I1.kept (t' := s1.toks) fun b o e => Heap.get?_push_of_some _ e, turn_list a _, ⟨_, Heap.get?_push_size _ rfl, rfl, rfl⟩, fun b hb => ?_, q hz⟩
    have e : b = s1.heap.objs.size := by simpa using hb
    subst e
    exact I1.fpOk (Nat.le_refl _) (I1.hok.fresh (Nat.le_refl _))
  · subst e
    cases r1
    obtain ⟨its, rv, p, hz⟩ := I1.tuple hq
    refine wpAny_pyIter_tuple (show s1.heap.IsTuple a its.toArray from p) ?_
    refine ⟨s1.heap.objs.size, [s1.heap.objs.size], _, _, H1, rfl, I1.kept (t' := s1.toks) fun b o e => Heap.get?_push_of_some _ e, turn_tuple a _, ⟨_, Heap.get?_push_size _ rfl, rfl, rfl⟩, fun b hb => ?_, q hz⟩
    have e : b = s1.heap.objs.size := by simpa using hb
    subst e
    exact I1.fpOk (Nat.le_refl _) (I1.hok.fresh (Nat.le_refl _))
  · subst e
    obtain ⟨t, rfl⟩ := r1
    cases ha : z.cps.all (· < 128)
    · exact wpAny_pyIter_wide ha (pi_one (tk := s1.toks) I1 _ (turn_str _ z t "str_iterator" (.inr rfl)) ⟨_, Heap.get?_push_size _ rfl, rfl, rfl⟩ q)
    · exact wpAny_pyIter_ascii ha (pi_one (tk := s1.toks) I1 _ (turn_str _ z t "str_ascii_iterator" (.inl rfl)) ⟨_, Heap.get?_push_size _ rfl, rfl, rfl⟩ q)
def signsOf (z : Str) : List D := z.cps.toList.map fun c => .str ⟨#[c]⟩
def seqSrc (d : D) (S : Store) : Option Src := match d with
  | .str z => if z.length ≤ sizeLine then some ⟨signsOf z, []⟩ else none
  | .tup ds => some ⟨ds, []⟩
  | .ktp ds => some ⟨ds, []⟩
  | .lst ds => some ⟨ds, []⟩
  | .frz ds => some ⟨ds, []⟩
  | .loc l => match S[l]? with
    | some (.lst ds) => some ⟨ds, [(l, .lst ds)]⟩
    | _ => none
  | _ => none
def mSeqI (m : DSt → Store → Res D) (σ : DSt) (S : Store) : Res Src := (m σ S).bind fun d S1 => match seqSrc d S1 with
  | some src => .ok src S1
  | none => .stuck
section
variable {K : PySem.W.Frag} {mg : Str → Option Value} {w : Wd} {H : Hp} {S : Store}
theorem jok_list {a : Addr} {ds : List D} {gd : List (Nat × Ob)} (h : ∀ w' H' S', ExJ w H w' H' → Ab K w' H' mg S' → gOk gd S' → ∃ vs', SqL K H' a vs' ∧ Reps K w' H' ds vs') : JOk K mg w H (Itl K a) ⟨ds, gd⟩ := by
  intro w' H' S' i e A g
  obtain ⟨vs', hq, r⟩ := h w' H' S' e A g
  refine ⟨fun d hd => ?_, fun hl => ⟨vs', hq, by rw [← r.length]; exact hl⟩⟩
  obtain ⟨v, hv, rv⟩ := r.get hd
  refine ⟨⟨vs', v, hq, hv⟩, fun x H2 y => ?_⟩
  obtain ⟨e2, y⟩ := y
  subst e2
  have hx := y vs' hq
  rw [hv] at hx
  cases hx
  exact ⟨w', Ex.refl _ _, A, rv⟩
theorem jok_tup {a : Addr} {ds : List D} {gd : List (Nat × Ob)} (h : ∀ w' H' S', ExJ w H w' H' → Ab K w' H' mg S' → gOk gd S' → ∃ vs', SqT K H' a vs' ∧ Reps K w' H' ds vs') : JOk K mg w H (Itt K a) ⟨ds, gd⟩ := by
  intro w' H' S' i e A g
  obtain ⟨vs', hq, r⟩ := h w' H' S' e A g
  refine ⟨fun d hd => ?_, fun hl => ⟨vs', hq, by rw [← r.length]; exact hl⟩⟩
  obtain ⟨v, hv, rv⟩ := r.get hd
  refine ⟨⟨vs', v, hq, hv⟩, fun x H2 y => ?_⟩
  obtain ⟨e2, y⟩ := y
  subst e2
  have hx := y vs' hq
  rw [hv] at hx
  cases hx
  exact ⟨w', Ex.refl _ _, A, rv⟩
theorem jok_str (z : Str) : JOk K mg w H (Its z) ⟨signsOf z, []⟩ := by
  intro w' H' S' i e A g
  have hl : (signsOf z).length = z.cps.size := by simp [signsOf]
  refine ⟨fun d hd => ?_, fun hl' => by show z.cps.size ≤ i; rw [← hl]; exact hl'⟩
  have hi : i < z.cps.size := by
    rw [← hl]; exact (List.getElem?_eq_some_iff.mp hd).1
  refine ⟨hi, fun x H2 y => ?_⟩
  obtain ⟨e2, c, hc, rfl⟩ := y
  subst e2
  refine ⟨w', Ex.refl _ _, A, ?_⟩
  unfold signsOf at hd
  rw [List.getElem?_map, Array.getElem?_toList, hc] at hd
  cases hd
  exact of_str _
/-- a source that stands: frozen, or a mutable list that is left as it is -/
theorem ra_list {d : D} {v : V} {ds : List D} {gd : List (Nat × Ob)} (A : Ab K w H mg S) (h : seqSrc d S = some ⟨ds, gd⟩) (r : Rep K w H d v) :
    (∃ a vs, v = .ref a ∧ SqL K H a vs ∧ Reps K w H ds vs ∧ JOk K mg w H (Itl K a) ⟨ds, gd⟩) ∨ (∃ a vs, v = .ref a ∧ SqT K H a vs ∧ Reps K w H ds vs ∧ JOk K mg w H (Itt K a) ⟨ds, gd⟩) ∨
      ∃ z, d = .str z ∧ z.length ≤ sizeLine ∧ ds = signsOf z ∧ gd = [] := by
  unfold seqSrc at h
  split at h
  · split at h
    · rename_i z hz
      simp only [Option.some.injEq, Src.mk.injEq] at h
      exact .inr (.inr ⟨z, rfl, hz, h.1.symm, h.2.symm⟩)
    · cases h
  · simp only [Option.some.injEq, Src.mk.injEq] at h
    obtain ⟨rfl, rfl⟩ := h
    simp only [Rep] at r
    obtain ⟨a, vs, rfl, ⟨n, b, f⟩, r⟩ := r
    exact .inr (.inl ⟨a, vs, rfl, .of f, r, jok_tup fun w' H' S' e A' g => ⟨vs, .of (e.at n b f).2.2, r.monoJ e⟩⟩)
  · simp only [Option.some.injEq, Src.mk.injEq] at h
    obtain ⟨rfl, rfl⟩ := h
    simp only [Rep] at r
    obtain ⟨a, vs, rfl, f, r⟩ := r
    exact .inr (.inl ⟨a, vs, rfl, kp_sq f, r, jok_tup fun w' H' S' e A' g => ⟨vs, kp_sq (f.imp_right fun f => f.by fun a u f n b => e.at n b f), r.monoJ e⟩⟩)
  · simp only [Option.some.injEq, Src.mk.injEq] at h
    obtain ⟨rfl, rfl⟩ := h
    simp only [Rep] at r
    obtain ⟨a, vs, rfl, ⟨n, b, f⟩, r⟩ := r
    exact .inl ⟨a, vs, rfl, .of f, r, jok_list fun w' H' S' e A' g => ⟨vs, .of (e.at n b f).2.2, r.monoJ e⟩⟩
  · simp only [Option.some.injEq, Src.mk.injEq] at h
    obtain ⟨rfl, rfl⟩ := h
    simp only [Rep] at r
    obtain ⟨a, vs, rfl, f, r⟩ := r
    refine .inl ⟨a, vs, rfl, f.sq, r, jok_list fun w' H' S' e A' g => ⟨vs, ?_, r.monoJ e⟩⟩
    have f' : FzL K w' H' a vs := f.elim (fun ⟨n, b, f⟩ => .inl (e.rd n b f)) .inr
    exact f'.sq
  · split at h
    · rename_i l _ es q
      simp only [Option.some.injEq, Src.mk.injEq] at h
      obtain ⟨rfl, rfl⟩ := h
      simp only [Rep] at r
      obtain ⟨a, el, rfl⟩ := r
      obtain ⟨u, eu, vs, rfl, r⟩ := A.ob l a _ el q
      refine .inl ⟨a, vs, rfl, .of eu, r, jok_list fun w' H' S' e A' g => ?_⟩
      obtain ⟨u', eu', vs', rfl, r'⟩ := A'.ob l a _ (e.get el) (g (l, _) List.mem_cons_self)
      exact ⟨vs', .of eu', r'⟩
    · cases h
  · cases h
end
theorem pmi_seq {l : Expr} {m : DSt → Store → Res D} (h : PM X W l m) : PMI X W tg l (mSeqI m) := by
  refine PI.imp (pi_any h) fun σ H R ⟨w, dσ, S, A, Rs, P⟩ => ⟨w, dσ, S, A, Rs, P.bind fun d S1 w1 H1 v e1 A1 r1 P1 => ?_⟩
  split at P1
  · rename_i src hs
    obtain ⟨ds, gd⟩ := src
    rcases ra_list A1 hs r1 with ⟨a, vs, rfl, hq, r, j⟩ | ⟨a, vs, rfl, hq, r, j⟩ | ⟨z, rfl, hz, rfl, rfl⟩
    · exact .inl ⟨a, vs, rfl, hq, fun hz => P1.fin A1 ⟨j, by show ds.length ≤ sizeLine; rw [r.length]; exact hz⟩⟩
    · exact .inr (.inl ⟨a, vs, rfl, hq, fun hz => P1.fin A1 ⟨j, by show ds.length ≤ sizeLine; rw [r.length]; exact hz⟩⟩)
    · exact .inr (.inr ⟨z, rep_str r1, P1.fin A1 ⟨jok_str z, by show (signsOf z).length ≤ sizeLine; simp only [signsOf, List.length_map]; simpa [Str.length] using hz⟩⟩)
  · exact P1.elim

/-! ### ranges -/
def rangeD (lo c : Int) (n : Nat) : List D := (List.range n).map fun (i : Nat) => D.int (lo + (i : Int) * c)
theorem rangeD_len (lo c : Int) (n : Nat) : (rangeD lo c n).length = n := by simp [rangeD]
theorem rangeD_get {lo c : Int} {n i : Nat} {d : D} (h : (rangeD lo c n)[i]? = some d) : i < n ∧ d = .int (lo + (i : Int) * c) := by
  unfold rangeD at h
  obtain ⟨h1, h2⟩ := List.getElem?_eq_some_iff.mp h
  simp at h1 h2
  exact ⟨h1, h2.symm⟩
theorem jok_range {K : PySem.W.Frag} {mg : Str → Option Value} {w : Wd} {H : Hp} (lo : Int) (n : Nat) : JOk K mg w H (Itr lo n) ⟨rangeD lo 1 n, []⟩ := by
  intro w' H' S' i e A g
  refine ⟨fun d hd => ?_, fun hl => by show n ≤ i; rw [← rangeD_len lo 1 n]; exact hl⟩
  obtain ⟨h1, rfl⟩ := rangeD_get hd
  refine ⟨h1, fun x H2 ⟨e2, y⟩ => ?_⟩
  subst e2 y
  exact ⟨w', Ex.refl _ _, A, by rw [Int.mul_one]; exact of_int _⟩
def mRng1 (ms : DSt → Store → Res (List D)) (σ : DSt) (S : Store) : Res Src := (ms σ S).bind fun ds S1 => match ds with
  | [.int j] => if j ≤ sizeLine ∧ -(2 ^ 62) ≤ j then .ok ⟨rangeD 0 1 j.toNat, []⟩ S1 else .stuck
  | _ => .stuck
def mRng2 (ms : DSt → Store → Res (List D)) (σ : DSt) (S : Store) : Res Src := (ms σ S).bind fun ds S1 => match ds with
  | [.int i, .int j] => if -(2 ^ 62) ≤ i ∧ i < 2 ^ 62 ∧ -(2 ^ 62) ≤ j ∧ j < 2 ^ 62 ∧ (j - i).toNat ≤ sizeLine then .ok ⟨rangeD i 1 (j - i).toNat, []⟩ S1 else .stuck
  | _ => .stuck
/-- downward by ones -/
def mRng3 (ms : DSt → Store → Res (List D)) (σ : DSt) (S : Store) : Res Src := (ms σ S).bind fun ds S1 => match ds with
  | [.int i, .int j, .int c] => if c = -1 ∧ -(2 ^ 62) ≤ i ∧ i < 2 ^ 62 ∧ -(2 ^ 62) ≤ j ∧ j < 2 ^ 62 ∧ (i - j).toNat ≤ sizeLine then .ok ⟨rangeD i (-1) (i - j).toNat, []⟩ S1 else .stuck
  | _ => .stuck
theorem reps1 {K : PySem.W.Frag} {w : Wd} {H : Hp} {d : D} {vs : List V} (h : Reps K w H [d] vs) : ∃ v, vs = [v] ∧ Rep K w H d v := by
  simp only [Reps] at h
  obtain ⟨v, r, rfl, h1, rfl⟩ := h
  exact ⟨v, rfl, h1⟩
theorem reps2 {K : PySem.W.Frag} {w : Wd} {H : Hp} {d e : D} {vs : List V} (h : Reps K w H [d, e] vs) : ∃ v u, vs = [v, u] ∧ Rep K w H d v ∧ Rep K w H e u := by
  simp only [Reps] at h
  obtain ⟨v, r, rfl, h1, u, r', rfl, h2, rfl⟩ := h
  exact ⟨v, u, rfl, h1, h2⟩
theorem pmi_range1 {a : Expr} {ms : DSt → Store → Res (List D)} {p : Pos} (hg : Gl X "range") (hm : X.mg "range" = none) (ha : PMA X W [a] ms) (hs : starEach [a] X.env = [(false, eval a X.env)] := by rfl) : PMI X W tg (.Call (.Name "range" p) [a] [] pos) (mRng1 ms) := by
  refine PI.imp (pi_range1 hg hm ha hs) fun σ H R ⟨w, dσ, S, A, Rs, P⟩ => ⟨w, dσ, S, A, Rs, P.bind fun ds S1 w1 H1 vs e1 A1 r1 P1 => ?_⟩
  split at P1
  · split at P1
    · rename_i j hz
      obtain ⟨v, rfl, r⟩ := reps1 r1
      refine ⟨j, by rw [rep_int r], hz.2, ?_, P1.fin A1 ⟨jok_range 0 j.toNat, ?_⟩⟩
      · have : (sizeLine : Int) < 2 ^ 62 := by decide
        omega
      · show (rangeD 0 1 j.toNat).length ≤ sizeLine
        rw [rangeD_len]; omega
    · exact P1.elim
  · exact P1.elim
/-! ### enumerate, zip -/
def enumD (k : Nat) : List D → List D
  | [] => []
  | d :: ds => .tup [.int k, d] :: enumD (k + 1) ds
theorem enumD_len : ∀ (k : Nat) (ds : List D), (enumD k ds).length = ds.length
  | _, [] => rfl
  | k, d :: ds => by simp [enumD, enumD_len (k + 1) ds]
theorem enumD_get : ∀ {k i : Nat} {ds : List D} {e : D}, (enumD k ds)[i]? = some e → ∃ d, ds[i]? = some d ∧ e = .tup [.int ((k + i : Nat) : Int), d]
  | _, _, [], _, h => by simp [enumD] at h
  | k, 0, d :: ds, e, h => by
    simp [enumD] at h
    exact ⟨d, by simp, by rw [← h]; rfl⟩
  | k, i + 1, d :: ds, e, h => by
    simp [enumD] at h
    obtain ⟨d', h1, h2⟩ := enumD_get h
    exact ⟨d', by simpa using h1, by rw [h2]; congr 3; omega⟩
def zipD : List D → List D → List D
  | a :: as, b :: bs => .tup [a, b] :: zipD as bs
  | _, _ => []
theorem yldTup {K : PySem.W.Frag} {mg : Str → Option Value} {w : Wd} {H : Hp} {S : Store} (A : Ab K w H mg S) {T : Addr} {x : V} {d e : D} {y : V} (hT : H T = none) (rd : Rep K w H d x) (re : Rep K w H e y) :
    ∃ w2, Ex w H w2 (upd H T (.tup [x, y])) ∧ Ab K w2 (upd H T (.tup [x, y])) mg S ∧ Rep K w2 (upd H T (.tup [x, y])) (.tup [d, e]) (.ref T) :=
  ⟨w, Ex.new hT, A.newF hT, Rep.tupNew A hT (.cons rd (.cons re .nil))⟩
/-- a list that is read -/
def lstSrc (d : D) (S : Store) : Option Src := match d with
  | .lst ds => some ⟨ds, []⟩
  | .frz ds => some ⟨ds, []⟩
  | .loc l => match S[l]? with
    | some (.lst ds) => some ⟨ds, [(l, .lst ds)]⟩
    | _ => none
  | _ => none
theorem lst_st {K : PySem.W.Frag} {mg : Str → Option Value} {w : Wd} {H : Hp} {S : Store} {d : D} {src : Src} {v : V} (A : Ab K w H mg S) (h : lstSrc d S = some src) (r : Rep K w H d v) :
    ∃ a vs, v = .ref a ∧ SqL K H a vs ∧ Reps K w H src.items vs ∧ ∀ w' H' S', ExJ w H w' H' → Ab K w' H' mg S' → gOk src.guard S' → ∃ vs', SqL K H' a vs' ∧ Reps K w' H' src.items vs' := by
  cases d with
  | lst es =>
    simp only [lstSrc, Option.some.injEq] at h
    subst h
    simp only [Rep] at r
    obtain ⟨a, vs, rfl, ⟨n, b, f⟩, r⟩ := r
    exact ⟨a, vs, rfl, .of f, r, fun w' H' S' e A' g => ⟨vs, .of (e.at n b f).2.2, r.monoJ e⟩⟩
  | frz es =>
    simp only [lstSrc, Option.some.injEq] at h
    subst h
    simp only [Rep] at r
    obtain ⟨a, vs, rfl, f, r⟩ := r
    refine ⟨a, vs, rfl, f.sq, r, fun w' H' S' e A' g => ⟨vs, ?_, r.monoJ e⟩⟩
    have f' : FzL K w' H' a vs := f.elim (fun ⟨n, b, f⟩ => .inl (e.rd n b f)) .inr
    exact f'.sq
  | loc l =>
    simp only [lstSrc] at h
    split at h
    · rename_i es q
      simp only [Option.some.injEq] at h
      subst h
      simp only [Rep] at r
      obtain ⟨a, el, rfl⟩ := r
      obtain ⟨u, eu, vs, rfl, r⟩ := A.ob l a _ el q
      refine ⟨a, vs, rfl, .of eu, r, fun w' H' S' e A' g => ?_⟩
      obtain ⟨u', eu', vs', rfl, r'⟩ := A'.ob l a _ (e.get el) (g (l, _) List.mem_cons_self)
      exact ⟨vs', .of eu', r'⟩
    · cases h
  | _ => simp [lstSrc] at h
theorem tup_st {K : PySem.W.Frag} {w : Wd} {H : Hp} {d : D} {ds : List D} {v : V} (h : rdT d = some ds) (r : Rep K w H d v) :
    ∃ a vs, v = .ref a ∧ SqT K H a vs ∧ Reps K w H ds vs ∧ ∀ w' H', ExJ w H w' H' → ∃ vs', SqT K H' a vs' ∧ Reps K w' H' ds vs' := by
  cases d with
  | tup es =>
    simp only [rdT, Option.some.injEq] at h
    subst h
    simp only [Rep] at r
    obtain ⟨a, vs, rfl, ⟨n, b, f⟩, r⟩ := r
    exact ⟨a, vs, rfl, .of f, r, fun w' H' e => ⟨vs, .of (e.at n b f).2.2, r.monoJ e⟩⟩
  | ktp es =>
    simp only [rdT, Option.some.injEq] at h
    subst h
    simp only [Rep] at r
    obtain ⟨a, vs, rfl, f, r⟩ := r
    exact ⟨a, vs, rfl, kp_sq f, r, fun w' H' e => ⟨vs, kp_sq (f.imp_right fun f => f.by fun a u f n b => e.at n b f), r.monoJ e⟩⟩
  | _ => simp [rdT] at h
/-- an argument list, the sizes of what stands told -/
theorem PA.szd {es : List Expr} {t : TA} (h : PA X es t) : PA X es (fun σ H Q => t σ H fun vs H1 => ((∀ a xs, SqL X.K H1 a xs → xs.length ≤ sizeLine) → (∀ a xs, SqT X.K H1 a xs → xs.length ≤ sizeLine) → Q vs H1)) := by
  refine ⟨fun ps pins s σ H Q I q => ?_⟩
  refine thn (h.run ps pins s σ H _ I q) fun us s1 ⟨vs, H1, I1, r1, q1⟩ => ⟨vs, H1, I1, r1, q1 (fun a xs hq => ?_) fun a xs hq => ?_⟩
  · obtain ⟨_, _, _, hz⟩ := I1.list hq
    exact hz
  · obtain ⟨_, _, _, hz⟩ := I1.tuple hq
    exact hz
def mEnum (ms : DSt → Store → Res (List D)) (σ : DSt) (S : Store) : Res Src := (ms σ S).bind fun ds S1 => match ds with
  | [d] => match lstSrc d S1 with
    | some src => .ok ⟨enumD 0 src.items, src.guard⟩ S1
    | none => .stuck
  | _ => .stuck
def mZip (ms : DSt → Store → Res (List D)) (σ : DSt) (S : Store) : Res Src := (ms σ S).bind fun ds S1 => match ds with
  | [d, e] => match lstSrc d S1, lstSrc e S1 with
    | some s1, some s2 => .ok ⟨zipD s1.items s2.items, s1.guard ++ s2.guard⟩ S1
    | _, _ => match rdT d, rdT e with
      | some a, some b => .ok ⟨zipD a b, []⟩ S1
      | _, _ => .stuck
  | _ => .stuck
end
end L3
namespace L3
open PySem PySem.Spec L2

/-! ### defs -/
/-- a def's promise by a function (nothing is raised) -/
def spD (K : PySem.W.Frag) (mg : Str → Option Value) (n : Nat) (den : List D → Store → Res D) : Sp := fun vs H Q _ => ∃ w ds S, Ab K w H mg S ∧ Reps K w H ds vs ∧ ds.length = n ∧
  (match den ds S with
  | .ok d S' => ∀ w' H' v, Ex w H w' H' → Ab K w' H' mg S' → Rep K w' H' d v → Q v H'
  | _ => False)
def noX {α : Type} (r : Res α) : Res α := match r with
  | .ok a S => .ok a S
  | _ => .stuck
@[simp] theorem noX_ok {α : Type} (a : α) (S : Store) : noX (.ok a S) = .ok a S := (rfl)
@[simp] theorem noX_stuck {α : Type} : noX (.stuck : Res α) = .stuck := (rfl)
@[simp] theorem noX_exc {α : Type} (c : Str) (fs : List (Str × D)) (S : Store) : noX (.exc c fs S : Res α) = .stuck := (rfl)
def mCall (n : Nat) (den : List D → Store → Res D) (ms : DSt → Store → Res (List D)) (σ : DSt) (S : Store) : Res D := (ms σ S).bind fun ds S1 => if ds.length = n then noX (den ds S1) else .stuck
section
variable {X : Cx} {W : XW} {k : Nat} {f : Addr} {fd : FuncData} {ps : List Str} {x m : Str} {p pos apos : Pos} {e o : Expr} {es : List Expr} {den : List D → Store → Res D} {n : Nat}
theorem callP {σ : L2.St} {w : Wd} {H : Hp} {S : Store} {ds : List D} {vs : List V} {Q : VK} (A : Ab X.K w H X.mg S) (r : Reps X.K w H ds vs) (P : Post X.K X.mg (Rep X.K) W σ w H (if ds.length = n then noX (den ds S) else .stuck) Q) : spD X.K X.mg n den vs H Q E0 := by
  split at P
  · rename_i hl
    refine ⟨w, ds, S, A, r, hl, ?_⟩
    cases hd : den ds S with
    | ok d S2 => rw [hd] at P; exact P
    | exc c fs S2 => rw [hd] at P; exact P.elim
    | stuck => rw [hd] at P; exact P.elim
  · exact P.elim
theorem pm_call {ms : DSt → Store → Res (List D)} (F : FnOk X.prog X.w X.K X.mg X.base CX0 k f fd ps (spD X.K X.mg n den)) (hr : Room k X.A) (hg : Gl X x) (hm : X.mg x = some (.ref f)) (hk : PySem.W.keepIn X.K (.ref f) = true) (hb : Binds X.K fd ps [])
    (ha : PMA X W (e :: es) ms) (hdb : (x == ("__debug__" : Str)) = false := by decide) (he : starEach (e :: es) X.env = (false, eval e X.env) :: starEach es X.env := by rfl) (hpl : (backTo pos (starEach es X.env)).any (·.1) = false := by rfl) :
    PM X W (.Call (.Name x p) (e :: es) [] pos) (mCall n den ms) :=
  PE.imp (pe_call F hr hg hm hk hb .nil pass0 ha hdb he hpl) fun σ H Q ⟨w, dσ, S, A, R, P⟩ => ⟨w, dσ, S, A, R, P.bind fun ds S1 w1 H1 vs e1 A1 r1 P1 => by
    rw [List.append_nil]
    exact callP A1 r1 P1⟩
/-- a new instance; C's own name in the store -/
def mMake (n : Nat) (C : Str) (den : List D → Store → Res D) (ms : DSt → Store → Res (List D)) (σ : DSt) (S : Store) : Res D := (ms σ S).bind fun ds S1 => if ds.length + 1 = n then (match den (.loc S1.length :: ds) (S1 ++ [.ins C []]) with
  | .ok .non S2 => .ok (.loc S1.length) S2
  | _ => .stuck) else .stuck
theorem Ex.newI {w : Wd} {H : Hp} {x dx C : Addr} (hx : H x = none) (hd : H dx = none) : Ex w H ⟨w.M ++ [x], w.B⟩ (upd (upd H dx (.own x)) x (.ins C dx [])) :=
  ⟨⟨[x], rfl⟩, rfl, fun a u h n => ⟨by rw [upd_ne (ne_new h hx), upd_ne (ne_new h hd)]; exact h, by simp only [List.mem_append, List.mem_singleton, not_or]; exact ⟨n, ne_new h hx⟩⟩, fun a od u h => by rw [upd_ne (ne_new h hx), upd_ne (ne_new h hd)]; exact h⟩
theorem Ab.newI {K : PySem.W.Frag} {mg : Str → Option Value} {w : Wd} {H : Hp} {S : Store} {x dx C : Addr} {c : Str} (A : Ab K w H mg S) (hx : H x = none) (hd : H dx = none) (hc : mg c = some (.ref C)) (hne : dx ≠ x) :
    Ab K ⟨w.M ++ [x], w.B⟩ (upd (upd H dx (.own x)) x (.ins C dx [])) mg (S ++ [.ins c []]) := by
  have A1 : Ab K w (upd H dx (.own x)) mg S := A.newF hd
  exact A1.newM (by rw [upd_ne (Ne.symm hne)]; exact hx) ⟨C, dx, [], hc, rfl, rfl⟩
theorem pm_make {C : Addr} {ms : DSt → Store → Res (List D)} (M : L2.Mk X.K C f) (F : FnOk X.prog X.w X.K X.mg X.base CX0 k f fd ps (spD X.K X.mg n den)) (hr : Room (k + 1) X.A) (hg : Gl X x) (hm : X.mg x = some (.ref C)) (hb : Binds X.K fd ps [])
    (ha : PMA X W (e :: es) ms) (hdb : (x == ("__debug__" : Str)) = false := by decide) (he : starEach (e :: es) X.env = (false, eval e X.env) :: starEach es X.env := by rfl) (hpl : (backTo pos (starEach es X.env)).any (·.1) = false := by rfl) :
    PM X W (.Call (.Name x p) (e :: es) [] pos) (mMake n x den ms) :=
  PE.imp (pe_make M F hr hg hm hb .nil pass0 ha hdb he hpl) fun σ H Q ⟨w, dσ, S, A, R, P⟩ => ⟨w, dσ, S, A, R, P.bind fun ds S1 w1 H1 vs e1 A1 r1 P1 => by
    rw [List.append_nil]
    intro y dy hy hdy hne
    split at P1
    · rename_i hl
      have ex := Ex.newI (w := w1) (C := C) hy hdy
      refine ⟨⟨w1.M ++ [y], w1.B⟩, .loc S1.length :: ds, S1 ++ [.ins x []], A1.newI hy hdy hm hne, .cons (Rep.locNew A1) (r1.mono ex), by simpa using hl, ?_⟩
      split at P1
      · rename_i S2 hd
        rw [hd]
        refine fun w2 H2 v e2 A2 r2 => ⟨rep_non r2, P1 w2 H2 _ (ex.trans e2) A2 (of_loc (e2.get ?_))⟩
        show (w1.M ++ [y])[S1.length]? = some y
        rw [← A1.len]; simp
      · exact P1.elim
    · exact P1.elim⟩
/-- o.m(..) -/
def insOf (S : Store) (d : D) : Option (Str × List (Str × D)) := match d with
  | .loc l => match S[l]? with
    | some (.ins C fs) => some (C, fs)
    | _ => none
  | _ => none
def mMeth (n : Nat) (C m : Str) (den : List D → Store → Res D) (mo : DSt → Store → Res D) (ms : DSt → Store → Res (List D)) (σ : DSt) (S : Store) : Res D := (mo σ S).bind fun o S1 => match insOf S1 o with
  | some (C', fs) => if C' = C ∧ fs.lookup m = none then (ms σ S1).bind fun ds S2 => if ds.length + 1 = n then noX (den (o :: ds) S2) else .stuck else .stuck
  | none => .stuck
theorem lookup_rep {K : PySem.W.Frag} {w : Wd} {H : Hp} (m : Str) : ∀ {fs : List (Str × D)} {vs : List (Str × V)}, RKv K w H fs vs → RepO K w H (fs.lookup m) (vs.lookup m) ∧ (fs.lookup m = none → vs.lookup m = none)
  | [], _, h => by simp only [RKv] at h; subst h; exact ⟨trivial, fun _ => rfl⟩
  | (j, d) :: fs, _, h => by
    obtain ⟨v, r, rfl, h1, h2⟩ := h
    simp only [List.lookup_cons]
    cases hq : m == j with
    | true => exact ⟨h1, fun z => by cases z⟩
    | false => exact lookup_rep m h2
theorem ins_rep {K : PySem.W.Frag} {mg : Str → Option Value} {w : Wd} {H : Hp} {S : Store} {d : D} {C : Str} {fs : List (Str × D)} {v : V} (A : Ab K w H mg S) (h : insOf S d = some (C, fs)) (r : Rep K w H d v) :
    ∃ (l : Nat) (a A' dx : Addr) (vs : List (Str × V)), d = .loc l ∧ w.M[l]? = some a ∧ S[l]? = some (.ins C fs) ∧ v = .ref a ∧ mg C = some (.ref A') ∧ H a = some (.ins A' dx vs) ∧ RKv K w H fs vs := by
  unfold insOf at h
  split at h
  · rename_i l
    split at h
    · rename_i C' fs' q
      simp only [Option.some.injEq, Prod.mk.injEq] at h
      obtain ⟨rfl, rfl⟩ := h
      simp only [Rep] at r
      obtain ⟨a, el, rfl⟩ := r
      obtain ⟨u, eu, A', dx, vs, hm, rfl, r'⟩ := A.ob l a _ el q
      exact ⟨l, a, A', dx, vs, rfl, el, q, rfl, hm, eu, r'⟩
    · cases h
  · cases h
theorem pm_meth {pl : Sem Bool} {C : Addr} {c : Str} {mo : DSt → Store → Res D} {ms : DSt → Store → Res (List D)} (ho : PM X W o mo) (hmc : X.mg c = some (.ref C)) (cl : Cls X.K C) (hm : Meth X.K C m f) (F : FnOk X.prog X.w X.K X.mg X.base CX0 k f fd ps (spD X.K X.mg n den)) (hr : Room k X.A) (hb : Binds X.K fd ps []) (ha : PMA X W (e :: es) ms)
    (hst : starEach (e :: es) X.env = (false, eval e X.env) :: starEach es X.env := by rfl) (hpl : (backTo pos (starEach es X.env)).any (·.1) = false := by rfl)
    (ht : eval (.Call (.Attribute o m apos) (e :: es) [] pos) X.env = (do
      let ov ← eval o X.env
      standAt apos.atName
      let (f, first) ← holding [ov] (getMethod ov m pl)
      callWith pos f first (backTo pos (starEach (e :: es) X.env)) (backToKw pos (keywordEach [] X.env))) := by rfl) :
    PM X W (.Call (.Attribute o m apos) (e :: es) [] pos) (mMeth n c m den mo ms) :=
  PE.imp (pe_meth ho cl hm F hr hb .nil pass0 ha hst hpl ht) fun σ H Q ⟨w, dσ, S, A, R, P⟩ => ⟨w, dσ, S, A, R, P.bind fun od S1 w1 H1 v e1 A1 r1 P1 => by
    split at P1
    · rename_i C' fs hi
      split at P1
      · rename_i hc
        obtain ⟨l, a, A', dx, vs, rfl, el, q, rfl, hm', eu, r'⟩ := ins_rep A1 hi r1
        rw [hc.1, hmc] at hm'
        cases hm'
        refine ⟨a, dx, vs, rfl, eu, (lookup_rep m r').2 hc.2, w1, dσ, S1, A1, R.mono e1, P1.bind fun ds S2 w2 H2 us e2 A2 r2 P2 => ?_⟩
        rw [List.append_nil]
        split at P2
        · rename_i hl
          exact callP (W := W) (σ := σ) A2 (.cons (r1.mono e2) r2) (by rw [if_pos (by simpa using hl)]; exact P2)
        · exact P2.elim
      · exact P1.elim
    · exact P1.elim⟩
/-- every own class of which instances are made: its facts -/
def ClsF (X : Cx) (f : Str) (cs : List Str) : Prop := ∀ c ∈ cs, ∃ C, X.mg c = some (.ref C) ∧ Cls X.K C ∧ NoAttr X.K C f
def mFldC (cs : List Str) (f : Str) (mo : DSt → Store → Res D) (σ : DSt) (S : Store) : Res D := (mo σ S).bind fun o S1 => match insOf S1 o with
  | some (C, fs) => if C ∈ cs then (match fs.lookup f with
    | some d => .ok d S1
    | none => .stuck) else .stuck
  | none => .stuck
theorem pm_fld {g : Str} {cs : List Str} {mo : DSt → Store → Res D} (ho : PM X W o mo) (hf : ClsF X g cs) (hb : attributeBase o g X.env (eval o X.env) = eval o X.env := by rfl) : PM X W (.Attribute o g pos) (mFldC cs g mo) :=
  PE.imp (pe_fld ho hb) fun σ H Q ⟨w, dσ, S, A, R, P⟩ => ⟨w, dσ, S, A, R, P.bind fun od S1 w1 H1 v e1 A1 r1 P1 => by
    split at P1
    · rename_i C' fs hi
      split at P1
      · rename_i hc
        split at P1
        · rename_i d hl
          obtain ⟨l, a, A', dx, vs, rfl, el, q, rfl, hm', eu, r'⟩ := ins_rep A1 hi r1
          obtain ⟨C, h1, h2, h3⟩ := hf C' hc
          rw [h1] at hm'
          cases hm'
          have lk := (lookup_rep g r').1
          rw [hl] at lk
          cases hv : vs.lookup g with
          | none => rw [hv] at lk; exact lk.elim
          | some v => rw [hv] at lk; exact ⟨a, _, dx, vs, v, rfl, eu, h2, h3, hv, P1.fin A1 lk⟩
        · exact P1.elim
      · exact P1.elim
    · exact P1.elim⟩
end

/-! ### a def's own promise -/
def denOf (n : Nat) (m : DSt → Store → Res Fl) (ds : List D) (S : Store) : Res D := match m (ds.map some ++ List.replicate (n - ds.length) none) S with
  | .ok (.rt d) S' => .ok d S'
  | .ok (.nx _) S' => .ok .non S'
  | .ok (.ex c fs _) S' => .exc c fs S'
  | _ => .stuck
theorem start_rep {K : PySem.W.Frag} {w : Wd} {H : Hp} {ds : List D} {vs : List V} (r : Reps K w H ds vs) (N : List Str) : RSt K w H (ds.map some ++ List.replicate (N.length - ds.length) none) (L2.start N vs) := by
  have hl := r.length
  unfold L2.start
  refine ⟨by simp [hl], fun i d h => ?_⟩
  by_cases hi : i < ds.length
  · rw [List.getElem?_append_left (by simpa using hi), List.getElem?_map] at h
    cases hd : ds[i]? with
    | none => rw [hd] at h; cases h
    | some d' =>
      rw [hd] at h
      have e : d' = d := by simpa using h
      subst e
      obtain ⟨v, hv, rv⟩ := r.get hd
      exact ⟨v, by rw [List.getElem?_append_left (by simp; omega), List.getElem?_map, hv]; rfl, rv⟩
  · rw [List.getElem?_append_right (by simpa using hi)] at h
    have := List.mem_of_getElem? h
    simp at this
section
variable {P : Program} {w : World} {K : PySem.W.Frag} {mg : Str → Option Value} {base : Heap}
theorem fn_den {x qual : Str} {st : Stmt} {f : Addr} {fd : FuncData} {N ps : List Str} {k : Nat} {m : DSt → Store → Res Fl} (F : Fun K x qual st f fd) (S : FnScope N ps (defScope st))
    (hbody : ∀ (cdv : Value) (A : Around) (outer : List Env) (s : Shared) (H : Hp) (E : XK), Room k (A.deeper (PyProof.Rows.envOfC qual (defScope st) s.heap.objs.size f cdv)) →
      PMSs (cxOf CX0 P w K mg base N qual (defScope st) f cdv A outer s H E).nox W0 (defBody st) m) : FnOk P w K mg base CX0 (k + 1) f fd ps (spD K mg ps.length (denOf N.length m)) := by
  refine F.ok S (fun vs H Q E h => ?_) (fun cdv A outer s H vs Q E hr h => ⟨_, hbody cdv A outer s H E hr, ?_⟩)
  · obtain ⟨w, ds, S, A, r, hl, _⟩ := h
    rw [← r.length]; exact hl
  · obtain ⟨w, ds, S, A, r, hl, P⟩ := h
    refine ⟨w, _, S, A, start_rep r N, ?_⟩
    unfold denOf at P
    split at P
    · rename_i d S' hd
      split at hd
      · rename_i d' S'' hm
        cases hd
        rw [hm]
        exact P
      · rename_i σ' S'' hm
        cases hd
        rw [hm]
        exact fun w' H' σ2 e A' R => P w' H' _ e A' of_non
      · cases hd
      · cases hd
    · exact P.elim
end

/-! ### what a call has made and left behind may be forgotten -/
mutual
def D.sc (n : Nat) : D → Bool
  | .tup ds => D.scs n ds
  | .ktp ds => D.scs n ds
  | .lst ds => D.scs n ds
  | .frz ds => D.scs n ds
  | .loc l => decide (l < n)
  | .exf _ _ _ _ => true
  | .exk _ _ => true
  | _ => true
def D.scs (n : Nat) : List D → Bool
  | [] => true
  | d :: ds => d.sc n && D.scs n ds
end
def scK {κ : Type} (n : Nat) (kvs : List (κ × D)) : Bool := kvs.all fun p => p.2.sc n
def Ob.sc (n : Nat) : Ob → Bool
  | .lst ds => D.scs n ds
  | .dK kvs => scK n kvs
  | .dT kvs => scK n kvs
  | .dN kvs => scK n kvs
  | .ins _ fs => scK n fs
  | .lck o => o.sc n
section
variable {K : PySem.W.Frag} {mg : Str → Option Value} {w w' : Wd} {H H' : Hp}
mutual
theorem rep_sc : ∀ {d : D} {v : V}, Rep K w H d v → d.sc w.M.length = true
  | .non, _, _ => rfl
  | .bl _, _, _ => rfl
  | .int _, _, _ => rfl
  | .str _, _, _ => rfl
  | .tup ds, _, h => by
    simp only [Rep] at h
    obtain ⟨a, vs, rfl, f, r⟩ := h
    simp only [D.sc]
    exact reps_sc r
  | .ktp ds, _, h => by
    simp only [Rep] at h
    obtain ⟨a, vs, rfl, f, r⟩ := h
    simp only [D.sc]
    exact reps_sc r
  | .lst ds, _, h => by
    simp only [Rep] at h
    obtain ⟨a, vs, rfl, f, r⟩ := h
    simp only [D.sc]
    exact reps_sc r
  | .frz ds, _, h => by
    simp only [Rep] at h
    obtain ⟨a, vs, rfl, f, r⟩ := h
    simp only [D.sc]
    exact reps_sc r
  | .loc l, _, h => by
    simp only [Rep] at h
    obtain ⟨a, e, _⟩ := h
    simp only [D.sc]
    exact decide_eq_true (List.getElem?_eq_some_iff.mp e).1
  | .exn _, _, _ => rfl
  | .exf _ _ _ _, _, _ => rfl
  | .exk _ _, _, _ => rfl
theorem reps_sc : ∀ {ds : List D} {vs : List V}, Reps K w H ds vs → D.scs w.M.length ds = true
  | [], _, _ => rfl
  | d :: ds, _, h => by
    simp only [Reps] at h
    obtain ⟨v, r, rfl, h1, h2⟩ := h
    simp only [D.scs, Bool.and_eq_true]
    exact ⟨rep_sc h1, reps_sc h2⟩
end
theorem rkv_sc {κ : Type} : ∀ {kvs : List (κ × D)} {vs : List (κ × V)}, RKv K w H kvs vs → scK w.M.length kvs = true
  | [], _, _ => rfl
  | (j, d) :: kvs, _, h => by
    obtain ⟨v, r, rfl, h1, h2⟩ := h
    have := rkv_sc h2
    unfold scK at this ⊢
    rw [List.all_cons, Bool.and_eq_true]
    exact ⟨rep_sc h1, this⟩
theorem rnv_sc : ∀ {kvs : List (NK × D)} {xs : List (NK × Addr × Value)}, RNv K w H kvs xs → scK w.M.length kvs = true
  | [], _, _ => rfl
  | (j, d) :: kvs, _, h => by
    obtain ⟨p, u, v, r, rfl, h1, h2, h3, h4⟩ := h
    have := rnv_sc h4
    unfold scK at this ⊢
    rw [List.all_cons, Bool.and_eq_true]
    exact ⟨rep_sc h3, this⟩
theorem ints_sc (n : Nat) : ∀ t : List Int, D.scs n (t.map D.int) = true
  | [] => rfl
  | _ :: t => by simp only [List.map_cons, D.scs, D.sc, Bool.true_and]; exact ints_sc n t
theorem nk_sc (n : Nat) (k : NK) : (nkD k).sc n = true := by
  have : ∀ k : NK, D.scs n (k.map fun t => D.tup (t.map D.int)) = true := fun k => by
    induction k with
    | nil => rfl
    | cons t k ih =>
      rw [List.map_cons]
      simp only [D.scs, D.sc, ints_sc, ih, Bool.and_self]
  unfold nkD
  simp only [D.sc]
  exact this k
theorem ho_sc : ∀ {o : Ob} {u : HO}, HoOk K w H mg o u → o.sc w.M.length = true
  | .lst ds, _, h => let ⟨_, _, r⟩ := h; reps_sc r
  | .dK ds, _, h => let ⟨_, _, r⟩ := h; rkv_sc r
  | .dT ds, _, h => let ⟨_, _, r⟩ := h; rkv_sc r
  | .dN ds, _, h => let ⟨_, _, _, r, _⟩ := h; rnv_sc r
  | .ins C ds, _, h => let ⟨_, _, _, _, _, r⟩ := h; rkv_sc r
  | .lck o, _, h => let ⟨_, _, _, r⟩ := h; ho_sc (o := o) r
/-- the later world cut to the earlier one -/
theorem cutL (hM : ∃ t, w'.M = w.M ++ t) (hB : w'.B = w.B) {a : Addr} {xs : List V} (h : FzL K w' H' a xs) : FzL K w H' a xs := by
  obtain ⟨t, ht⟩ := hM
  rcases h with ⟨n, b, h⟩ | h
  · exact .inl ⟨fun z => n (by rw [ht]; exact List.mem_append_left _ z), by rw [← hB]; exact b, h⟩
  · exact .inr h
mutual
theorem rep_cut (hM : ∃ t, w'.M = w.M ++ t) (hB : w'.B = w.B) : ∀ {d : D} {v : V}, Rep K w' H' d v → d.sc w.M.length = true → Rep K w H' d v
  | .non, _, h, _ => by simpa only [Rep] using h
  | .exn _, _, h, _ => by simpa only [Rep] using h
  | .exf _ _ _ _, _, h, _ => by
    obtain ⟨t, ht⟩ := hM
    simp only [Rep] at h ⊢
    exact ⟨h.1, fun z => h.2.1 (by rw [ht]; exact List.mem_append_left _ z), by rw [← hB]; exact h.2.2.1, h.2.2.2⟩
  | .exk c fl, _, h, _ => by
    obtain ⟨t, ht⟩ := hM
    simp only [Rep] at h ⊢
    obtain ⟨a, A, e, g, k⟩ := h
    have q : ∀ {x u}, FzE w' H' x u → FzE w H' x u := fun h => ⟨fun z => h.1 (by rw [ht]; exact List.mem_append_left _ z), by rw [← hB]; exact h.2.1, h.2.2⟩
    refine ⟨a, A, e, g, ?_⟩
    match fl, k with
    | none, k => exact q k
    | some (f, i), ⟨d, k1, k2⟩ => exact ⟨d, q k1, q k2⟩
  | .bl _, _, h, _ => by simpa only [Rep] using h
  | .int _, _, h, _ => by simpa only [Rep] using h
  | .str _, _, h, _ => by simpa only [Rep] using h
  | .tup ds, _, h, s => by
    simp only [Rep] at h ⊢
    simp only [D.sc] at s
    obtain ⟨a, vs, e, ⟨n, b, f⟩, r⟩ := h
    obtain ⟨t, ht⟩ := id hM
    exact ⟨a, vs, e, ⟨fun z => n (by rw [ht]; exact List.mem_append_left _ z), by rw [← hB]; exact b, f⟩, reps_cut hM hB r s⟩
  | .ktp ds, _, h, s => by
    simp only [Rep] at h ⊢
    simp only [D.sc] at s
    obtain ⟨a, vs, e, f, r⟩ := h
    obtain ⟨t, ht⟩ := id hM
    exact ⟨a, vs, e, f.imp_right fun f => f.by fun a u f n b => ⟨fun z => n (by rw [ht]; exact List.mem_append_left _ z), by rw [← hB]; exact b, f⟩, reps_cut hM hB r s⟩
  | .lst ds, _, h, s => by
    simp only [Rep] at h ⊢
    simp only [D.sc] at s
    obtain ⟨a, vs, e, ⟨n, b, f⟩, r⟩ := h
    obtain ⟨t, ht⟩ := id hM
    exact ⟨a, vs, e, ⟨fun z => n (by rw [ht]; exact List.mem_append_left _ z), by rw [← hB]; exact b, f⟩, reps_cut hM hB r s⟩
  | .frz ds, _, h, s => by
    simp only [Rep] at h ⊢
    simp only [D.sc] at s
    obtain ⟨a, vs, e, f, r⟩ := h
    exact ⟨a, vs, e, cutL hM hB f, reps_cut hM hB r s⟩
  | .loc l, _, h, s => by
    simp only [Rep] at h ⊢
    simp only [D.sc] at s
    obtain ⟨a, e, rfl⟩ := h
    obtain ⟨t, ht⟩ := hM
    refine ⟨a, ?_, rfl⟩
    rw [ht, List.getElem?_append_left (of_decide_eq_true s)] at e
    exact e
theorem reps_cut (hM : ∃ t, w'.M = w.M ++ t) (hB : w'.B = w.B) : ∀ {ds : List D} {vs : List V}, Reps K w' H' ds vs → D.scs w.M.length ds = true → Reps K w H' ds vs
  | [], _, h, _ => by simpa only [Reps] using h
  | d :: ds, _, h, s => by
    simp only [Reps] at h ⊢
    simp only [D.scs, Bool.and_eq_true] at s
    obtain ⟨v, r, e, h1, h2⟩ := h
    exact ⟨v, r, e, rep_cut hM hB h1 s.1, reps_cut hM hB h2 s.2⟩
end
theorem rkv_cut {κ : Type} (hM : ∃ t, w'.M = w.M ++ t) (hB : w'.B = w.B) : ∀ {kvs : List (κ × D)} {vs : List (κ × V)}, RKv K w' H' kvs vs → scK w.M.length kvs = true → RKv K w H' kvs vs
  | [], _, h, _ => h
  | (j, d) :: kvs, _, h, s => by
    obtain ⟨v, r, e, h1, h2⟩ := h
    unfold scK at s
    rw [List.all_cons, Bool.and_eq_true] at s
    exact ⟨v, r, e, rep_cut hM hB h1 s.1, rkv_cut hM hB h2 s.2⟩
theorem rnv_cut (hM : ∃ t, w'.M = w.M ++ t) (hB : w'.B = w.B) : ∀ {kvs : List (NK × D)} {xs : List (NK × Addr × Value)}, RNv K w' H' kvs xs → scK w.M.length kvs = true → RNv K w H' kvs xs
  | [], _, h, _ => h
  | (j, d) :: kvs, _, h, s => by
    obtain ⟨p, u, v, r, e, h1, h2, h3, h4⟩ := h
    unfold scK at s
    rw [List.all_cons, Bool.and_eq_true] at s
    exact ⟨p, u, v, r, e, rep_cut hM hB h1 (nk_sc _ _), h2, rep_cut hM hB h3 s.1, rnv_cut hM hB h4 s.2⟩
theorem ho_cut (hM : ∃ t, w'.M = w.M ++ t) (hB : w'.B = w.B) : ∀ {o : Ob} {u : HO}, HoOk K w' H' mg o u → o.sc w.M.length = true → HoOk K w H' mg o u
  | .lst ds, _, h, s => let ⟨vs, e, r⟩ := h; ⟨vs, e, reps_cut hM hB r s⟩
  | .dK ds, _, h, s => let ⟨vs, e, r⟩ := h; ⟨vs, e, rkv_cut hM hB r s⟩
  | .dT ds, _, h, s => let ⟨vs, e, r⟩ := h; ⟨vs, e, rkv_cut hM hB r s⟩
  | .dN ds, _, h, s => let ⟨a, xs, e, r, n⟩ := h; ⟨a, xs, e, rnv_cut hM hB r s, n⟩
  | .ins C ds, _, h, s => let ⟨A, dx, vs, m, e, r⟩ := h; ⟨A, dx, vs, m, e, rkv_cut hM hB r s⟩
  | .lck o, _, h, s => let ⟨od, u', e, r⟩ := h; ⟨od, u', e, ho_cut (o := o) hM hB r s⟩
end
open Classical in
noncomputable def gcD (den : List D → Store → Res D) (ds : List D) (S : Store) : Res D := match den ds S with
  | .ok d S' => if S.length ≤ S'.length ∧ d.sc S.length = true ∧ (∀ i < S.length, S'[i]? = S[i]? ∨ ∃ o, S'[i]? = some o ∧ o.sc S.length = true) then .ok d (S'.take S.length) else .ok d S'
  | r => r
theorem spD_gc {K : PySem.W.Frag} {mg : Str → Option Value} {n : Nat} {den : List D → Store → Res D} {vs : List V} {H : Hp} {Q : VK} {E : XK} (h : spD K mg n (gcD den) vs H Q E) : spD K mg n den vs H Q E := by
  obtain ⟨w, ds, S, A, r, hl, P⟩ := h
  refine ⟨w, ds, S, A, r, hl, ?_⟩
  unfold gcD at P
  cases hd : den ds S with
  | exc c fs S' => rw [hd] at P; exact P
  | stuck => rw [hd] at P; exact P
  | ok d S' =>
    rw [hd] at P
    simp only at P
    by_cases hc : S.length ≤ S'.length ∧ d.sc S.length = true ∧ (∀ i < S.length, S'[i]? = S[i]? ∨ ∃ o, S'[i]? = some o ∧ o.sc S.length = true)
    · rw [if_pos hc] at P
      obtain ⟨hlen, hds, hob⟩ := hc
      intro w' H' v e A' rv
      have hB := e.bk
      obtain ⟨t, ht⟩ := id e.pre
      rw [← A.len] at hds hob
      refine P w H' v ⟨⟨[], by simp⟩, rfl, fun a u ha n => ?_, e.fz⟩ ⟨?_, A.nd, fun a ha hm => ?_, fun a ha => ?_, fun l a o h1 h2 => ?_⟩ (rep_cut e.pre hB rv hds)
      · exact ⟨(e.keep a u ha n).1, n⟩
      · rw [List.length_take, A.len]; omega
      · exact A.bm a ha hm
      · exact A'.bt a (by rw [hB]; exact ha)
      · have hl1 : l < w.M.length := (List.getElem?_eq_some_iff.mp h1).1
        rw [List.getElem?_take_of_lt (by rw [← A.len]; exact hl1)] at h2
        obtain ⟨u, eu, k⟩ := A'.ob l a o (e.get h1) h2
        refine ⟨u, eu, ho_cut e.pre hB k ?_⟩
        rcases hob l hl1 with z | ⟨o', z, s⟩
        · rw [h2] at z
          obtain ⟨u0, _, k0⟩ := A.ob l a o h1 z.symm
          exact ho_sc k0
        · rw [h2] at z
          cases z
          exact s
    · rw [if_neg hc] at P
      exact P
theorem fn_gc {P : Program} {w : World} {K : PySem.W.Frag} {mg : Str → Option Value} {base : Heap} {k : Nat} {f : Addr} {fd : FuncData} {ps : List Str} {n : Nat} {den : List D → Store → Res D} (F : FnOk P w K mg base CX0 k f fd ps (spD K mg n den)) : FnOk P w K mg base CX0 k f fd ps (spD K mg n (gcD den)) :=
  F.imp fun _ _ _ _ h => spD_gc h
theorem gcD_ok {den : List D → Store → Res D} {ds : List D} {S S1 g : Store} {d : D} (h : den ds S = .ok d (S1 ++ g)) (hl : S1.length = S.length) (hd : d.sc S.length = true) (ho : ∀ i < S.length, S1[i]? = S[i]? ∨ ∃ o, S1[i]? = some o ∧ o.sc S.length = true) : gcD den ds S = .ok d S1 := by
  unfold gcD
  rw [h]
  simp only
  have hc : S.length ≤ (S1 ++ g).length ∧ d.sc S.length = true ∧ (∀ i < S.length, (S1 ++ g)[i]? = S[i]? ∨ ∃ o, (S1 ++ g)[i]? = some o ∧ o.sc S.length = true) :=
    ⟨by rw [List.length_append]; omega, hd, fun i hi => by rw [List.getElem?_append_left (by omega)]; exact ho i hi⟩
  rw [if_pos hc, ← hl, List.take_left]
theorem gcD_pure {den : List D → Store → Res D} {ds : List D} {S g : Store} {d : D} (h : den ds S = .ok d (S ++ g)) (hd : d.sc S.length = true) : gcD den ds S = .ok d S := gcD_ok h rfl hd fun _ _ => .inl rfl
end L3
namespace L3
open PySem PySem.Spec L2

/-! ### built-in functions -/
def mCB (g : List D → Store → Res D) (ms : DSt → Store → Res (List D)) (σ : DSt) (S : Store) : Res D := (ms σ S).bind fun ds S1 => g ds S1
def CallD (X : Cx) (W : XW) (f : Value) (g : List D → Store → Res D) : Prop := ∃ r, CallR X f r ∧ ∀ w H S ds vs σ Q, Ab X.K w H X.mg S → Reps X.K w H ds vs → Post X.K X.mg (Rep X.K) W σ w H (g ds S) Q → r vs H Q
section
variable {X : Cx} {W : XW} {x : Str} {p pos cpos apos : Pos} {e o : Expr} {es : List Expr} {g : List D → Store → Res D} {ms : DSt → Store → Res (List D)} {bid T : String}
theorem pm_callB (hc : CallD X W (.builtin bid) g) (hg : Gl X x) (hm : X.mg x = none) (hv : bootBuiltins x = some (.builtin bid)) (ha : PMA X W (e :: es) ms) (hn : x ≠ "__name__" := by decide) (hdb : (x == ("__debug__" : Str)) = false := by decide)
    (he : starEach (e :: es) X.env = (false, eval e X.env) :: starEach es X.env := by rfl) (hpl : (backTo pos (starEach es X.env)).any (·.1) = false := by rfl) : PM X W (.Call (.Name x p) (e :: es) [] pos) (mCB g ms) := by
  obtain ⟨r, h1, h2⟩ := hc
  exact PE.imp (pe_callB h1 hg hm hv ha hn hdb he hpl) fun σ H Q ⟨w, dσ, S, A, R, P⟩ => ⟨w, dσ, S, A, R, P.bind fun ds S1 w1 H1 vs e1 A1 r1 P1 => h2 w1 H1 S1 ds vs σ Q A1 r1 P1⟩
theorem pm_callTy (hc : CallD X W (.type T) g) (hg : Gl X x) (hm : X.mg x = none) (hv : bootBuiltins x = some (.type T)) (ha : PMA X W (e :: es) ms) (hn : x ≠ "__name__" := by decide) (hdb : (x == ("__debug__" : Str)) = false := by decide)
    (he : starEach (e :: es) X.env = (false, eval e X.env) :: starEach es X.env := by rfl) (hpl : (backTo pos (starEach es X.env)).any (·.1) = false := by rfl) : PM X W (.Call (.Name x p) (e :: es) [] pos) (mCB g ms) := by
  obtain ⟨r, h1, h2⟩ := hc
  exact PE.imp (pe_callTy h1 hg hm hv ha hn hdb he hpl) fun σ H Q ⟨w, dσ, S, A, R, P⟩ => ⟨w, dσ, S, A, R, P.bind fun ds S1 w1 H1 vs e1 A1 r1 P1 => h2 w1 H1 S1 ds vs σ Q A1 r1 P1⟩
def lenD (ds : List D) (S : Store) : Res D := match ds with
  | [.str z] => if z.length ≤ sizeLine then .ok (.int z.length) S else .stuck
  | [d] => match seqOf S d with
    | some es => .ok (.int es.length) S
    | none => .stuck
  | _ => .stuck
theorem cd_len : CallD X W (.builtin "len") lenD := by
  refine ⟨_, call_len, fun w H S ds vs σ Q A r P => ?_⟩
  unfold lenD at P
  split at P
  · split at P
    · rename_i z hz
      obtain ⟨v, rfl, r1⟩ := reps1 r
      exact ⟨_, _, rfl, by rw [rep_str r1]; exact ⟨hz, rfl⟩, P.fin A (of_int _)⟩
    · exact P.elim
  · split at P
    · rename_i d hno _ es hs
      obtain ⟨v, rfl, r1⟩ := reps1 r
      unfold seqOf at hs
      split at hs
      · rename_i es' h
        cases hs
        obtain ⟨a, vs, rfl, f, r'⟩ := rdL_rep A h r1
        exact ⟨_, _, rfl, .inl ⟨vs, f, rfl⟩, by rw [← r'.length]; exact P.fin A (of_int _)⟩
      · obtain ⟨a, vs, rfl, f, r'⟩ := rdT_rep hs r1
        exact ⟨_, _, rfl, .inr ⟨vs, f, rfl⟩, by rw [← r'.length]; exact P.fin A (of_int _)⟩
    · exact P.elim
  · exact P.elim
def absD (ds : List D) (S : Store) : Res D := match ds with
  | [.int i] => .ok (.int (if i < 0 then -i else i)) S
  | _ => .stuck
def max2D (ds : List D) (S : Store) : Res D := match ds with
  | [.int i, .int j] => .ok (.int (if j > i then j else i)) S
  | _ => .stuck
def min2D (ds : List D) (S : Store) : Res D := match ds with
  | [.int i, .int j] => .ok (.int (if j < i then j else i)) S
  | _ => .stuck
theorem cd_min2 (hc : X.calm = true) : CallD X W (.builtin "min") min2D := by
  refine ⟨_, call_min2 hc, fun w H S ds vs σ Q A r P => ?_⟩
  unfold min2D at P
  split at P
  · obtain ⟨v, u, rfl, r1, r2⟩ := reps2 r
    exact ⟨_, _, by rw [rep_int r1, rep_int r2], P.fin A (of_int _)⟩
  · exact P.elim
def intD (ds : List D) (S : Store) : Res D := match ds with
  | [.int i] => .ok (.int i) S
  | [.bl k] => .ok (.int (if k = true then 1 else 0)) S
  | [.str z] => match PySem.intText? z with
    | some n => if z.length ≤ 640 then .ok (.int n) S else .stuck
    | none => .stuck
  | _ => .stuck
theorem cd_int : CallD X W (.type "int") intD := by
  refine ⟨_, call_int1.or call_int_str, fun w H S ds vs σ Q A r P => ?_⟩
  unfold intD at P
  split at P
  · obtain ⟨v, rfl, r1⟩ := reps1 r
    exact .inl (.inl ⟨_, by rw [rep_int r1], P.fin A (of_int _)⟩)
  · obtain ⟨v, rfl, r1⟩ := reps1 r
    exact .inl (.inr ⟨_, by rw [rep_bl r1], P.fin A (of_int _)⟩)
  · split at P
    · rename_i z _ n hn
      split at P
      · rename_i hz
        obtain ⟨v, rfl, r1⟩ := reps1 r
        exact .inr ⟨z, n, by rw [rep_str r1], hn, hz, P.fin A (of_int _)⟩
      · exact P.elim
    · exact P.elim
  · exact P.elim
def strD (ds : List D) (S : Store) : Res D := match ds with
  | [.int i] => if i.natAbs.log2 < 1920 then .ok (.str (toString i)) S else .stuck
  | _ => .stuck
theorem cd_str : CallD X W (.type "str") strD := by
  refine ⟨_, call_str_int, fun w H S ds vs σ Q A r P => ?_⟩
  unfold strD at P
  split at P
  · split at P
    · rename_i hz
      obtain ⟨v, rfl, r1⟩ := reps1 r
      exact ⟨_, by rw [rep_int r1], hz, P.fin A (of_str _)⟩
    · exact P.elim
  · exact P.elim
def blsOf : List D → Option (List Bool)
  | [] => some []
  | .bl i :: r => (blsOf r).map (i :: ·)
  | _ => none
theorem blsOf_rep {K : PySem.W.Frag} {w : Wd} {H : Hp} : ∀ {ds : List D} {ns : List Bool} {vs : List V}, blsOf ds = some ns → Reps K w H ds vs → vs = ns.map V.bl
  | [], ns, vs, h, r => by
    simp only [blsOf, Option.some.injEq] at h
    simp only [Reps] at r
    subst h r
    rfl
  | .bl i :: ds, ns, vs, h, r => by
    simp only [blsOf, Option.map_eq_some_iff] at h
    obtain ⟨ms, h1, rfl⟩ := h
    simp only [Reps] at r
    obtain ⟨v, us, rfl, e, r⟩ := r
    rw [rep_bl e, blsOf_rep h1 r]
    rfl
  | .non :: _, _, _, h, _ => by simp [blsOf] at h
  | .int _ :: _, _, _, h, _ => by simp [blsOf] at h
  | .str _ :: _, _, _, h, _ => by simp [blsOf] at h
  | .tup _ :: _, _, _, h, _ => by simp [blsOf] at h
  | .ktp _ :: _, _, _, h, _ => by simp [blsOf] at h
  | .lst _ :: _, _, _, h, _ => by simp [blsOf] at h
  | .frz _ :: _, _, _, h, _ => by simp [blsOf] at h
  | .loc _ :: _, _, _, h, _ => by simp [blsOf] at h
  | .exn _ :: _, _, _, h, _ => by simp [blsOf] at h
  | .exf _ _ _ _ :: _, _, _, h, _ => by simp [blsOf] at h
  | .exk _ _ :: _, _, _, h, _ => by simp [blsOf] at h
def onBls (f : List Bool → D) (ds : List D) (S : Store) : Res D := match ds with
  | [d] => match rdL S d with
    | some es => match blsOf es with
      | some bs => .ok (f bs) S
      | none => .stuck
    | none => .stuck
  | _ => .stuck
theorem cd_all (hc : X.calm = true) : CallD X W (.builtin "all") (onBls fun bs => .bl (bs.all id)) := by
  refine ⟨_, cr_all hc, fun w H S ds vs σ Q A r P => ?_⟩
  unfold onBls at P
  split at P
  · split at P
    · split at P
      · rename_i d _ es h1 _ bs h2
        obtain ⟨v, rfl, r1⟩ := reps1 r
        obtain ⟨a, us, rfl, f, r'⟩ := rdL_rep A h1 r1
        have e := blsOf_rep h2 r'
        subst e
        exact ⟨a, bs, rfl, f, P.fin A (of_bl _)⟩
      · exact P.elim
    · exact P.elim
  · exact P.elim
def sumD (ds : List D) (S : Store) : Res D := match ds with
  | [d] => match rdL S d with
    | some es => match intsOf es with
      | some ns => .ok (.int ns.sum) S
      | none => .stuck
    | none => .stuck
  | _ => .stuck
theorem cd_sum (hc : X.calm = true) : CallD X W (.builtin "sum") sumD := by
  refine ⟨_, cr_sum hc, fun w H S ds vs σ Q A r P => ?_⟩
  unfold sumD at P
  split at P
  · split at P
    · split at P
      · rename_i d _ es h1 _ bs h2
        obtain ⟨v, rfl, r1⟩ := reps1 r
        obtain ⟨a, us, rfl, f, r'⟩ := rdL_rep A h1 r1
        have e := intsOf_rep h2 r'
        subst e
        exact ⟨a, bs, rfl, f, P.fin A (of_int _)⟩
      · exact P.elim
    · exact P.elim
  · exact P.elim
/-- list(text) -/
theorem call_list_text (hc : X.calm = true) : CallR X (.type "list") (fun xs H Q => ∃ z : Str, xs = [.str z] ∧ z.length ≤ sizeLine ∧ ∀ l, H l = none → Q (.ref l) (upd H l (.lst (z.cps.toList.map fun c => V.str ⟨#[c]⟩)))) := by
  intro pins s σ H xs us Q I r h
  obtain ⟨z, rfl, hz, q⟩ := h
  obtain ⟨u, rfl, t, rfl⟩ := vals1 r
  have hz' : z.cps.size ≤ sizeLine := hz
  refine PySem.call_list_str (hn := hz') (I.ok.hd hc) z t fun h' tk acc' c' hk hS' hacc => ?_
  have hl : acc'.size = z.cps.size := hacc.1
  have rv : Vals (z.cps.toList.map fun c => V.str ⟨#[c]⟩) acc'.toList := by
    have key : ∀ (cs : List Nat) (vs : List Value), vs.length = cs.length → (∀ (i : Nat) (v : Value), vs[i]? = some v → ∃ c u, cs[i]? = some c ∧ v = .str ⟨#[c]⟩ u) → Vals (cs.map fun c => V.str ⟨#[c]⟩) vs := by
      intro cs
      induction cs with
      | nil => intro vs h _; cases vs with
        | nil => exact .nil
        | cons v vs => simp at h
      | cons c cs ih =>
        intro vs h hv
        cases vs with
        | nil => simp at h
        | cons v vs =>
          obtain ⟨c', u, e1, e2⟩ := hv 0 v (by simp)
          simp at e1
          subst e1
          exact .cons ⟨u, e2⟩ (ih vs (by simpa using h) fun i v' e => by
            obtain ⟨c'', u', e3, e4⟩ := hv (i + 1) v' (by simpa using e)
            exact ⟨c'', u', by simpa using e3, e4⟩)
    refine key _ _ (by simp [hl]) fun i v e => ?_
    have hi : i < acc'.size := by
      have := (List.getElem?_eq_some_iff.mp e).1
      simpa using this
    have hv : acc'[i]? = some v := by simpa using e
    obtain ⟨c, u', hc1, rfl⟩ := hacc.2 i v hv
    exact ⟨c, u', by simpa using hc1, rfl⟩
  exact ⟨.ref _, upd H s.heap.objs.size (.lst (z.cps.toList.map fun c => V.str ⟨#[c]⟩)), I.laid (t' := tk) hk (Nat.le_refl _) ⟨by simpa using hz', acc'.toList, c', rv, by simpa using hS'⟩, rfl, q _ (I.hok.fresh (Nat.le_refl _))⟩
end
end L3
namespace L3
open PySem PySem.Spec L2

section
variable {X : Cx} {W : XW} {x : Str} {p pos cpos apos : Pos} {e o : Expr} {es : List Expr} {ms : DSt → Store → Res (List D)} {T : String}
/-! ### list(..), tuple(..) -/
def itemsOf (S : Store) (d : D) : Option (List D) := match d with
  | .str z => if z.length ≤ sizeLine then some (signsOf z) else none
  | d => seqOf S d
theorem signs_rep {K : PySem.W.Frag} {w : Wd} {H : Hp} : ∀ cs : List Nat, Reps K w H (cs.map fun c => D.str ⟨#[c]⟩) (cs.map fun c => V.str ⟨#[c]⟩)
  | [] => .nil
  | c :: cs => .cons (of_str _) (signs_rep cs)
def listD (mu : Bool) (ds : List D) (S : Store) : Res D := match ds with
  | [d] => match itemsOf S d with
    | some es => if mu = true then .ok (.loc S.length) (S ++ [.lst es]) else .ok (.lst es) S
    | none => .stuck
  | _ => .stuck
theorem newL {K : PySem.W.Frag} {mg : Str → Option Value} {W : XW} {σ : L2.St} {w : Wd} {H : Hp} {S : Store} {Q : VK} {es : List D} {vs : List V} {mu : Bool} (A : Ab K w H mg S) (r : Reps K w H es vs)
    (P : Post K mg (Rep K) W σ w H (if mu = true then .ok (.loc S.length) (S ++ [.lst es]) else .ok (.lst es) S) Q) : ∀ l, H l = none → Q (.ref l) (upd H l (.lst vs)) := by
  intro l hl
  split at P
  · exact P _ _ _ (Ex.newM hl) (newLst A hl r) (Rep.locNew A)
  · exact P w _ _ (Ex.new hl) (A.newF hl) (Rep.lstNew A hl r)
theorem cd_list (hc : X.calm = true) (mu : Bool) : CallD X W (.type "list") (listD mu) := by
  refine ⟨_, call_list_of.or (call_list_text hc), fun w H S ds vs σ Q A r P => ?_⟩
  unfold listD at P
  split at P
  · rename_i d
    obtain ⟨v, rfl, r1⟩ := reps1 r
    split at P
    · rename_i es h1
      unfold itemsOf at h1
      split at h1
      · split at h1
        · rename_i z hz
          cases h1
          exact .inr ⟨z, by rw [rep_str r1], hz, newL A (signs_rep _) P⟩
        · cases h1
      · unfold seqOf at h1
        split at h1
        · rename_i h2
          cases h1
          obtain ⟨a, us, rfl, f, r'⟩ := rdL_rep A h2 r1
          exact .inl ⟨a, us, rfl, .inl f, newL A r' P⟩
        · obtain ⟨a, us, rfl, f, r'⟩ := rdT_rep h1 r1
          exact .inl ⟨a, us, rfl, .inr f, newL A r' P⟩
    · exact P.elim
  · exact P.elim
def tupleD (ds : List D) (S : Store) : Res D := match ds with
  | [d] => match rdL S d with
    | some es => .ok (.tup es) S
    | none => match d with
      | .tup es => .ok (.tup es) S
      | _ => .stuck
  | _ => .stuck
theorem cd_tuple : CallD X W (.type "tuple") tupleD := by
  refine ⟨_, call_tuple_of, fun w H S ds vs σ Q A r P => ?_⟩
  unfold tupleD at P
  split at P
  · rename_i d
    obtain ⟨v, rfl, r1⟩ := reps1 r
    split at P
    · rename_i es h1
      obtain ⟨a, us, rfl, f, r'⟩ := rdL_rep A h1 r1
      exact ⟨a, us, rfl, .inl ⟨f, fun l hl => P w _ _ (Ex.new hl) (A.newF hl) (Rep.tupNew A hl r')⟩⟩
    · split at P
      · obtain ⟨a, us, rfl, f, r'⟩ := tup_rep r1
        exact ⟨a, us, rfl, .inr ⟨.of f, P.fin A r1⟩⟩
      · exact P.elim
  · exact P.elim

/-! ### isinstance(x, a built-in class) -/
def tyName (S : Store) : D → Option String
  | .non => some "NoneType"
  | .bl _ => some "bool"
  | .int _ => some "int"
  | .str _ => some "str"
  | .tup _ => some "tuple"
  | .ktp _ => some "tuple"
  | .lst _ => some "list"
  | .frz _ => none
  | .loc l => match S[l]? with
    | some (.lst _) => some "list"
    | some (.dK _) => some "dict"
    | some (.dT _) => some "dict"
    | _ => none
  | .exn _ => none
  | .exf _ _ _ _ => none
  | .exk _ _ => none
def isiD (T : String) (d : D) (S : Store) : Res D := match tyName S d with
  | some n => match kitB n T with
    | some b => .ok (.bl b) S
    | none => .stuck
  | none => .stuck
theorem tyName_rep {K : PySem.W.Frag} {mg : Str → Option Value} {w : Wd} {H : Hp} {S : Store} (A : Ab K w H mg S) {d : D} {n : String} {v : V} (h : tyName S d = some n) (r : Rep K w H d v) : TyX K H v (.type n) := by
  cases d with
  | non => cases h; rw [rep_non r]; exact .base .non
  | bl b => cases h; rw [rep_bl r]; exact .base (.bl b)
  | int b => cases h; rw [rep_int r]; exact .base (.int b)
  | str b => cases h; rw [rep_str r]; exact .base (.str b)
  | tup ds =>
    cases h
    obtain ⟨a, vs, rfl, f, _⟩ := tup_rep r
    exact .base (.tup f)
  | ktp ds =>
    cases h
    simp only [Rep] at r
    obtain ⟨a, vs, rfl, f, _⟩ := r
    rcases f with ⟨o, its, n, e, hc, _⟩ | ⟨_, _, o, its, n, e, _⟩
    · exact .kTuple e hc
    · exact .fTuple e
  | exn a => cases h
  | exf _ _ _ _ => cases h
  | exk _ _ => cases h
  | lst ds =>
    cases h
    simp only [Rep] at r
    obtain ⟨a, vs, rfl, f, _⟩ := r
    exact .base (.lst f.2.2)
  | frz ds => cases h
  | loc l =>
    simp only [tyName] at h
    simp only [Rep] at r
    obtain ⟨a, el, rfl⟩ := r
    split at h
    · rename_i q
      cases h
      obtain ⟨u, eu, vs, rfl, _⟩ := A.ob l a _ el q
      exact .base (.lst eu)
    · rename_i q
      cases h
      obtain ⟨u, eu, vs, rfl, _⟩ := A.ob l a _ el q
      exact .base (.dK eu)
    · rename_i q
      cases h
      obtain ⟨u, eu, vs, rfl, _⟩ := A.ob l a _ el q
      exact .base (.dT eu)
    · cases h
theorem pm_isi {m : DSt → Store → Res D} {tn : Str} {p2 : Pos} (hg : Gl X "isinstance") (hm : X.mg "isinstance" = none) (hv : bootBuiltins "isinstance" = some (.builtin "isinstance")) (ha : PM X W e m)
    (hg2 : Gl X tn) (hm2 : X.mg tn = none) (hv2 : bootBuiltins tn = some (.type T)) (hn2 : tn ≠ "__name__" := by decide) (hdb2 : (tn == ("__debug__" : Str)) = false := by decide)
    (he : starEach [e, .Name tn p2] X.env = (false, eval e X.env) :: starEach [.Name tn p2] X.env := by rfl) (hpl : (backTo pos (starEach [.Name tn p2] X.env)).any (·.1) = false := by rfl)
    (he2 : starEach [.Name tn p2] X.env = (false, eval (.Name tn p2) X.env) :: starEach [] X.env := by rfl) : PM X W (.Call (.Name "isinstance" p) [e, .Name tn p2] [] pos) (m1 m (isiD T)) := by
  refine PE.imp (pe_callB call_isi hg hm hv (pa_cons ha (pa_cons (pe_bltn hg2 hm2 hv2 (v := .ty T) rfl hn2 hdb2) pa_nil he2) he) (by decide) (by decide) he hpl) fun σ H Q ⟨w, dσ, S, A, R, P⟩ => ?_
  refine ⟨w, dσ, S, A, R, P.bind fun d S1 w1 H1 v e1 A1 r1 P1 => ?_⟩
  unfold isiD at P1
  split at P1
  · rename_i n h1
    split at P1
    · rename_i b h2
      exact ⟨v, .ty T, .type n, .type T, b, rfl, .ty T, tyName_rep A1 h1 r1, kit_ty h2, P1.fin A1 (of_bl _)⟩
    · exact P1.elim
  · exact P1.elim

/-! ### methods of built-in types -/
def MtD (X : Cx) (W : XW) (T : String) (bid : String) (g : D → List D → Store → Res D) : Prop := ∃ r, MtR X bid r ∧ ∀ w H S d ds v vs σ Q, Ab X.K w H X.mg S → Rep X.K w H d v → Reps X.K w H ds vs → Post X.K X.mg (Rep X.K) W σ w H (g d ds S) Q → r v vs H Q
/-- the receiver is of the type -/
def tyOk (T : String) (S : Store) (d : D) : Bool := match d with
  | .str _ => T == "str"
  | .lst _ => T == "list"
  | .frz _ => T == "list"
  | .loc l => match S[l]? with
    | some (.lst _) => T == "list"
    | some (.dK _) => T == "dict"
    | some (.dT _) => T == "dict"
    | _ => false
  | _ => false
theorem tyOk_rep {K : PySem.W.Frag} {mg : Str → Option Value} {w : Wd} {H : Hp} {S : Store} (A : Ab K w H mg S) {d : D} {v : V} (h : tyOk T S d = true) (r : Rep K w H d v) : tyV K T v H := by
  cases d with
  | str b => rw [rep_str r]; exact beq_iff_eq.mp h
  | lst ds =>
    simp only [Rep] at r
    obtain ⟨a, vs, rfl, f, _⟩ := r
    exact .inl ⟨beq_iff_eq.mp h, vs, f.sq⟩
  | frz ds =>
    simp only [Rep] at r
    obtain ⟨a, vs, rfl, f, _⟩ := r
    exact .inl ⟨beq_iff_eq.mp h, vs, f.sq⟩
  | loc l =>
    simp only [tyOk] at h
    simp only [Rep] at r
    obtain ⟨a, el, rfl⟩ := r
    split at h
    · rename_i q
      obtain ⟨u, eu, vs, rfl, _⟩ := A.ob l a _ el q
      exact .inl ⟨beq_iff_eq.mp h, vs, .of eu⟩
    · rename_i q
      obtain ⟨u, eu, vs, rfl, _⟩ := A.ob l a _ el q
      exact .inr (.inr (.inl ⟨beq_iff_eq.mp h, .inl ⟨vs, eu⟩⟩))
    · rename_i q
      obtain ⟨u, eu, vs, rfl, _⟩ := A.ob l a _ el q
      exact .inr (.inr (.inl ⟨beq_iff_eq.mp h, .inr ⟨vs, eu⟩⟩))
    · cases h
  | _ => simp [tyOk] at h
def mBM (T : String) (g : D → List D → Store → Res D) (mo : DSt → Store → Res D) (ms : DSt → Store → Res (List D)) (σ : DSt) (S : Store) : Res D :=
  (mo σ S).bind fun d S1 => if tyOk T S1 d = true then (ms σ S1).bind fun ds S2 => g d ds S2 else .stuck
theorem pm_bm {mo : DSt → Store → Res D} {name : Str} {bid : String} {g : D → List D → Store → Res D} (hm : MtD X W T bid g) (pa : PlainAttrs T) (slot : Slot T name bid) (hty : typeOf (.builtin bid) = pure (.type "method_descriptor")) (ho : PM X W o mo) (ha : PMA X W (e :: es) ms)
    (hbase : attributeBase o name X.env (eval o X.env) = eval o X.env := by rfl)
    (hfew : ((backTo cpos (starEach (e :: es) X.env)).all (fun x => !x.1) && (backToKw cpos (keywordEach [] X.env)).all (fun x => x.1.isSome)
      && decide ((e :: es).length + ([] : List Keyword).length + (if ([] : List Keyword).isEmpty then 0 else 1) < 30)) = true := by rfl)
    (hline : (apos.endLine == cpos.line) = true := by rfl) (hs : starEach (e :: es) X.env = (false, eval e X.env) :: starEach es X.env := by rfl) (hplain : (backTo cpos (starEach es X.env)).any (·.1) = false := by rfl) :
    PM X W (.Call (.Attribute o name apos) (e :: es) [] cpos) (mBM T g mo ms) := by
  obtain ⟨r, h1, h2⟩ := hm
  refine PE.imp (pe_bm pa slot hty h1 ho ha hbase hfew hline hs hplain) fun σ H Q ⟨w, dσ, S, A, R, P⟩ => ⟨w, dσ, S, A, R, P.bind fun d S1 w1 H1 v e1 A1 r1 P1 => ?_⟩
  split at P1
  · rename_i ht
    exact ⟨tyOk_rep A1 ht r1, w1, dσ, S1, A1, R.mono e1, P1.bind fun ds S2 w2 H2 vs e2 A2 r2 P2 => h2 w2 H2 S2 d ds v vs σ Q A2 (r1.mono e2) r2 P2⟩
  · exact P1.elim
/-- a mutable list -/
def mutL (S : Store) : D → Option (Nat × List D)
  | .loc l => match S[l]? with
    | some (.lst ds) => some (l, ds)
    | _ => none
  | _ => none
theorem mutL_rep {K : PySem.W.Frag} {mg : Str → Option Value} {w : Wd} {H : Hp} {S : Store} (A : Ab K w H mg S) {d : D} {v : V} {l : Nat} {ds : List D} (h : mutL S d = some (l, ds)) (r : Rep K w H d v) :
    ∃ a vs, v = .ref a ∧ w.M[l]? = some a ∧ a ∈ w.M ∧ H a = some (.lst vs) ∧ Reps K w H ds vs := by
  cases d with
  | loc l' =>
    simp only [mutL] at h
    split at h
    · rename_i q
      cases h
      simp only [Rep] at r
      obtain ⟨a, el, rfl⟩ := r
      obtain ⟨u, eu, vs, rfl, r⟩ := A.ob _ a _ el q
      exact ⟨a, vs, rfl, el, List.mem_of_getElem? el, eu, r⟩
    · cases h
  | _ => simp [mutL] at h
def appendD (d : D) (ds : List D) (S : Store) : Res D := match mutL S d, ds with
  | some (l, es), [e] => if es.length < sizeLine then .ok .non (S.set l (.lst (es ++ [e]))) else .stuck
  | _, _ => .stuck
theorem md_append : MtD X W "list" "list.append" appendD := by
  refine ⟨_, mt_append, fun w H S d ds v vs σ Q A r rs P => ?_⟩
  unfold appendD at P
  split at P
  · split at P
    · rename_i l es e h1 hz
      obtain ⟨a, us, rfl, el, hm, eu, r'⟩ := mutL_rep A h1 r
      obtain ⟨u, rfl, r1⟩ := reps1 rs
      exact ⟨a, us, u, rfl, rfl, eu, by rw [← r'.length]; exact hz, P w _ _ (Ex.wr hm (nz_lst eu)) (A.wr el (nz_lst eu) ⟨_, rfl, r'.append (.cons r1 .nil)⟩) of_non⟩
    · exact P.elim
  · exact P.elim
def extendD (d : D) (ds : List D) (S : Store) : Res D := match mutL S d, ds with
  | some (l, es), [e] => match exL S e with
    | some fs => if es.length + fs.length ≤ sizeLine then .ok .non (S.set l (.lst (es ++ fs))) else .stuck
    | none => .stuck
  | _, _ => .stuck
def popD (d : D) (ds : List D) (S : Store) : Res D := match mutL S d, ds with
  | some (l, es), [] => match es[es.length - 1]? with
    | some e => .ok e (S.set l (.lst es.dropLast))
    | none => .stuck
  | some (l, es), [.int i] => if -(2 ^ 63) ≤ i ∧ i < 2 ^ 63 then (match seqIndex? i es.length with
    | some k => match es[k]? with
      | some e => .ok e (S.set l (.lst (es.eraseIdx k)))
      | none => .stuck
    | none => .stuck) else .stuck
  | _, _ => .stuck
/-! ### a text times an int; a text backwards -/
def repS (z : Str) (n : Nat) : Str := ⟨(List.replicate n z.cps.toList).flatten.toArray⟩
theorem op_mul_str : OpR X (binaryOp .Mult) (fun x y H Q => ∃ (z : Str) (i : Int), x = .str z ∧ y = .int i ∧ -(2 ^ 63) ≤ i ∧ i < 2 ^ 63 ∧ z.length * i.toNat ≤ 16777216 ∧ Q (.str (repS z i.toNat)) H) := by
  intro pins s σ H x y v u Q I rx ry h
  obtain ⟨z, i, rfl, rfl, h1, h2, h3, q⟩ := h
  obtain ⟨t, rfl⟩ := rx
  obtain ⟨t', rfl⟩ := ry
  have hlong : Builtin.Str.tooLong (z.length * i.toNat) = false := PyProof.Rows.short24 h3
  refine PySem.P.mul_str (by rw [decide_eq_false (by omega), decide_eq_false (by omega)]; rfl) (fun a b => ?_) (fun _ _ => hlong) ?_
  · have hi : 1 ≤ i := by omega
    have e : (2 ^ 63 - 1 : Int) / i ≥ z.length := by
      have : (z.length : Int) * i ≤ 16777216 := by
        have e2 : ((z.length * i.toNat : Nat) : Int) = z.length * i := by
          rw [Int.natCast_mul, Int.toNat_of_nonneg (by omega)]
        omega
      exact (Int.le_ediv_iff_mul_le (by omega)).mpr (by omega)
    omega
  · have hz0 : z.length = z.cps.size := rfl
    split
    · rename_i hlt
      have e : i.toNat = 0 := by omega
      rw [e] at q
      exact ⟨by decide, ⟨.str (repS z 0), H, I.tok _, ⟨_, rfl⟩, q⟩⟩
    · split
      · rename_i hlt hone
        have e : repS z i.toNat = z := by
          unfold repS
          rcases Bool.or_eq_true _ _ ▸ hone with a | a
          · have : i = 1 := beq_iff_eq.mp a
            subst this
            simp
          · have e0 : z.cps.size = 0 := by have := beq_iff_eq.mp a; rw [← hz0]; exact this
            have e1 : z.cps = #[] := Array.eq_empty_of_size_eq_zero e0
            have e2 : (List.replicate i.toNat z.cps.toList).flatten = [] := by
              rw [e1]
              induction i.toNat with
              | zero => rfl
              | succ n ih => rw [List.replicate_succ, List.flatten_cons, ih]; rfl
            rw [e2]
            cases z
            simp at e1
            subst e1
            rfl
        rw [e] at q
        exact ⟨.str z, H, I.tok s.toks, ⟨_, rfl⟩, q⟩
      · have key : ∀ (n : Nat) (acc : List Nat), (List.replicate n z.cps).foldl (· ++ ·) acc.toArray = (acc ++ (List.replicate n z.cps.toList).flatten).toArray := by
          intro n
          induction n with
          | zero => intro acc; simp
          | succ n ih =>
            intro acc
            rw [List.replicate_succ, List.foldl_cons, List.replicate_succ, List.flatten_cons]
            have e : acc.toArray ++ z.cps = (acc ++ z.cps.toList).toArray := by
              apply Array.toList_inj.mp
              simp
            rw [e, ih, List.append_assoc]
        have e : (⟨(List.replicate i.toNat z.cps).foldl (· ++ ·) #[]⟩ : Str) = repS z i.toNat := by
          have := key i.toNat []
          rw [List.nil_append] at this
          unfold repS
          rw [← this]
        rw [e]
        refine ⟨?_, ⟨.str (repS z i.toNat), H, I.tok _, ⟨_, rfl⟩, q⟩⟩
        have hl : (repS z i.toNat).length = z.length * i.toNat := by
          unfold repS Str.length
          simp [Nat.mul_comm]
        rw [hl]
        exact Nat.le_trans h3 (by decide)
def mulX (d e : D) (S : Store) : Res D := match d, e with
  | .str z, .int i => if -(2 ^ 63) ≤ i ∧ i < 2 ^ 63 ∧ z.length * i.toNat ≤ 16777216 then .ok (.str (repS z i.toNat)) S else .stuck
  | d, e => mulD d e S
theorem od_mulX : OpD X W (binaryOp .Mult) mulX := by
  obtain ⟨r, h1, h2⟩ := (od_mul : OpD X W (binaryOp .Mult) mulD)
  refine ⟨_, op_mul_str.or h1, fun w H S d e x y σ Q A rd re P => ?_⟩
  unfold mulX at P
  split at P
  · split at P
    · rename_i hz
      exact .inl ⟨_, _, rep_str rd, rep_int re, hz.1, hz.2.1, hz.2.2, P.fin A (of_str _)⟩
    · exact P.elim
  · exact .inr (h2 w H S _ _ x y σ Q A rd re P)
end
end L3
namespace L3
open PySem PySem.Spec L2
def revS (z : Str) : Str := ⟨z.cps.toList.reverse.toArray⟩
def revD (d : D) (S : Store) : Res D := match d with
  | .str z => if z.length ≤ sizeLine then .ok (.str (revS z)) S else .stuck
  | d => match rdL S d with
    | some ds => .ok (.lst ds.reverse) S
    | none => .stuck
section
variable {X : Cx} {W : XW} {pos : Pos} {elt tg iter : Expr} {ifs : List Expr} {scope : Scope} {own : List (Str × Nat)} {mi : DSt → Store → Res Src} {g : D → DSt → Store → Res DSt} {t : DSt → Store → Res Bool} {e : DSt → Store → Res D} {is : List Nat}
theorem pms_setLc {i : Nat} {y : Str} {py spos : Pos} (hc : X.calm = true) (hN : X.N.Nodup) (hy : X.N[i]? = some y) (hyl : X.env.scope.names.lookup y = some .local)
    (hsw : swapsWith (.ListComp elt [⟨tg, iter, ifs, 0⟩] scope pos) (some (.Name y py)) spos.line X.env = pure true) (hi : PMI X W tg iter mi) (ok : BlkOk X.N X.env.scope scope own)
    (hg : ∀ (s : Shared) (H : Hp) (C : Addr) (cl : List (Str × Addr)) (fp : List Addr), PMX (X.blk s H scope (compEnvC scope cl C X.env) fp) is tg g)
    (ht : ∀ (s : Shared) (H : Hp) (C : Addr) (cl : List (Str × Addr)) (fp : List Addr), PTs (X.blk s H scope (compEnvC scope cl C X.env) fp) ifs (tOfT X.K X.mg W0 t))
    (he : ∀ (s : Shared) (H : Hp) (C : Addr) (cl : List (Str × Addr)) (fp : List Addr), PM (X.blk s H scope (compEnvC scope cl C X.env) fp) W0 elt e) (his : ∀ i ∈ is, i ∈ own.map (·.2)) (hs : ∀ x, foldedSetIterable iter X.env x = pure x := by intro _; rfl) :
    PMS X W (.Assign [.Name y py] (.ListComp elt [⟨tg, iter, ifs, 0⟩] scope pos) spos) (mSet i (mLc mi g t e (own.map (·.2)))) :=
  PS.imp (ps_setLc hc hN hy hyl hsw hi ok hg ht he hs) fun D σ H ⟨w, dσ, S, A, R, P⟩ => by
    have P' : Post X.K X.mg (Rep X.K) W σ w H (mLc mi g t e (own.map (·.2)) dσ S) (fun x H1 => gName i x σ H1 D.nx) := P.bindE R fun d S1 w1 H1 v e1 A1 r1 P1 => P1.nx A1 ((R.mono e1).set r1 i)
    exact ⟨w, dσ, S, A, R, P'.bind fun src S1 w1 H1 J e1 A1 rj P1 => lc_imp his (fun A' hb _ hpB e' r' ex P' => fin_lst A' hb hpB e' r' ex P') A1 (R.mono e1) rj.1 rj.2 P1⟩
theorem pms_setLcM {i : Nat} {y : Str} {py spos : Pos} (hc : X.calm = true) (hN : X.N.Nodup) (hy : X.N[i]? = some y) (hyl : X.env.scope.names.lookup y = some .local)
    (hsw : swapsWith (.ListComp elt [⟨tg, iter, ifs, 0⟩] scope pos) (some (.Name y py)) spos.line X.env = pure true) (hi : PMI X W tg iter mi) (ok : BlkOk X.N X.env.scope scope own)
    (hg : ∀ (s : Shared) (H : Hp) (C : Addr) (cl : List (Str × Addr)) (fp : List Addr), PMX (X.blk s H scope (compEnvC scope cl C X.env) fp) is tg g)
    (ht : ∀ (s : Shared) (H : Hp) (C : Addr) (cl : List (Str × Addr)) (fp : List Addr), PTs (X.blk s H scope (compEnvC scope cl C X.env) fp) ifs (tOfT X.K X.mg W0 t))
    (he : ∀ (s : Shared) (H : Hp) (C : Addr) (cl : List (Str × Addr)) (fp : List Addr), PM (X.blk s H scope (compEnvC scope cl C X.env) fp) W0 elt e) (his : ∀ i ∈ is, i ∈ own.map (·.2)) (hs : ∀ x, foldedSetIterable iter X.env x = pure x := by intro _; rfl) :
    PMS X W (.Assign [.Name y py] (.ListComp elt [⟨tg, iter, ifs, 0⟩] scope pos) spos) (mSet i (mLcM mi g t e (own.map (·.2)))) :=
  PS.imp (ps_setLc hc hN hy hyl hsw hi ok hg ht he hs) fun D σ H ⟨w, dσ, S, A, R, P⟩ => by
    have P' : Post X.K X.mg (Rep X.K) W σ w H (mLcM mi g t e (own.map (·.2)) dσ S) (fun x H1 => gName i x σ H1 D.nx) := P.bindE R fun d S1 w1 H1 v e1 A1 r1 P1 => P1.nx A1 ((R.mono e1).set r1 i)
    exact ⟨w, dσ, S, A, R, P'.bind fun src S1 w1 H1 J e1 A1 rj P1 p hp => lc_imp his (fun A' hb hp hpB e' r' ex P' => fin_lstM A' hb hpB hp e' r' ex P') A1 (R.mono e1) rj.1 rj.2 P1 p hp⟩
end
theorem bb_len : bootBuiltins "len" = some (.builtin "len") := by decide +kernel
theorem bb_min : bootBuiltins "min" = some (.builtin "min") := by decide +kernel
theorem bb_all : bootBuiltins "all" = some (.builtin "all") := by decide +kernel
theorem bb_sum : bootBuiltins "sum" = some (.builtin "sum") := by decide +kernel
theorem bb_sorted : bootBuiltins "sorted" = some (.builtin "sorted") := by decide +kernel
theorem bb_isinstance : bootBuiltins "isinstance" = some (.builtin "isinstance") := by decide +kernel
theorem bb_int : bootBuiltins "int" = some (.type "int") := by decide +kernel
theorem bb_str : bootBuiltins "str" = some (.type "str") := by decide +kernel
theorem bb_bool : bootBuiltins "bool" = some (.type "bool") := by decide +kernel
theorem bb_list : bootBuiltins "list" = some (.type "list") := by decide +kernel
theorem bb_tuple : bootBuiltins "tuple" = some (.type "tuple") := by decide +kernel
theorem bb_dict : bootBuiltins "dict" = some (.type "dict") := by decide +kernel
end L3
namespace L3
open PySem PySem.Spec L2
/-! ### the law's own promise -/
/-- at a script of ints the law says True -/
def Says (den : List D → Store → Res D) : Prop := ∀ ns : List Int, ns.length ≤ 63 → ∃ S', den [.frz (ns.map D.int)] [] = .ok (.bl true) S'
def spOut (K : PySem.W.Frag) (den : List D → Store → Res D) : Sp := fun vs H Q E => ∀ mg, spD K mg 1 den vs H Q E
theorem FnOk.out {P : Program} {w : World} {K : PySem.W.Frag} {mg : Str → Option Value} {base : Heap} {k : Nat} {f : Addr} {fd : FuncData} {ps : List Str} {den : List D → Store → Res D} (F : FnOk P w K mg base CX0 k f fd ps (spD K mg 1 den)) :
    FnOk P w K mg base CX0 k f fd ps (spOut K den) := F.imp fun _ _ _ _ h => h mg
theorem reps_ints {K : PySem.W.Frag} {w : Wd} {H : Hp} : ∀ ns : List Int, Reps K w H (ns.map D.int) (ns.map V.int)
  | [] => .nil
  | n :: ns => .cons rfl (reps_ints ns)
theorem says_out {K : PySem.W.Frag} {den : List D → Store → Res D} (h : Says den) {H : Hp} {a : Addr} {ns : List Int} (hl : ns.length ≤ 63) (hS : SqL K H a (ns.map V.int)) : spOut K den [.ref a] H (fun v _ => v = .bl true) E0 := by
  intro mg
  obtain ⟨S', e⟩ := h ns hl
  refine ⟨⟨[], []⟩, [.frz (ns.map D.int)], [], ⟨rfl, List.nodup_nil, fun _ h => (List.not_mem_nil h).elim, fun _ h => (List.not_mem_nil h).elim, fun l a o h => by simp at h⟩, .cons ⟨a, _, rfl, ?_, reps_ints ns⟩ .nil, rfl, ?_⟩
  · rcases hS with h | h
    · exact .inl ⟨List.not_mem_nil, List.not_mem_nil, h⟩
    · exact .inr (.inr h)
  · rw [e]
    exact fun w' H' v _ _ r => r
end L3
namespace L3
open PySem PySem.Spec L2

/-! ### in, not in; how often a text stands in a text -/
section
variable {X : Cx} {W : XW}
/-- a tuple's data -/
theorem op_inT (hu : X.A.units + 65 < cLine) : OpR X (compareOp .In) (fun x y H Q => ∃ d ds, Dp X.K H x d ∧ Dp X.K H y (.tuple ds) ∧ SeqAt.shaped d = true ∧ SeqAt.shaped (.tuple ds) = true ∧ Q (.bl (ds.any fun z => PyData.eqv z d)) H) := fun pins s σ H x y v u Q I rx ry ⟨d, ds, hd, he, sd, se, q⟩ => by
  obtain ⟨as, r1⟩ := Dp.reads I d x v hd rx
  obtain ⟨bs, r2⟩ := Dp.reads I (.tuple ds) y u he ry
  exact SeqAt.in_tuple_reads r2 r1
    (SeqAt.canLay_of_shaped se) (SeqAt.canLay_of_shaped sd) (PyProof.Rows.room_in_shaped sd hu) ⟨.bl _, H, I, rfl, q⟩
theorem op_notInT (hu : X.A.units + 65 < cLine) : OpR X (compareOp .NotIn) (fun x y H Q => ∃ d ds, Dp X.K H x d ∧ Dp X.K H y (.tuple ds) ∧ SeqAt.shaped d = true ∧ SeqAt.shaped (.tuple ds) = true ∧ Q (.bl (!ds.any fun z => PyData.eqv z d)) H) := fun pins s σ H x y v u Q I rx ry ⟨d, ds, hd, he, sd, se, q⟩ => by
  obtain ⟨as, r1⟩ := Dp.reads I d x v hd rx
  obtain ⟨bs, r2⟩ := Dp.reads I (.tuple ds) y u he ry
  exact SeqAt.notIn_tuple_reads r2 r1
    (SeqAt.canLay_of_shaped se) (SeqAt.canLay_of_shaped sd) (PyProof.Rows.room_in_shaped sd hu) ⟨.bl _, H, I, rfl, q⟩
def inD (neg : Bool) (d e : D) (S : Store) : Res D := match d, e with
  | .str x, .str y => .ok (.bl (xor neg (!(Builtin.Str.occurrences y x 0 y.length 1).isEmpty))) S
  | d, e => match pyS S d, pyS S e with
    | some p, some (.list ds) => if SeqAt.shaped p = true ∧ SeqAt.shaped (.list ds) = true then .ok (.bl (xor neg (ds.any fun z => PyData.eqv z p))) S else .stuck
    | some p, some (.tuple ds) => if SeqAt.shaped p = true ∧ SeqAt.shaped (.tuple ds) = true then .ok (.bl (xor neg (ds.any fun z => PyData.eqv z p))) S else .stuck
    | _, _ => match dlook S e d with
      | some r => .ok (.bl (xor neg r.isSome)) S
      | none => .stuck
theorem op_inDc (hu : X.A.units + 1 < cLine) : OpR X (compareOp .In) (fun x y H Q => ∃ a o, y = .ref a ∧ DGet H a x o ∧ Q (.bl o.isSome) H) := fun pins s σ H x y v u Q I rx ry ⟨a, o, e, g, q⟩ => by
  subst e
  obtain rfl : u = Value.ref a := ry
  exact d_in hu I g rx fun s3 I3 => ⟨.bl o.isSome, H, I3, rfl, q⟩
theorem op_notInDc (hu : X.A.units + 1 < cLine) : OpR X (compareOp .NotIn) (fun x y H Q => ∃ a o, y = .ref a ∧ DGet H a x o ∧ Q (.bl (!o.isSome)) H) := fun pins s σ H x y v u Q I rx ry ⟨a, o, e, g, q⟩ => by
  subst e
  obtain rfl : u = Value.ref a := ry
  exact d_notIn hu I g rx fun s3 I3 => ⟨.bl (!o.isSome), H, I3, rfl, q⟩
theorem repO_some {K : PySem.W.Frag} {w : Wd} {H : Hp} {o : Option D} {r : Option V} (h : RepO K w H o r) (hn : o = none → r = none) : r.isSome = o.isSome := by
  cases o with
  | none => rw [hn rfl]; rfl
  | some d => cases r with
    | none => exact h.elim
    | some v => rfl
theorem od_in (hu : X.A.units + 65 < cLine) : OpD X W (compareOp .In) (inD false) := by
  refine ⟨_, op_in_str.or ((op_inD hu).or ((op_inT hu).or (op_inDc (by omega)))), fun w H S d e x y σ Q A rd re P => ?_⟩
  unfold inD at P
  split at P
  · rw [Bool.false_xor] at P
    exact .inl ⟨_, _, rep_str rd, rep_str re, P.fin A (of_bl _)⟩
  · split at P
    · rename_i p ds h1 h2
      split at P
      · rename_i hs
        rw [Bool.false_xor] at P
        exact .inr (.inl ⟨_, _, pyS_rep A h1 rd, pyS_rep A h2 re, hs.1, hs.2, P.fin A (of_bl _)⟩)
      · exact P.elim
    · rename_i p ds h1 h2
      split at P
      · rename_i hs
        rw [Bool.false_xor] at P
        exact .inr (.inr (.inl ⟨_, _, pyS_rep A h1 rd, pyS_rep A h2 re, hs.1, hs.2, P.fin A (of_bl _)⟩))
      · exact P.elim
    · split at P
      · rename_i r h
        obtain ⟨a, o, rfl, g, ro, hn⟩ := dlook_rep A h re rd
        rw [Bool.false_xor, ← repO_some ro hn] at P
        exact .inr (.inr (.inr ⟨a, o, rfl, g, P.fin A (of_bl _)⟩))
      · exact P.elim
theorem od_notin (hu : X.A.units + 65 < cLine) : OpD X W (compareOp .NotIn) (inD true) := by
  refine ⟨_, op_notin_str.or ((op_notInD hu).or ((op_notInT hu).or (op_notInDc (by omega)))), fun w H S d e x y σ Q A rd re P => ?_⟩
  unfold inD at P
  split at P
  · rw [Bool.true_xor] at P
    exact .inl ⟨_, _, rep_str rd, rep_str re, P.fin A (of_bl _)⟩
  · split at P
    · rename_i p ds h1 h2
      split at P
      · rename_i hs
        rw [Bool.true_xor] at P
        exact .inr (.inl ⟨_, _, pyS_rep A h1 rd, pyS_rep A h2 re, hs.1, hs.2, P.fin A (of_bl _)⟩)
      · exact P.elim
    · rename_i p ds h1 h2
      split at P
      · rename_i hs
        rw [Bool.true_xor] at P
        exact .inr (.inr (.inl ⟨_, _, pyS_rep A h1 rd, pyS_rep A h2 re, hs.1, hs.2, P.fin A (of_bl _)⟩))
      · exact P.elim
    · split at P
      · rename_i r h
        obtain ⟨a, o, rfl, g, ro, hn⟩ := dlook_rep A h re rd
        rw [Bool.true_xor, ← repO_some ro hn] at P
        exact .inr (.inr (.inr ⟨a, o, rfl, g, P.fin A (of_bl _)⟩))
      · exact P.elim
theorem u65 {k : Nat} {A : Around} (r : Room k A) : A.units + 65 < cLine := by have := r.un; omega
end
end L3
namespace L3
open PySem PySem.Spec L2

/-! ### texts cut up; the greatest of a list -/
section
variable {X : Cx} {W : XW}
end
end L3
namespace L3
open PySem PySem.Spec L2

/-! ### sorted(list) -/
def encD (d : D) : PyData := (toPy d).getD .none
noncomputable def dLe (a b : D) : Bool := PySem.W.dataLe false encD a b
/-- things that can be put in order -/
def Srt (es : List D) : Prop := (∃ ps, toPys es = some ps) ∧ PySem.W.AllAlike (es.map encD) ∧ PySem.W.Sortable (es.map encD) ∧ ∀ d ∈ es, (encD d).depth ≤ 60
open Classical in
noncomputable def sortedD (ds : List D) (S : Store) : Res D := match ds with
  | [d] => match rdL S d with
    | some es => if Srt es ∧ es.length ≤ sizeLine then .ok (.lst (es.mergeSort dLe)) S else .stuck
    | none => .stuck
  | _ => .stuck
section
variable {K : PySem.W.Frag} {w : Wd} {H : Hp}
theorem toPys_get : ∀ {es : List D} {ps : List PyData}, toPys es = some ps → ∀ d ∈ es, ∃ p, toPy d = some p
  | [], _, _, d, h => by simp at h
  | e :: es, ps, h, d, hd => by
    simp only [toPys] at h
    split at h
    · rename_i p qs h1 h2
      rcases List.mem_cons.mp hd with rfl | hd
      · exact ⟨p, h1⟩
      · exact toPys_get h2 d hd
    · cases h
/-- the values with what they stand for -/
theorem each_of_reps : ∀ {es : List D} {vs : List V} {us : List Value}, Reps K w H es vs → Vals vs us → PySem.W.EachIs (fun (u : Value) (b : D × V) => RelV b.2 u) us (es.zip vs)
  | [], _, _, h, r => by
    simp only [Reps] at h
    subst h
    cases r
    exact .nil
  | e :: es, _, _, h, r => by
    simp only [Reps] at h
    obtain ⟨v, r', rfl, _, h2⟩ := h
    cases r with
    | cons h3 h4 => exact .cons h3 (each_of_reps h2 h4)
theorem reps_zip : ∀ {es : List D} {vs : List V}, Reps K w H es vs → (∀ b ∈ es.zip vs, Rep K w H b.1 b.2) ∧ (es.zip vs).map (·.1) = es ∧ (es.zip vs).length = es.length
  | [], _, h => by
    simp only [Reps] at h
    subst h
    exact ⟨fun _ z => by simp at z, rfl, rfl⟩
  | e :: es, _, h => by
    simp only [Reps] at h
    obtain ⟨v, r', rfl, h1, h2⟩ := h
    obtain ⟨a1, a2, a3⟩ := reps_zip h2
    refine ⟨fun b hb => ?_, by simp [a2], by simp [a3]⟩
    rw [List.zip_cons_cons] at hb
    rcases List.mem_cons.mp hb with rfl | hb
    · exact h1
    · exact a1 b hb
theorem reps_of : ∀ {bs : List (D × V)}, (∀ b ∈ bs, Rep K w H b.1 b.2) → Reps K w H (bs.map (·.1)) (bs.map (·.2))
  | [], _ => .nil
  | b :: bs, h => .cons (h b List.mem_cons_self) (reps_of fun c hc => h c (List.mem_cons_of_mem _ hc))
theorem vals_each : ∀ {us : List Value} {bs : List (D × V)}, PySem.W.EachIs (fun (u : Value) (b : D × V) => RelV b.2 u) us bs → Vals (bs.map (·.2)) us
  | _, _, .nil => .nil
  | _, _, .cons h t => .cons h (vals_each t)
end
theorem each_reads {X : Cx} {pins : List (Addr × Obj)} {σ : L2.St} {H : Hp} {s : Shared} (I : Inv X pins σ H s) {w : Wd} : ∀ {es : List D} {vs : List V} {us : List Value}, (∀ d ∈ es, ∃ p, toPy d = some p) → Reps X.K w H es vs → Vals vs us →
    PySem.W.EachIs (fun (u : Value) (b : D × V) => ∃ as, Reads s.heap u (encD b.1) as) us (es.zip vs)
  | [], _, _, _, h, r => by
    simp only [Reps] at h
    subst h
    cases r
    exact .nil
  | e :: es, _, _, hp, h, r => by
    simp only [Reps] at h
    obtain ⟨v, r', rfl, h1, h2⟩ := h
    cases r with
    | cons h3 h4 =>
      refine .cons ?_ (each_reads I (fun d hd => hp d (List.mem_cons_of_mem _ hd)) h2 h4)
      obtain ⟨p, e1⟩ := hp e List.mem_cons_self
      have : encD e = p := by simp [encD, e1]
      rw [this]
      exact Dp.reads I p v _ (toPy_rep e1 h1) h3
def rSortedAll (K : PySem.W.Frag) : List V → Hp → VK → Prop := fun vs H Q => ∃ (a : Addr) (us : List V) (es : List D) (w : Wd), vs = [V.ref a] ∧ SqL K H a us ∧ Reps K w H es us ∧ Srt es ∧ es.length ≤ sizeLine ∧
  ∀ (xs : List V) (p : Addr), Reps K w H (es.mergeSort dLe) xs → H p = none → Q (.ref p) (upd H p (.lst xs))
theorem cr_sortedAll {X : Cx} (hu : X.A.units + 64 < cLine) : CallR X (.builtin "sorted") (rSortedAll X.K) := by
  intro pins s σ H vs us Q I r h
  obtain ⟨a, zs, es, w, rfl, hs, rp, ⟨⟨ps, hps⟩, hal, hk, hd⟩, hz, q⟩ := h
  obtain ⟨its, rv, hl, _⟩ := I.list hs
  rw [Vals.ref1 r]
  obtain ⟨b1, b2, b3⟩ := reps_zip rp
  have eq1 : (es.zip zs).map (fun b => encD b.1) = es.map encD := by
    rw [show (fun b : D × V => encD b.1) = encD ∘ Prod.fst from rfl, ← List.map_map]
    congr 1
  refine PySem.W.sorted_data (enc := fun b : D × V => encD b.1) (R := fun u b => RelV b.2 u) hl.isList (each_of_reps rp rv) (each_reads I (toPys_get hps) rp rv) (by rw [eq1]; exact hal) (by rw [eq1]; exact hk) (by rw [b3]; exact hz) (fun b hb => ?_) fun out ho eo => ?_
  · have : b.1 ∈ es := by rw [← b2]; exact List.mem_map.mpr ⟨b, hb, rfl⟩
    have := hd b.1 this
    show X.A.units + 2 + (encD b.1).depth < cLine
    omega
  · obtain ⟨ep, he'⟩ := PyProof.Rows.sortedAll_at s.heap its out.toArray
    have hm : ((es.zip zs).mergeSort (PySem.W.dataLe false fun b : D × V => encD b.1)).map (·.1) = es.mergeSort dLe := by
      rw [List.map_mergeSort (r := PySem.W.dataLe false fun b : D × V => encD b.1) (s := dLe) (fun _ _ _ _ => rfl), b2]
    have rs := reps_of (K := X.K) (w := w) (H := H) (bs := (es.zip zs).mergeSort (PySem.W.dataLe false fun b : D × V => encD b.1)) fun b hb => b1 b (List.mem_mergeSort.mp hb)
    rw [hm] at rs
    have vv := vals_each eo
    generalize ((es.zip zs).mergeSort (PySem.W.dataLe false fun b : D × V => encD b.1)).map (·.2) = xs at *
    have hlen : xs.length ≤ sizeLine := by
      have h9 := rs.length
      rw [List.length_mergeSort] at h9
      omega
    exact ⟨.ref _, upd H (s.heap.objs.size + 1) (.lst xs), I.laid (t' := s.toks) (fun _ _ => PyProof.Rows.sortedAll_old) (Nat.le_succ _)
      ⟨hlen, out, ep, vv, he'⟩, rfl, q _ _ rs (I.hok.fresh (Nat.le_succ _))⟩
theorem cd_sorted {X : Cx} {W : XW} (hu : X.A.units + 64 < cLine) : CallD X W (.builtin "sorted") sortedD := by
  refine ⟨_, cr_sortedAll hu, fun w H S ds vs σ Q A r P => ?_⟩
  unfold sortedD at P
  split at P
  · split at P
    · split at P
      · rename_i d _ es h1 hs
        obtain ⟨v, rfl, r1⟩ := reps1 r
        obtain ⟨a, us, rfl, f, r'⟩ := rdL_rep A h1 r1
        exact ⟨a, us, es, w, rfl, f, r', hs.1, hs.2, fun xs p rx hp => P w _ _ (Ex.new hp) (A.newF hp) (Rep.lstNew A hp rx)⟩
      · exact P.elim
    · exact P.elim
  · exact P.elim
end L3
namespace L3
open PySem PySem.Spec L2

/-! ### walking over a dict: it is locked meanwhile -/
def Ob.isDct : Ob → Bool
  | .dK _ => true
  | .dT _ => true
  | .dN _ => true
  | _ => false
open Classical in
/-- what the expression md tells (nothing else happens), if it is a dict of the store -/
noncomputable def dctAt (md : DSt → Store → Res D) (σ : DSt) (S : Store) : Option (Nat × Ob) := match md σ S with
  | .ok (.loc l) S1 => if S1 = S then (match S[l]? with
    | some o => if o.isDct = true then some (l, o) else none
    | none => none) else none
  | _ => none
open Classical in
noncomputable def lockE (md m : DSt → Store → Res D) (σ : DSt) (S : Store) : Res D := match dctAt md σ S with
  | some (l, o) => match m σ (S.set l (.lck o)) with
    | .ok d S' => if S'[l]? = some (.lck o) then .ok d (S'.set l o) else .stuck
    | _ => .stuck
  | none => m σ S
open Classical in
noncomputable def lockS (md : DSt → Store → Res D) (m : DSt → Store → Res Fl) (σ : DSt) (S : Store) : Res Fl := match dctAt md σ S with
  | some (l, o) => match m σ (S.set l (.lck o)) with
    | .ok (.ex _ _ _) _ => .stuck
    | .ok fl S' => if S'[l]? = some (.lck o) then .ok fl (S'.set l o) else .stuck
    | _ => .stuck
  | none => m σ S
theorem dctAt_spec {md : DSt → Store → Res D} {σ : DSt} {S : Store} {l : Nat} {o : Ob} (h : dctAt md σ S = some (l, o)) : S[l]? = some o ∧ o.isDct = true := by
  unfold dctAt at h
  split at h
  · split at h
    · split at h
      · split at h
        · rename_i h1 h2
          cases h
          exact ⟨h1, h2⟩
        · cases h
      · cases h
    · cases h
  · cases h
section
variable {K : PySem.W.Frag} {mg : Str → Option Value} {w : Wd} {H : Hp} {S : Store}
/-- writing at a mutable object's place leaves what data stand for -/
theorem Rep.wrM {a : Addr} {o : HO} (hm : a ∈ w.M) {d : D} {v : V} (h : Rep K w H d v) : Rep K w (upd H a o) d v := by
  have ne : ∀ {b : Addr}, b ∉ w.M → b ≠ a := fun n z => n (by rw [z]; exact hm)
  refine h.gen (fun b xs ⟨n, c, f⟩ => ⟨n, c, by rw [upd_ne (ne n)]; exact f⟩) (fun b xs f => ?_) (fun b xs ⟨n, c, f⟩ => ⟨n, c, by rw [upd_ne (ne n)]; exact f⟩) (fun b xs f => f.by fun a u f n c => ⟨n, c, by rw [upd_ne (ne n)]; exact f⟩) (fun b _ ⟨n, c, f⟩ => ⟨n, c, by rw [upd_ne (ne n)]; exact f⟩) fun _ _ q => q
  rcases f with ⟨n, c, f | ⟨o', f⟩⟩ | f
  · exact .inl ⟨n, c, .inl (by rw [upd_ne (ne n)]; exact f)⟩
  · exact .inl ⟨n, c, .inr ⟨o', by rw [upd_ne (ne n)]; exact f⟩⟩
  · exact .inr f
theorem Reps.wrM {a : Addr} {o : HO} (hm : a ∈ w.M) : ∀ {ds : List D} {vs : List V}, Reps K w H ds vs → Reps K w (upd H a o) ds vs
  | [], _, h => by simpa only [Reps] using h
  | d :: ds, _, h => by
    simp only [Reps] at h
    obtain ⟨v, r, rfl, h1, h2⟩ := h
    exact .cons (h1.wrM hm) (Reps.wrM hm h2)
theorem HoOk.wrM {a : Addr} {o : HO} (hm : a ∈ w.M) {ob : Ob} {u : HO} (h : HoOk K w H mg ob u) : HoOk K w (upd H a o) mg ob u := h.gen (fun _ _ r => r.wrM hm) fun _ _ r => r.wrM hm
theorem Ab.put (A : Ab K w H mg S) {l : Nat} {a : Addr} {o : HO} {ob : Ob} (hm : w.M[l]? = some a) (k : HoOk K w H mg ob o) : Ab K w (upd H a o) mg (S.set l ob) := by
  have hmem : a ∈ w.M := List.mem_of_getElem? hm
  refine ⟨by simp [A.len], A.nd, A.bm, fun b hb => ?_, fun l' a' ob' h1 h2 => ?_⟩
  · obtain ⟨u, e⟩ := A.bt b hb
    exact ⟨u, by rw [upd_ne (fun z : b = a => A.bm b hb (by rw [z]; exact hmem))]; exact e⟩
  by_cases hl : l' = l
  · subst hl
    rw [hm] at h1; cases h1
    have : l' < S.length := by rw [← A.len]; exact (List.getElem?_eq_some_iff.mp hm).1
    rw [List.getElem?_set_self this] at h2
    cases h2
    exact ⟨o, upd_same, k.wrM hmem⟩
  · rw [List.getElem?_set_ne (Ne.symm hl)] at h2
    obtain ⟨u, e, k'⟩ := A.ob l' a' ob' h1 h2
    have hne : a' ≠ a := fun z => by
      subst z
      obtain ⟨q1, q2⟩ := List.getElem?_eq_some_iff.mp h1
      obtain ⟨q3, q4⟩ := List.getElem?_eq_some_iff.mp hm
      exact hl ((List.getElem_inj A.nd).mp (q2.trans q4.symm))
    exact ⟨u, by rw [upd_ne hne]; exact e, k'.wrM hmem⟩
/-- a dict of the store, locked -/
theorem lock_in {l : Nat} {o : Ob} (A : Ab K w H mg S) (h : S[l]? = some o) (hd : o.isDct = true) : ∃ a u, w.M[l]? = some a ∧ H a = some u ∧ Mut (some u) ∧ (∀ od x, u ≠ .frz od x) ∧ HoOk K w H mg o u ∧
    ∀ od, Ab K w (upd H a (.frz od u)) mg (S.set l (.lck o)) ∧ Ex w H w (upd H a (.frz od u)) := by
  obtain ⟨a, u, el, eu, k⟩ := A.obs h
  have hmem : a ∈ w.M := List.mem_of_getElem? el
  have hu : Mut (some u) ∧ ∀ od x, u ≠ .frz od x := by
    cases o with
    | dK kvs => obtain ⟨vs, rfl, _⟩ := id k; exact ⟨trivial, fun _ _ => by simp⟩
    | dT kvs => obtain ⟨vs, rfl, _⟩ := id k; exact ⟨trivial, fun _ _ => by simp⟩
    | dN kvs => obtain ⟨a, xs, rfl, _⟩ := id k; exact ⟨trivial, fun _ _ => by simp [NdO]⟩
    | _ => simp [Ob.isDct] at hd
  exact ⟨a, u, el, eu, hu.1, hu.2, k, fun od => ⟨A.put el ⟨od, u, rfl, k⟩, Ex.wr hmem fun od x z => hu.2 od x (by rw [eu] at z; exact Option.some.inj z)⟩⟩
/-- the lock undone -/
theorem lock_out {l : Nat} {o : Ob} {a : Addr} {u : HO} {od : Obj} {w' : Wd} {H' : Hp} {S' : Store} (el : w.M[l]? = some a) (eu : H a = some u) (hz : ∀ od x, u ≠ .frz od x) (k : HoOk K w H mg o u)
    (e : Ex w (upd H a (.frz od u)) w' H') (A' : Ab K w' H' mg S') : H' a = some (.frz od u) ∧ Ex w H w' (upd H' a u) ∧ Ab K w' (upd H' a u) mg (S'.set l o) ∧ (∀ {d v}, Rep K w' H' d v → Rep K w' (upd H' a u) d v) := by
  have hmem : a ∈ w.M := List.mem_of_getElem? el
  have hmem' : a ∈ w'.M := List.mem_of_getElem? (e.get el)
  have ex : Ex w H w' (upd H' a u) := by
    refine ⟨e.pre, e.bk, fun b x hb n => ?_, fun b od' x hb => ?_⟩
    · have hne : b ≠ a := fun z => n (by rw [z]; exact hmem)
      obtain ⟨h1, h2⟩ := e.keep b x (by rw [upd_ne hne]; exact hb) n
      exact ⟨by rw [upd_ne hne]; exact h1, h2⟩
    · have hne : b ≠ a := fun z => by
        rw [z, eu] at hb
        exact hz _ _ (Option.some.inj hb)
      rw [upd_ne hne]
      exact e.fz b od' x (by rw [upd_ne hne]; exact hb)
  have kk : HoOk K w' H' mg o u := (k.wrM (o := .frz od u) hmem).mono e
  exact ⟨e.fz a od u upd_same, ex, A'.put (e.get el) kk, fun r => r.wrM hmem'⟩
end
section
variable {X : Cx} {W : XW}
theorem PE.or {e : Expr} {t1 t2 : TE} (h1 : PE X e t1) (h2 : PE X e t2) : PE X e (fun σ H Q => t1 σ H Q ∨ t2 σ H Q) := ⟨fun pins s σ H Q I h => h.elim (h1.run pins s σ H Q I) (h2.run pins s σ H Q I)⟩
theorem PS.or {e : Stmt} {t1 t2 : TS} (h1 : PS X e t1) (h2 : PS X e t2) : PS X e (fun D σ H => t1 D σ H ∨ t2 D σ H) := ⟨fun pins s σ H Q I h => h.elim (h1.run pins s σ H Q I) (h2.run pins s σ H Q I)⟩
theorem pm_lock {e : Expr} {m : DSt → Store → Res D} (md : DSt → Store → Res D) (h : PM X W e m) : PM X W e (lockE md m) := by
  refine PE.imp (PE.or h (pe_lock h)) fun σ H Q ⟨w, dσ, S, A, R, P⟩ => ?_
  unfold lockE at P
  split at P
  · rename_i l o hd
    obtain ⟨hS, hi⟩ := dctAt_spec hd
    obtain ⟨a, u, el, eu, mu, hz, k, hl⟩ := lock_in A hS hi
    refine .inr ⟨a, u, eu, mu, fun od => ⟨w, dσ, S.set l (.lck o), (hl od).1, R.mono (hl od).2, ?_⟩⟩
    split at P
    · rename_i d S' hm
      split at P
      · rw [hm]
        intro w' H' v e' A' r
        obtain ⟨o1, o2, o3, o4⟩ := lock_out el eu hz k e' A'
        exact ⟨o1, P w' _ v o2 o3 (o4 r)⟩
      · exact P.elim
    · exact P.elim
  · exact .inl ⟨w, dσ, S, A, R, P⟩
end
end L3
namespace L3
open PySem PySem.Spec L2

/-! ### the keys of a locked dict -/
def keyD : Key → D
  | .inl i => .int i
  | .inr x => .str x
def keysD (k : List Key) : D := .tup (k.map keyD)
theorem keyD_rep {K : PySem.W.Frag} {w : Wd} {H : Hp} (k : Key) : Rep K w H (keyD k) (kV k) := by
  cases k with
  | inl i => exact of_int i
  | inr x => exact of_str x
theorem keysD_reps {K : PySem.W.Frag} {w : Wd} {H : Hp} : ∀ ks : List Key, Reps K w H (ks.map keyD) (ks.map kV)
  | [] => .nil
  | k :: ks => .cons (keyD_rep k) (keysD_reps ks)
def keySrc (d : D) (S : Store) : Option Src := match d with
  | .loc l => match S[l]? with
    | some (.lck (.dK kvs)) => if kvs.length ≤ sizeLine then some ⟨kvs.map fun kv => keyD kv.1, [(l, .lck (.dK kvs))]⟩ else none
    | some (.lck (.dT kvs)) => if kvs.length ≤ sizeLine then some ⟨kvs.map fun kv => keysD kv.1, [(l, .lck (.dT kvs))]⟩ else none
    | _ => none
  | _ => none
def anySrc (d : D) (S : Store) : Option Src := match seqSrc d S with
  | some s => some s
  | none => keySrc d S
def mAnyI (m : DSt → Store → Res D) (σ : DSt) (S : Store) : Res Src := (m σ S).bind fun d S1 => match anySrc d S1 with
  | some src => .ok src S1
  | none => .stuck
section
variable {K : PySem.W.Frag} {mg : Str → Option Value} {w : Wd} {H : Hp} {S : Store}
theorem rkv_get {κ : Type} : ∀ {kvs : List (κ × D)} {vs : List (κ × V)}, RKv K w H kvs vs → ∀ {i : Nat} {k : κ} {v : V}, vs[i]? = some (k, v) → ∃ d, kvs[i]? = some (k, d) ∧ Rep K w H d v
  | [], _, h, i, k, v, e => by simp only [RKv] at h; subst h; simp at e
  | (k', d) :: kvs, _, h, i, k, v, e => by
    simp only [RKv] at h
    obtain ⟨v', r, rfl, h1, h2⟩ := h
    cases i with
    | zero =>
      simp only [List.getElem?_cons_zero, Option.some.injEq, Prod.mk.injEq] at e
      obtain ⟨rfl, rfl⟩ := e
      exact ⟨d, rfl, h1⟩
    | succ i =>
      simp only [List.getElem?_cons_succ] at e ⊢
      exact rkv_get h2 e
theorem rkv_len {κ : Type} : ∀ {kvs : List (κ × D)} {vs : List (κ × V)}, RKv K w H kvs vs → kvs.length = vs.length
  | [], _, h => by simp only [RKv] at h; subst h; rfl
  | (k', d) :: kvs, _, h => by
    simp only [RKv] at h
    obtain ⟨v', r, rfl, h1, h2⟩ := h
    simp [rkv_len h2]
theorem tup_notM (A : Ab K w H mg S) {q : Addr} {xs : List V} (h : H q = some (.tup xs)) : q ∉ w.M ∧ q ∉ w.B := by
  refine ⟨fun z => ?_, fun z => ?_⟩
  · obtain ⟨l, h1, e⟩ := List.getElem_of_mem z
    have h2 : l < S.length := by rw [← A.len]; exact h1
    obtain ⟨u, e', k⟩ := A.ob l q S[l] (by rw [← e]; exact List.getElem?_eq_getElem h1) (List.getElem?_eq_getElem h2)
    rw [h] at e'
    cases e'
    generalize S[l] = o at k
    cases o with
    | lst ds => obtain ⟨_, z, _⟩ := k; cases z
    | dK ds => obtain ⟨_, z, _⟩ := k; cases z
    | dT ds => obtain ⟨_, z, _⟩ := k; cases z
    | dN ds => obtain ⟨_, _, z, _⟩ := k; unfold NdO at z; cases z
    | ins C fs => obtain ⟨_, _, _, _, z, _⟩ := k; cases z
    | lck o => obtain ⟨_, _, z, _⟩ := k; cases z
  · obtain ⟨xs', e⟩ := A.bt q z
    rw [h] at e
    cases e
theorem jok_keysT {a : Addr} {od : Obj} {vs : List (List Key × V)} {kvs : List (List Key × D)} {l : Nat} (hf : H a = some (.frz od (.dT vs))) (hk : kvs.length = vs.length) (hkk : ∀ (i : Nat) (k : List Key) (v : V), vs[i]? = some (k, v) → ∃ d, kvs[i]? = some (k, d)) :
    JOk K mg w H (Itkt a od vs) ⟨kvs.map fun kv => keysD kv.1, [(l, .lck (.dT kvs))]⟩ := by
  intro w' H' S' i e A g
  have hf' := e.fz a od _ hf
  refine ⟨fun d hd => ?_, fun hl => ⟨hf', by rw [← hk]; simpa using hl⟩⟩
  have hi : i < kvs.length := by
    have := (List.getElem?_eq_some_iff.mp hd).1
    simpa using this
  refine ⟨⟨hf', by rw [← hk]; exact hi⟩, fun x H2 y => ?_⟩
  obtain ⟨e2, k, v, q, hv, rfl, hq⟩ := y
  subst e2
  obtain ⟨d', hd'⟩ := hkk i k v hv
  rw [List.getElem?_map, hd'] at hd
  simp only [Option.map_some, Option.some.injEq] at hd
  subst hd
  obtain ⟨n1, n2⟩ := tup_notM A hq
  exact ⟨w', Ex.refl _ _, A, q, _, rfl, ⟨n1, n2, hq⟩, keysD_reps k⟩
theorem jok_keysK {a : Addr} {od : Obj} {vs : List (Key × V)} {kvs : List (Key × D)} {l : Nat} (hf : H a = some (.frz od (.dK vs))) (hk : kvs.length = vs.length) (hkk : ∀ (i : Nat) (k : Key) (v : V), vs[i]? = some (k, v) → ∃ d, kvs[i]? = some (k, d)) :
    JOk K mg w H (Itk a od vs) ⟨kvs.map fun kv => keyD kv.1, [(l, .lck (.dK kvs))]⟩ := by
  intro w' H' S' i e A g
  have hf' := e.fz a od _ hf
  refine ⟨fun d hd => ?_, fun hl => ⟨hf', by rw [← hk]; simpa using hl⟩⟩
  have hi : i < kvs.length := by
    have := (List.getElem?_eq_some_iff.mp hd).1
    simpa using this
  refine ⟨⟨hf', by rw [← hk]; exact hi⟩, fun x H2 y => ?_⟩
  obtain ⟨e2, k, v, hv, rfl⟩ := y
  subst e2
  obtain ⟨d', hd'⟩ := hkk i k v hv
  rw [List.getElem?_map, hd'] at hd
  simp only [Option.map_some, Option.some.injEq] at hd
  subst hd
  exact ⟨w', Ex.refl _ _, A, keyD_rep k⟩
end
theorem PI.or {X : Cx} {tg e : Expr} {t1 t2 : TI} (h1 : PI X tg e t1) (h2 : PI X tg e t2) : PI X tg e (fun σ H R => t1 σ H R ∨ t2 σ H R) := ⟨fun pins s σ H R I h => h.elim (h1.run pins s σ H R I) (h2.run pins s σ H R I)⟩
theorem pmi_keys {X : Cx} {W : XW} {tg l : Expr} {m : DSt → Store → Res D} (h : PM X W l m) : PMI X W tg l (fun σ S => (m σ S).bind fun d S1 => match keySrc d S1 with
  | some src => .ok src S1
  | none => .stuck) := by
  refine PI.imp (pi_keys h) fun σ H R ⟨w, dσ, S, A, Rs, P⟩ => ⟨w, dσ, S, A, Rs, P.bind fun d S1 w1 H1 v e1 A1 r1 P1 => ?_⟩
  split at P1
  · rename_i src hs
    unfold keySrc at hs
    split at hs
    · rename_i l
      simp only [Rep] at r1
      obtain ⟨a, el, rfl⟩ := r1
      split at hs
      · rename_i kvs q
        split at hs
        · rename_i hz
          cases hs
          obtain ⟨u, eu, od, u', rfl, vs, rfl, rk⟩ := A1.ob l a _ el q
          refine ⟨a, od, rfl, .inl ⟨vs, eu, P1.fin A1 ⟨jok_keysK eu (rkv_len rk) fun i k v hv => ?_, by simpa using hz⟩⟩⟩
          obtain ⟨d, hd, _⟩ := rkv_get rk hv
          exact ⟨d, hd⟩
        · cases hs
      · rename_i kvs q
        split at hs
        · rename_i hz
          cases hs
          obtain ⟨u, eu, od, u', rfl, vs, rfl, rk⟩ := A1.ob l a _ el q
          refine ⟨a, od, rfl, .inr ⟨vs, eu, P1.fin A1 ⟨jok_keysT eu (rkv_len rk) fun i k v hv => ?_, by simpa using hz⟩⟩⟩
          obtain ⟨d, hd, _⟩ := rkv_get rk hv
          exact ⟨d, hd⟩
        · cases hs
      · cases hs
    · cases hs
  · exact P1.elim
theorem pmi_anyI {X : Cx} {W : XW} {tg l : Expr} {m : DSt → Store → Res D} (h : PM X W l m) : PMI X W tg l (mAnyI m) := by
  refine PI.imp (PI.or (pmi_seq h) (pmi_keys h)) fun σ H R ⟨w, dσ, S, A, Rs, P⟩ => ?_
  unfold mAnyI at P
  cases hm : m dσ S with
  | ok d S1 =>
    rw [hm] at P
    simp only [Res.bind_ok] at P
    cases hs : seqSrc d S1 with
    | some src => exact .inl ⟨w, dσ, S, A, Rs, by unfold mSeqI; rw [hm]; simp only [Res.bind_ok, hs]; simp only [anySrc, hs] at P; exact P⟩
    | none => exact .inr ⟨w, dσ, S, A, Rs, by dsimp only; rw [hm]; simp only [Res.bind_ok]; simp only [anySrc, hs] at P; exact P⟩
  | exc c fs S1 =>
    rw [hm] at P
    exact .inl ⟨w, dσ, S, A, Rs, by unfold mSeqI; rw [hm]; exact P⟩
  | stuck =>
    rw [hm] at P
    exact P.elim
end L3
namespace L3
open PySem PySem.Spec L2

/-! ### dict(pairs) with tuple keys -/
structure Ent where
  p : Addr
  k : List Key
  b : Addr
  v : V
def EntOk (H : Hp) (e : Ent) : Prop := H e.p = some (.tup [.ref e.b, e.v]) ∧ H e.b = some (.tup (e.k.map kV))
def mergeT (acc : List (List Key × V)) (es : List Ent) : List (List Key × V) := es.foldl (fun a e => L2.putK a e.k e.v) acc
section
variable {X : Cx} {pins : List (Addr × Obj)} {σ : L2.St} {H : Hp} {s : Shared}
theorem ents_vals (I : Inv X pins σ H s) : ∀ {es : List Ent}, (∀ e ∈ es, EntOk H e) → ∃ us : List Value, us.length = es.length ∧ ∀ (j : Nat) (e : Ent), es[j]? = some e → ∃ u, us[j]? = some u ∧ RelV e.v u ∧ PairAt s.heap e.p (.ref e.b) u
  | [], _ => ⟨[], rfl, fun j e h => by simp at h⟩
  | e :: es, h => by
    obtain ⟨us, h1, h2⟩ := ents_vals I fun e' he => h e' (List.mem_cons_of_mem _ he)
    obtain ⟨q1, q2⟩ := h e List.mem_cons_self
    obtain ⟨_, its, rv, o, g1, g2, n, g3⟩ := (show ObjOk X.prog X.w H s.heap e.p (.tup [.ref e.b, e.v]) from I.hok e.p _ q1)
    cases rv with
    | cons r1 rv => cases rv with
      | cons r2 rv =>
        cases rv
        rename_i u1 u2
        obtain rfl : u1 = Value.ref e.b := r1
        refine ⟨u2 :: us, by simp [h1], fun j e' hj => ?_⟩
        cases j with
        | zero =>
          simp only [List.getElem?_cons_zero, Option.some.injEq] at hj
          subst hj
          exact ⟨u2, rfl, r2, .inl ⟨o, g1, g2, n, g3⟩⟩
        | succ j => simpa using h2 j e' (by simpa using hj)
theorem kt_merge {H' : Hp} : ∀ (es : List Ent) (us : List Value) (acc : List (List Key × V)) (xs : List (List Key × Addr × Value)), us.length = es.length → (∀ e ∈ es, H' e.b = some (.tup (e.k.map kV))) →
    (∀ (j : Nat) (e : Ent) (u : Value), es[j]? = some e → us[j]? = some u → RelV e.v u) → KT H' acc xs →
    KT H' (mergeT acc es) (storedAllH xs ((es.zip us).map fun q => (q.1.k, q.1.b, q.2)))
  | [], _, acc, xs, _, _, _, k => by simpa [mergeT, storedAllH] using k
  | e :: es, [], acc, xs, h, _, _, _ => by simp at h
  | e :: es, u :: us, acc, xs, h, hb, hr, k => by
    have k2 := k.put e.k (hb e List.mem_cons_self) (hr 0 e u rfl rfl)
    exact kt_merge es us _ _ (by simpa using h) (fun e' he => hb e' (List.mem_cons_of_mem _ he)) (fun j e' u' h1 h2 => hr (j + 1) e' u' (by simpa using h1) (by simpa using h2)) k2
end
theorem call_dictT {X : Cx} (hcalm : X.calm = true) (hu : X.A.units + 8 < cLine) : CallR X (.type "dict") (fun xs H Q => ∃ (a : Addr) (es : List Ent), xs = [.ref a] ∧ SqL X.K H a (es.map fun e => V.ref e.p) ∧ (∀ e ∈ es, EntOk H e) ∧
    ∀ p, H p = none → Q (.ref p) (upd H p (.dT (mergeT [] es)))) := by
  intro pins s σ H xs us Q I r ⟨a, es, ex, hq, hp, q⟩
  subst ex
  obtain ⟨u, eu, rx⟩ := vals1 r
  subst eu
  cases rx
  obtain ⟨its, rv, pl, hz⟩ := I.list hq
  rw [List.length_map] at hz
  obtain ⟨vs, hl, hv⟩ := ents_vals I hp
  have rv' : Vals ((es.map Ent.p).map V.ref) its := by rw [List.map_map]; exact rv
  have ei := refs_at rv'
  subst ei
  obtain ⟨o, n, ho, hc, hd, hdat⟩ := pl
  have hzl : (es.zip vs).length = es.length := by rw [List.length_zip, hl, Nat.min_self]
  have hget : ∀ (j : Nat) (q : Ent × Value), (es.zip vs)[j]? = some q → es[j]? = some q.1 ∧ vs[j]? = some q.2 := fun j q h => by
    rw [List.getElem?_zip_eq_some] at h
    exact h
  refine call_dict_pairsH (knd := tupleKind (mixKind X.prog X.w)) (ps := (es.zip vs).map fun q => (q.1.k, q.1.b, q.2))
    (PairArg.list a (((es.map Ent.p).map Value.ref).toArray) (fun j => (es[j]?.map Ent.p).getD 0) ((es.zip vs).map fun q => (Value.ref q.1.b, q.2))) (I.ok.hd hcalm) (by show X.A.in1.in1.units < cLine; simp only [Around.in1]; omega)
    ⟨⟨o, n, ho, hc, hd, hdat⟩, by simp [hzl], fun j k v hj => ?_⟩ ⟨by simp, fun i key v hr => ?_⟩ (fun h' hk x hx => ?_) (by simp [hzl]; exact hz) fun h' tk hd' hk => ?_
  · rw [List.getElem?_map, Option.map_eq_some_iff] at hj
    obtain ⟨q', h1, h2⟩ := hj
    cases h2
    obtain ⟨g1, g2⟩ := hget j q' h1
    obtain ⟨u, e1, e2, e3⟩ := hv j q'.1 g1
    rw [g2] at e1
    cases e1
    simp only [g1, Option.map_some, Option.getD_some]
    exact ⟨by simp [g1], e3⟩
  · have hr' : ((es.zip vs).map fun q => (Value.ref q.1.b, q.2))[i]? = some (key, v) := hr
    rw [List.getElem?_map, Option.map_eq_some_iff] at hr'
    obtain ⟨q', h1, h2⟩ := hr'
    cases h2
    exact ⟨q'.1.k, q'.1.b, by rw [List.getElem?_map, h1]; rfl, rfl⟩
  · obtain ⟨q', h1, rfl⟩ := List.mem_map.mp hx
    obtain ⟨j, hj⟩ := List.getElem?_of_mem h1
    obtain ⟨g1, g2⟩ := hget j q' hj
    obtain ⟨_, e2⟩ := hp q'.1 (List.mem_of_getElem? g1)
    obtain ⟨o', items, m, a1, a2, a3, a4⟩ := key_of I.hok e2
    exact ⟨o', items, m, hk _ _ (Nat.ne_of_lt (Heap.lt_size a1)) List.not_mem_nil a1, a2, a3, a4⟩
  · have hm : (s.heap.objs.size == sysModules) = false := beq_eq_false_iff_ne.mpr (Nat.ne_of_gt I.big)
    have hf : H s.heap.objs.size = none := I.hok.fresh (Nat.le_refl _)
    have kt := kt_merge (H' := H) es vs [] [] hl (fun e he => (hp e he).2) (fun j e u h1 h2 => by
      obtain ⟨u', e1, e2, _⟩ := hv j e h1
      rw [h2] at e1
      cases e1
      exact e2) .nil
    have hlen : (mergeT [] es).length ≤ sizeLine := by
      rw [Paired.length kt]
      refine Nat.le_trans (storedAllH_length _ []) ?_
      rw [List.length_map, hzl, List.length_nil, Nat.zero_add]
      exact hz
    obtain ⟨od, e5, ep, b1, b2, b3, b4, b5, b6⟩ := hd'
    exact ⟨.ref s.heap.objs.size, upd H s.heap.objs.size (.dT (mergeT [] es)), I.laid (t' := tk) (fun b o e => hk b o List.not_mem_nil e) (Nat.le_refl _)
      (show ObjOk X.prog X.w _ _ _ (.dT (mergeT [] es)) from ⟨hlen, hm, _, kt.keeps fun b ys e => by rw [upd_ne (fun z => by rw [z, hf] at e; cases e)]; exact e, od, e5, ep, b1, b2, b3, b4, b6⟩), rfl, q _ hf⟩
end L3
namespace L3
open PySem PySem.Spec L2

/-! ### dict(a list of pairs), get -/
def pairsT : List D → Option (List (List Key × D))
  | [] => some []
  | .tup [.tup ks, v] :: r => match keysOf ks, pairsT r with
    | some k, some ps => some ((k, v) :: ps)
    | _, _ => none
  | _ => none
def pairsK : List D → Option (List (Key × D))
  | [] => some []
  | .tup [k, v] :: r => match keyOf k, pairsK r with
    | some k, some ps => some ((k, v) :: ps)
    | _, _ => none
  | _ => none
def mergeD {κ : Type} [DecidableEq κ] (acc ps : List (κ × D)) : List (κ × D) := ps.foldl (fun a p => putD a p.1 p.2) acc
/-- kT: the keys are tuples -/
def dictD (kT : Bool) (ds : List D) (S : Store) : Res D := match ds with
  | [d] => match rdL S d with
    | some es => if kT = true then (match pairsT es with
        | some ps => .ok (.loc S.length) (S ++ [.dT (mergeD [] ps)])
        | none => .stuck)
      else (match pairsK es with
        | some ps => .ok (.loc S.length) (S ++ [.dK (mergeD [] ps)])
        | none => .stuck)
    | none => .stuck
  | _ => .stuck
section
variable {K : PySem.W.Frag} {w : Wd} {H : Hp}
/-- the entries of a list of pairs -/
theorem ents_of : ∀ {es : List D} {ps : List (List Key × D)} {vs : List V}, pairsT es = some ps → Reps K w H es vs →
    ∃ en : List Ent, vs = en.map (fun e => V.ref e.p) ∧ (∀ e ∈ en, EntOk H e) ∧ en.map (·.k) = ps.map (·.1) ∧ Reps K w H (ps.map (·.2)) (en.map (·.v))
  | [], ps, vs, h, r => by
    simp only [pairsT, Option.some.injEq] at h
    simp only [Reps] at r
    subst h r
    exact ⟨[], rfl, fun _ z => by simp at z, rfl, .nil⟩
  | d :: es, ps, vs, h, r => by
    unfold pairsT at h
    split at h
    · rename_i z
      cases z
    · rename_i ks v rest z
      cases z
      split at h
      · rename_i k ps' h1 h2
        cases h
        simp only [Reps] at r
        obtain ⟨x, r', rfl, r1, r2⟩ := r
        obtain ⟨en, e1, e2, e3, e4⟩ := ents_of h2 r2
        simp only [Rep] at r1
        obtain ⟨a, ys, rfl, f, q⟩ := r1
        simp only [Reps] at q
        obtain ⟨y, q', rfl, q1, z, q'', rfl, q2, rfl⟩ := q
        simp only [Rep] at q1
        obtain ⟨b, zs, rfl, g, q3⟩ := q1
        have e5 := keysOf_rep h1 q3
        subst e5
        refine ⟨⟨a, k, b, z⟩ :: en, by rw [e1]; rfl, fun e he => ?_, by simp [e3], .cons q2 e4⟩
        rcases List.mem_cons.mp he with rfl | he
        · exact ⟨f.2.2, g.2.2⟩
        · exact e2 e he
      · cases h
    · cases h
theorem mergeT_rep : ∀ {en : List Ent} {ps : List (List Key × D)} {acc : List (List Key × D)} {av : List (List Key × V)}, en.map (·.k) = ps.map (·.1) → Reps K w H (ps.map (·.2)) (en.map (·.v)) → RKv K w H acc av → RKv K w H (mergeD acc ps) (mergeT av en)
  | [], [], acc, av, _, _, h => h
  | [], p :: ps, acc, av, h, _, _ => by simp at h
  | e :: en, [], acc, av, h, _, _ => by simp at h
  | e :: en, p :: ps, acc, av, h, r, k => by
    simp only [List.map_cons, List.cons.injEq] at h
    simp only [List.map_cons, Reps] at r
    obtain ⟨v, r', h1, r1, r2⟩ := r
    cases h1
    have := RKv.put e.k r1 k
    refine mergeT_rep (acc := putD acc p.1 p.2) (av := L2.putK av e.k e.v) h.2 r2 ?_
    rw [← h.1]
    exact this
theorem pairsK_rep : ∀ {es : List D} {ps : List (Key × D)} {vs : List V}, pairsK es = some ps → Reps K w H es vs →
    ∃ (as : List Addr) (kvs : List (Key × V)), vs = as.map V.ref ∧ Paired (fun p (kv : Key × V) => SqT K H p [kV kv.1, kv.2]) as kvs ∧ RKv K w H ps kvs
  | [], ps, vs, h, r => by
    simp only [pairsK, Option.some.injEq] at h
    simp only [Reps] at r
    subst h r
    exact ⟨[], [], rfl, .nil, rfl⟩
  | d :: es, ps, vs, h, r => by
    unfold pairsK at h
    split at h
    · rename_i z
      cases z
    · rename_i k v rest z
      cases z
      split at h
      · rename_i k' ps' h1 h2
        cases h
        simp only [Reps] at r
        obtain ⟨x, r', rfl, r1, r2⟩ := r
        obtain ⟨as, kvs, e1, e2, e3⟩ := pairsK_rep h2 r2
        simp only [Rep] at r1
        obtain ⟨a, ys, rfl, f, q⟩ := r1
        simp only [Reps] at q
        obtain ⟨y, q', rfl, q1, z, q'', rfl, q2, rfl⟩ := q
        have e5 := keyOf_rep h1 q1
        refine ⟨a :: as, (k', z) :: kvs, by rw [e1]; rfl, .cons ?_ e2, ⟨z, kvs, rfl, q2, e3⟩⟩
        rw [← e5]
        exact .of f.2.2
      · cases h
    · cases h
theorem mergeK_rep : ∀ {kvs : List (Key × V)} {ps : List (Key × D)} {acc : List (Key × D)} {av : List (Key × V)}, RKv K w H ps kvs → RKv K w H acc av → RKv K w H (mergeD acc ps) (L2.mergeK av kvs)
  | _, [], acc, av, h, k => by
    simp only [RKv] at h
    subst h
    exact k
  | _, (k', d) :: ps, acc, av, h, k => by
    simp only [RKv] at h
    obtain ⟨v, r, rfl, r1, r2⟩ := h
    exact mergeK_rep (acc := putD acc k' d) (av := L2.putK av k' v) r2 (RKv.put k' r1 k)
end
theorem RKv.mono {κ : Type} {K : PySem.W.Frag} {w w' : Wd} {H H' : Hp} (e : Ex w H w' H') : ∀ {kvs : List (κ × D)} {vs : List (κ × V)}, RKv K w H kvs vs → RKv K w' H' kvs vs
  | [], _, h => h
  | (k, d) :: kvs, _, h => by
    simp only [RKv] at h ⊢
    obtain ⟨v, r, rfl, r1, r2⟩ := h
    exact ⟨v, r, rfl, r1.mono e, RKv.mono e r2⟩
theorem cd_dict {X : Cx} {W : XW} (hc : X.calm = true) (hu : X.A.units + 8 < cLine) (kT : Bool) : CallD X W (.type "dict") (dictD kT) := by
  refine ⟨_, (call_dictT hc hu).or (call_dictP hc), fun w H S ds vs σ Q A r P => ?_⟩
  unfold dictD at P
  split at P
  · split at P
    · rename_i d _ es h1
      obtain ⟨v, rfl, r1⟩ := reps1 r
      obtain ⟨a, us, rfl, f, r'⟩ := rdL_rep A h1 r1
      split at P
      · split at P
        · rename_i ps hp
          obtain ⟨en, rfl, e2, e3, e4⟩ := ents_of hp r'
          exact .inl ⟨a, en, rfl, f, e2, fun p hn => P ⟨w.M ++ [p], w.B⟩ _ _ (Ex.newM hn) (A.newM hn ⟨_, rfl, (mergeT_rep (acc := []) (av := []) e3 e4 rfl).mono (Ex.newM hn)⟩) (Rep.locNew A)⟩
        · exact P.elim
      · split at P
        · rename_i ps hp
          obtain ⟨as, kvs, rfl, e2, e3⟩ := pairsK_rep hp r'
          exact .inr ⟨a, as, kvs, rfl, f, e2, fun p hn => P ⟨w.M ++ [p], w.B⟩ _ _ (Ex.newM hn) (A.newM hn ⟨_, rfl, (mergeK_rep (acc := []) (av := []) e3 rfl).mono (Ex.newM hn)⟩) (Rep.locNew A)⟩
        · exact P.elim
    · exact P.elim
  · exact P.elim
/-- d.get(k), d.get(k, x) -/
def isDl (S : Store) : D → Bool
  | .loc l => match S[l]? with
    | some o => (obK o).isSome || (obT o).isSome
    | none => false
  | _ => false
def mGet1 (mo mk : DSt → Store → Res D) (σ : DSt) (S : Store) : Res D := (mo σ S).bind fun d S1 => if isDl S1 d = true then (mk σ S1).bind fun k S2 => match dlook S2 d k with
  | some (some v) => .ok v S2
  | some none => .ok .non S2
  | none => .stuck else .stuck
def mGet2 (mo mk mx : DSt → Store → Res D) (σ : DSt) (S : Store) : Res D := (mo σ S).bind fun d S1 => if isDl S1 d = true then (mk σ S1).bind fun k S2 => (mx σ S2).bind fun x S3 => match dlook S3 d k with
  | some (some v) => .ok v S3
  | some none => .ok x S3
  | none => .stuck else .stuck
section
variable {X : Cx} {W : XW}
theorem isDl_rep {K : PySem.W.Frag} {mg : Str → Option Value} {w : Wd} {H : Hp} {S : Store} (A : Ab K w H mg S) {d : D} {v : V} (h : isDl S d = true) (r : Rep K w H d v) : ∃ a, v = .ref a ∧ IsD H a := by
  cases d with
  | loc l =>
    simp only [isDl] at h
    split at h
    · rename_i o q
      simp only [Rep] at r
      obtain ⟨a, el, rfl⟩ := r
      obtain ⟨u, eu, k⟩ := A.ob l a o el q
      refine ⟨a, rfl, ?_⟩
      cases o with
      | dK kvs => obtain ⟨vs, rfl, _⟩ := k; exact .inl ⟨vs, .inl eu⟩
      | dT kvs => obtain ⟨vs, rfl, _⟩ := k; exact .inr ⟨vs, .inl eu⟩
      | lck o =>
        obtain ⟨od, u', rfl, k⟩ := k
        cases o with
        | dK kvs => obtain ⟨vs, rfl, _⟩ := k; exact .inl ⟨vs, .inr ⟨od, eu⟩⟩
        | dT kvs => obtain ⟨vs, rfl, _⟩ := k; exact .inr ⟨vs, .inr ⟨od, eu⟩⟩
        | _ => simp [obK, obT] at h
      | _ => simp [obK, obT] at h
    · cases h
  | _ => simp [isDl] at h
theorem pm_get1 {o e : Expr} {apos cpos : Pos} {mo mk : DSt → Store → Res D} (hu : X.A.units + 1 < cLine) (ho : PM X W o mo) (hk : PM X W e mk) (m : M1 X o "get" apos e cpos) : PM X W (.Call (.Attribute o "get" apos) [e] [] cpos) (mGet1 mo mk) :=
  PE.imp (pe_dget1 hu ho hk m) fun σ H Q ⟨w, dσ, S, A, R, P⟩ => ⟨w, dσ, S, A, R, P.bind fun d S1 w1 H1 v e1 A1 r1 P1 => by
    split at P1
    · rename_i hd
      obtain ⟨a, rfl, hD⟩ := isDl_rep A1 hd r1
      refine ⟨a, rfl, hD, w1, dσ, S1, A1, R.mono e1, P1.bind fun k S2 w2 H2 y e2 A2 r2 P2 => ?_⟩
      split at P2
      · rename_i v hl
        obtain ⟨a', r, h1, g, ro, _⟩ := dlook_rep A2 hl (r1.mono e2) r2
        cases h1
        cases r with
        | none => exact ro.elim
        | some z => exact ⟨_, g, P2.fin A2 ro⟩
      · rename_i hl
        obtain ⟨a', r, h1, g, ro, hn⟩ := dlook_rep A2 hl (r1.mono e2) r2
        cases h1
        rw [hn rfl] at g
        exact ⟨_, g, P2.fin A2 of_non⟩
      · exact P2.elim
    · exact P1.elim⟩
end
theorem u8 {k : Nat} {A : Around} (r : Room k A) : A.units + 8 < cLine := by have := r.un; omega
end L3
namespace L3
open PySem PySem.Spec L2

section
variable {X : Cx} {pins : List (Addr × Obj)} {σ : L2.St} {H : Hp} {s : Shared} {d : Addr} {o : Obj}
end
section
variable {K : PySem.W.Frag} {mg : Str → Option Value} {w : Wd} {H : Hp} {S : Store}
end
end L3
namespace L3
open PySem PySem.Spec L2
/-! ### tuples of the module -/
def KRep (K : PySem.W.Frag) (d : D) (v : V) : Prop := ∀ w H, Rep K w H d v
def KReps (K : PySem.W.Frag) (ds : List D) (vs : List V) : Prop := ∀ w H, Reps K w H ds vs
theorem KReps.nil {K : PySem.W.Frag} : KReps K [] [] := fun _ _ => .nil
theorem KReps.cons {K : PySem.W.Frag} {d : D} {v : V} {ds : List D} {vs : List V} (h : KRep K d v) (t : KReps K ds vs) : KReps K (d :: ds) (v :: vs) := fun w H => .cons (h w H) (t w H)
theorem krep_int {K : PySem.W.Frag} (i : Int) : KRep K (.int i) (.int i) := fun _ _ => of_int i
theorem krep_tup {K : PySem.W.Frag} {a : Addr} {us : List Value} {n : Nat} {sl : Array (Option Value)} {vs : List V} {ds : List D} (l : K.lookup a = some ⟨.type "tuple", none, .seq us.toArray n, sl⟩) (hv : Vals vs us) (hz : us.length ≤ 1000) (r : KReps K ds vs) : KRep K (.ktp ds) (.ref a) := fun w H =>
  ⟨a, vs, rfl, .inl ⟨_, us.toArray, n, l, rfl, rfl, rfl, by rw [List.size_toArray]; exact Nat.le_trans hz (by decide), by simpa using hv⟩, r w H⟩
theorem pm_gktp {X : Cx} {W : XW} {x : Str} {d : D} {ps : Pos} (hg : Gl X x) (h : ∃ a, X.mg x = some (.ref a) ∧ KRep X.K d (.ref a)) (hd : (x == ("__debug__" : Str)) = false := by decide) : PM X W (.Name x ps) (mC d) :=
  let ⟨a, e, k⟩ := h
  pm_glob (v := .ref a) hg e rfl k hd
end L3
namespace L3
open PySem PySem.Spec L2
/-! ### new lists that are handed back and change no more: they freeze -/
def fzD (S : Store) (n : Nat) : Nat → D → Option D
  | 0, d => if d.sc n = true then some d else none
  | k + 1, d => if d.sc n = true then some d else match d with
    | .loc l => match S[l]? with
      | some (.lst ds) => (ds.mapM (fzD S n k)).map D.lst
      | _ => none
    | .tup ds => (ds.mapM (fzD S n k)).map D.tup
    | .lst ds => (ds.mapM (fzD S n k)).map D.lst
    | _ => none
section
variable {K : PySem.W.Frag} {mg : Str → Option Value} {w w' : Wd} {H' : Hp} {S' : Store}
theorem mapM_reps {f : D → Option D} (h : ∀ d d' v, f d = some d' → Rep K w' H' d v → Rep K w H' d' v) : ∀ {ds ds' : List D} {vs : List V}, ds.mapM f = some ds' → Reps K w' H' ds vs → Reps K w H' ds' vs
  | [], ds', vs, e, r => by
    simp only [List.mapM_nil] at e
    cases e
    simpa only [Reps] using r
  | d :: ds, ds', vs, e, r => by
    rw [List.mapM_cons] at e
    simp only [Option.bind_eq_bind, Option.bind_eq_some_iff] at e
    obtain ⟨d', e1, ds2, e2, e3⟩ := e
    cases e3
    simp only [Reps] at r
    obtain ⟨v, r', rfl, r1, r2⟩ := r
    exact .cons (h _ _ _ e1 r1) (mapM_reps h e2 r2)
theorem fz_rep (hM : ∃ t, w'.M = w.M ++ t) (hB : w'.B = w.B) (A' : Ab K w' H' mg S') : ∀ (k : Nat) (d d' : D) (v : V), fzD S' w.M.length k d = some d' → Rep K w' H' d v → Rep K w H' d' v
  | 0, d, d', v, e, r => by
    unfold fzD at e
    split at e
    · rename_i hs
      cases e
      exact rep_cut hM hB r hs
    · cases e
  | k + 1, d, d', v, e, r => by
    unfold fzD at e
    split at e
    · rename_i hs
      cases e
      exact rep_cut hM hB r hs
    · rename_i hs
      cases d with
      | loc l =>
        simp only at e
        split at e
        · rename_i ds q
          simp only [Option.map_eq_some_iff] at e
          obtain ⟨ds', e1, rfl⟩ := e
          simp only [Rep] at r
          obtain ⟨a, el, rfl⟩ := r
          obtain ⟨u, eu, vs, rfl, rr⟩ := A'.ob l a _ el q
          have hl : ¬ l < w.M.length := fun z => hs (by simp only [D.sc]; exact decide_eq_true z)
          obtain ⟨t, ht⟩ := id hM
          have hnm : a ∉ w.M := fun z => by
            obtain ⟨i, hi, e2⟩ := List.getElem_of_mem z
            have e3 : w'.M[i]? = some a := by rw [ht, List.getElem?_append_left hi, List.getElem?_eq_getElem hi, e2]
            obtain ⟨q1, q2⟩ := List.getElem?_eq_some_iff.mp e3
            obtain ⟨q3, q4⟩ := List.getElem?_eq_some_iff.mp el
            have := (List.getElem_inj A'.nd).mp (q2.trans q4.symm)
            omega
          have hnb : a ∉ w.B := fun z => A'.bm a (by rw [hB]; exact z) (List.mem_of_getElem? el)
          simp only [Rep]
          exact ⟨a, vs, rfl, ⟨hnm, hnb, eu⟩, mapM_reps (fz_rep hM hB A' k) e1 rr⟩
        · cases e
      | tup ds =>
        simp only [Option.map_eq_some_iff] at e
        obtain ⟨ds', e1, rfl⟩ := e
        simp only [Rep] at r ⊢
        obtain ⟨a, vs, rfl, ⟨n, b, f⟩, rr⟩ := r
        obtain ⟨t, ht⟩ := id hM
        exact ⟨a, vs, rfl, ⟨fun z => n (by rw [ht]; exact List.mem_append_left _ z), by rw [← hB]; exact b, f⟩, mapM_reps (fz_rep hM hB A' k) e1 rr⟩
      | lst ds =>
        simp only [Option.map_eq_some_iff] at e
        obtain ⟨ds', e1, rfl⟩ := e
        simp only [Rep] at r ⊢
        obtain ⟨a, vs, rfl, ⟨n, b, f⟩, rr⟩ := r
        obtain ⟨t, ht⟩ := id hM
        exact ⟨a, vs, rfl, ⟨fun z => n (by rw [ht]; exact List.mem_append_left _ z), by rw [← hB]; exact b, f⟩, mapM_reps (fz_rep hM hB A' k) e1 rr⟩
      | _ => cases e
end
/-- what stood before stands, or is of what stood before -/
def Kept (S S' : Store) : Prop := S.length ≤ S'.length ∧ ∀ i < S.length, S'[i]? = S[i]? ∨ ∃ o, S'[i]? = some o ∧ o.sc S.length = true
theorem Ab.cut {K : PySem.W.Frag} {mg : Str → Option Value} {w w' : Wd} {H H' : Hp} {S S' : Store} (A : Ab K w H mg S) (A' : Ab K w' H' mg S') (e : Ex w H w' H') (hk : Kept S S') : Ex w H w H' ∧ Ab K w H' mg (S'.take S.length) := by
  obtain ⟨hlen, hob⟩ := hk
  have hB := e.bk
  obtain ⟨t, ht⟩ := id e.pre
  rw [← A.len] at hob
  refine ⟨⟨⟨[], by simp⟩, rfl, fun a u ha n => ⟨(e.keep a u ha n).1, n⟩, e.fz⟩, ⟨?_, A.nd, fun a ha hm => A.bm a ha hm, fun a ha => A'.bt a (by rw [hB]; exact ha), fun l a o h1 h2 => ?_⟩⟩
  · rw [List.length_take, A.len]; omega
  · have hl1 : l < w.M.length := (List.getElem?_eq_some_iff.mp h1).1
    rw [List.getElem?_take_of_lt (by rw [← A.len]; exact hl1)] at h2
    obtain ⟨u, eu, k⟩ := A'.ob l a o (e.get h1) h2
    refine ⟨u, eu, ho_cut e.pre hB k ?_⟩
    rcases hob l hl1 with z | ⟨o', z, s⟩
    · rw [h2] at z
      obtain ⟨u0, _, k0⟩ := A.ob l a o h1 z.symm
      exact ho_sc k0
    · rw [h2] at z
      cases z
      exact s
open Classical in
noncomputable def gcF (den : List D → Store → Res D) (ds : List D) (S : Store) : Res D := match den ds S with
  | .ok d S' => if Kept S S' then (match fzD S' S.length 8 d with
    | some d' => .ok d' (S'.take S.length)
    | none => .ok d S') else .ok d S'
  | r => r
theorem spD_gcF {K : PySem.W.Frag} {mg : Str → Option Value} {n : Nat} {den : List D → Store → Res D} {vs : List V} {H : Hp} {Q : VK} {E : XK} (h : spD K mg n (gcF den) vs H Q E) : spD K mg n den vs H Q E := by
  obtain ⟨w, ds, S, A, r, hl, P⟩ := h
  refine ⟨w, ds, S, A, r, hl, ?_⟩
  unfold gcF at P
  cases hd : den ds S with
  | exc c fs S' => rw [hd] at P; exact P
  | stuck => rw [hd] at P; exact P
  | ok d S' =>
    rw [hd] at P
    simp only at P
    by_cases hc : Kept S S'
    · rw [if_pos hc] at P
      cases hf : fzD S' S.length 8 d with
      | none => rw [hf] at P; exact P
      | some d' =>
        rw [hf] at P
        intro w' H' v e A' rv
        obtain ⟨x1, a1⟩ := A.cut A' e hc
        rw [← A.len] at hf
        exact P w H' v x1 a1 (fz_rep e.pre e.bk A' 8 d d' v hf rv)
    · rw [if_neg hc] at P
      exact P
theorem fn_gcF {P : Program} {w : World} {K : PySem.W.Frag} {mg : Str → Option Value} {base : Heap} {k : Nat} {f : Addr} {fd : FuncData} {ps : List Str} {n : Nat} {den : List D → Store → Res D} (F : FnOk P w K mg base CX0 k f fd ps (spD K mg n den)) : FnOk P w K mg base CX0 k f fd ps (spD K mg n (gcF den)) :=
  F.imp fun _ _ _ _ h => spD_gcF h
/-! ### one new object is handed back: it alone is kept -/
def freshL (n : Nat) : D → Option Nat
  | .loc l => if n ≤ l then some l else none
  | .tup ds => ds.findSome? fun d => match d with
    | .loc l => if n ≤ l then some l else none
    | _ => none
  | _ => none
def rm1 (n l : Nat) : D → Option D
  | .loc m => if m = l then some (.loc n) else if m < n then some (.loc m) else none
  | d => if d.sc n = true then some d else none
def rmD (n l : Nat) : D → Option D
  | .tup ds => (ds.mapM (rm1 n l)).map D.tup
  | d => rm1 n l d
section
variable {K : PySem.W.Frag} {mg : Str → Option Value} {w w' : Wd} {H' : Hp} {S' : Store}
mutual
theorem rep_sub {w1 : Wd} {t' : List Addr} (hM : ∃ t, w'.M = w.M ++ t) (hM1 : w1.M = w.M ++ t') (hs : ∀ x ∈ t', x ∈ w'.M) (hB : w'.B = w.B) (hB1 : w1.B = w.B) : ∀ {d : D} {v : V}, Rep K w' H' d v → d.sc w.M.length = true → Rep K w1 H' d v
  | .non, _, h, _ => by simpa only [Rep] using h
  | .exn _, _, h, _ => by simpa only [Rep] using h
  | .exf _ _ _ _, _, h, _ => by
    obtain ⟨t, ht⟩ := hM
    simp only [Rep] at h ⊢
    refine ⟨h.1, fun z => ?_, by rw [hB1, ← hB]; exact h.2.2.1, h.2.2.2⟩
    rw [hM1] at z
    refine h.2.1 ?_
    rcases List.mem_append.mp z with z | z
    · rw [ht]; exact List.mem_append_left _ z
    · exact hs _ z
  | .exk c fl, _, h, _ => by
    obtain ⟨t, ht⟩ := hM
    simp only [Rep] at h ⊢
    obtain ⟨a, A, e, g, k⟩ := h
    have q : ∀ {x u}, FzE w' H' x u → FzE w1 H' x u := fun h => ⟨fun z => by
      rw [hM1] at z
      refine h.1 ?_
      rcases List.mem_append.mp z with z | z
      · rw [ht]; exact List.mem_append_left _ z
      · exact hs _ z, by rw [hB1, ← hB]; exact h.2.1, h.2.2⟩
    refine ⟨a, A, e, g, ?_⟩
    match fl, k with
    | none, k => exact q k
    | some (f, i), ⟨d, k1, k2⟩ => exact ⟨d, q k1, q k2⟩
  | .bl _, _, h, _ => by simpa only [Rep] using h
  | .int _, _, h, _ => by simpa only [Rep] using h
  | .str _, _, h, _ => by simpa only [Rep] using h
  | .tup ds, _, h, s => by
    simp only [Rep] at h ⊢
    simp only [D.sc] at s
    obtain ⟨a, vs, e, ⟨n, b, f⟩, r⟩ := h
    obtain ⟨t, ht⟩ := id hM
    refine ⟨a, vs, e, ⟨fun z => n ?_, by rw [hB1, ← hB]; exact b, f⟩, reps_sub hM hM1 hs hB hB1 r s⟩
    rw [hM1] at z
    rcases List.mem_append.mp z with z | z
    · rw [ht]; exact List.mem_append_left _ z
    · exact hs _ z
  | .ktp ds, _, h, s => by
    simp only [Rep] at h ⊢
    simp only [D.sc] at s
    obtain ⟨a, vs, e, f, r⟩ := h
    obtain ⟨t, ht⟩ := id hM
    refine ⟨a, vs, e, f.imp_right fun f => f.by fun a u f n b => ⟨fun z => n ?_, by rw [hB1, ← hB]; exact b, f⟩, reps_sub hM hM1 hs hB hB1 r s⟩
    rw [hM1] at z
    rcases List.mem_append.mp z with z | z
    · rw [ht]; exact List.mem_append_left _ z
    · exact hs _ z
  | .lst ds, _, h, s => by
    simp only [Rep] at h ⊢
    simp only [D.sc] at s
    obtain ⟨a, vs, e, ⟨n, b, f⟩, r⟩ := h
    obtain ⟨t, ht⟩ := id hM
    refine ⟨a, vs, e, ⟨fun z => n ?_, by rw [hB1, ← hB]; exact b, f⟩, reps_sub hM hM1 hs hB hB1 r s⟩
    rw [hM1] at z
    rcases List.mem_append.mp z with z | z
    · rw [ht]; exact List.mem_append_left _ z
    · exact hs _ z
  | .frz ds, _, h, s => by
    simp only [Rep] at h ⊢
    simp only [D.sc] at s
    obtain ⟨a, vs, e, f, r⟩ := h
    obtain ⟨t, ht⟩ := id hM
    refine ⟨a, vs, e, ?_, reps_sub hM hM1 hs hB hB1 r s⟩
    rcases f with ⟨n, b, f⟩ | f
    · refine .inl ⟨fun z => n ?_, by rw [hB1, ← hB]; exact b, f⟩
      rw [hM1] at z
      rcases List.mem_append.mp z with z | z
      · rw [ht]; exact List.mem_append_left _ z
      · exact hs _ z
    · exact .inr f
  | .loc l, _, h, s => by
    simp only [Rep] at h ⊢
    simp only [D.sc] at s
    obtain ⟨a, e, rfl⟩ := h
    obtain ⟨t, ht⟩ := hM
    refine ⟨a, ?_, rfl⟩
    rw [ht, List.getElem?_append_left (of_decide_eq_true s)] at e
    rw [hM1, List.getElem?_append_left (of_decide_eq_true s)]
    exact e
theorem reps_sub {w1 : Wd} {t' : List Addr} (hM : ∃ t, w'.M = w.M ++ t) (hM1 : w1.M = w.M ++ t') (hs : ∀ x ∈ t', x ∈ w'.M) (hB : w'.B = w.B) (hB1 : w1.B = w.B) : ∀ {ds : List D} {vs : List V}, Reps K w' H' ds vs → D.scs w.M.length ds = true → Reps K w1 H' ds vs
  | [], _, h, _ => by simpa only [Reps] using h
  | d :: ds, _, h, s => by
    simp only [Reps] at h ⊢
    simp only [D.scs, Bool.and_eq_true] at s
    obtain ⟨v, r, e, h1, h2⟩ := h
    exact ⟨v, r, e, rep_sub hM hM1 hs hB hB1 h1 s.1, reps_sub hM hM1 hs hB hB1 h2 s.2⟩
end
theorem rkv_sub {κ : Type} {w1 : Wd} {t' : List Addr} (hM : ∃ t, w'.M = w.M ++ t) (hM1 : w1.M = w.M ++ t') (hs : ∀ x ∈ t', x ∈ w'.M) (hB : w'.B = w.B) (hB1 : w1.B = w.B) : ∀ {kvs : List (κ × D)} {vs : List (κ × V)}, RKv K w' H' kvs vs → scK w.M.length kvs = true → RKv K w1 H' kvs vs
  | [], _, h, _ => h
  | (j, d) :: kvs, _, h, s => by
    obtain ⟨v, r, e, h1, h2⟩ := h
    unfold scK at s
    rw [List.all_cons, Bool.and_eq_true] at s
    exact ⟨v, r, e, rep_sub hM hM1 hs hB hB1 h1 s.1, rkv_sub hM hM1 hs hB hB1 h2 s.2⟩
theorem rnv_sub {w1 : Wd} {t' : List Addr} (hM : ∃ t, w'.M = w.M ++ t) (hM1 : w1.M = w.M ++ t') (hs : ∀ x ∈ t', x ∈ w'.M) (hB : w'.B = w.B) (hB1 : w1.B = w.B) : ∀ {kvs : List (NK × D)} {xs : List (NK × Addr × Value)}, RNv K w' H' kvs xs → scK w.M.length kvs = true → RNv K w1 H' kvs xs
  | [], _, h, _ => h
  | (j, d) :: kvs, _, h, s => by
    obtain ⟨p, u, v, r, e, h1, h2, h3, h4⟩ := h
    unfold scK at s
    rw [List.all_cons, Bool.and_eq_true] at s
    exact ⟨p, u, v, r, e, rep_sub hM hM1 hs hB hB1 h1 (nk_sc _ _), h2, rep_sub hM hM1 hs hB hB1 h3 s.1, rnv_sub hM hM1 hs hB hB1 h4 s.2⟩
theorem ho_sub {w1 : Wd} {t' : List Addr} (hM : ∃ t, w'.M = w.M ++ t) (hM1 : w1.M = w.M ++ t') (hs : ∀ x ∈ t', x ∈ w'.M) (hB : w'.B = w.B) (hB1 : w1.B = w.B) : ∀ {o : Ob} {u : HO}, HoOk K w' H' mg o u → o.sc w.M.length = true → HoOk K w1 H' mg o u
  | .lst ds, _, h, s => let ⟨vs, e, r⟩ := h; ⟨vs, e, reps_sub hM hM1 hs hB hB1 r s⟩
  | .dK ds, _, h, s => let ⟨vs, e, r⟩ := h; ⟨vs, e, rkv_sub hM hM1 hs hB hB1 r s⟩
  | .dT ds, _, h, s => let ⟨vs, e, r⟩ := h; ⟨vs, e, rkv_sub hM hM1 hs hB hB1 r s⟩
  | .dN ds, _, h, s => let ⟨a, xs, e, r, n⟩ := h; ⟨a, xs, e, rnv_sub hM hM1 hs hB hB1 r s, n⟩
  | .ins C ds, _, h, s => let ⟨A, dx, vs, m, e, r⟩ := h; ⟨A, dx, vs, m, e, rkv_sub hM hM1 hs hB hB1 r s⟩
  | .lck o, _, h, s => let ⟨od, u', e, r⟩ := h; ⟨od, u', e, ho_sub (o := o) hM hM1 hs hB hB1 r s⟩
end
theorem rm1_rep {K : PySem.W.Frag} {w w' w1 : Wd} {H' : Hp} {a : Addr} {l : Nat} (hM : ∃ t, w'.M = w.M ++ t) (hM1 : w1.M = w.M ++ [a]) (hl : w'.M[l]? = some a) (hB : w'.B = w.B) (hB1 : w1.B = w.B) {d d' : D} {v : V} (e : rm1 w.M.length l d = some d') (r : Rep K w' H' d v) : Rep K w1 H' d' v := by
  have hs : ∀ x ∈ [a], x ∈ w'.M := fun x hx => by rw [List.mem_singleton.mp hx]; exact List.mem_of_getElem? hl
  unfold rm1 at e
  split at e
  · rename_i m
    split at e
    · rename_i hm
      subst hm
      cases e
      simp only [Rep] at r ⊢
      obtain ⟨b, eb, rfl⟩ := r
      rw [hl] at eb
      cases eb
      exact ⟨a, by rw [hM1]; simp, rfl⟩
    · split at e
      · rename_i h2
        cases e
        exact rep_sub hM hM1 hs hB hB1 r (by simp only [D.sc]; exact decide_eq_true h2)
      · cases e
  · split at e
    · rename_i h2
      cases e
      exact rep_sub hM hM1 hs hB hB1 r h2
    · cases e
theorem mapM_reps2 {K : PySem.W.Frag} {w1 w' : Wd} {H' : Hp} {f : D → Option D} (h : ∀ d d' v, f d = some d' → Rep K w' H' d v → Rep K w1 H' d' v) : ∀ {ds ds' : List D} {vs : List V}, ds.mapM f = some ds' → Reps K w' H' ds vs → Reps K w1 H' ds' vs := fun e r => mapM_reps (w := w1) h e r
open Classical in
noncomputable def gcO (den : List D → Store → Res D) (ds : List D) (S : Store) : Res D := match den ds S with
  | .ok d S' => match freshL S.length d with
    | some l => match S'[l]?, rmD S.length l d with
      | some o, some d' => if Kept S S' ∧ S.length ≤ l ∧ o.sc S.length = true then .ok d' (S'.take S.length ++ [o]) else .ok d S'
      | _, _ => .ok d S'
    | none => if Kept S S' ∧ d.sc S.length = true then .ok d (S'.take S.length) else .ok d S'
  | r => r
theorem spD_gcO {K : PySem.W.Frag} {mg : Str → Option Value} {n : Nat} {den : List D → Store → Res D} {vs : List V} {H : Hp} {Q : VK} {E : XK} (h : spD K mg n (gcO den) vs H Q E) : spD K mg n den vs H Q E := by
  obtain ⟨w, ds, S, A, r, hl, P⟩ := h
  refine ⟨w, ds, S, A, r, hl, ?_⟩
  unfold gcO at P
  cases hd : den ds S with
  | exc c fs S' => rw [hd] at P; exact P
  | stuck => rw [hd] at P; exact P
  | ok d S' =>
    rw [hd] at P
    simp only at P
    cases hn : freshL S.length d with
    | some l =>
      rw [hn] at P
      simp only at P
      cases ho : S'[l]? with
      | none => rw [ho] at P; exact P
      | some o =>
       cases hr : rmD S.length l d with
       | none => rw [ho, hr] at P; exact P
       | some d' =>
        rw [ho, hr] at P
        simp only at P
        by_cases hc : Kept S S' ∧ S.length ≤ l ∧ o.sc S.length = true
        · rw [if_pos hc] at P
          obtain ⟨hk, hle, hsc⟩ := hc
          intro w' H' v e A' rv
          obtain ⟨x1, a1⟩ := A.cut A' e hk
          obtain ⟨t, ht⟩ := id e.pre
          have hlt : l < w'.M.length := by rw [A'.len]; exact (List.getElem?_eq_some_iff.mp ho).1
          obtain ⟨a, ha⟩ : ∃ a, w'.M[l]? = some a := ⟨_, List.getElem?_eq_getElem hlt⟩
          have ham : a ∈ w'.M := List.mem_of_getElem? ha
          have hanm : a ∉ w.M := fun z => by
            obtain ⟨i, hi, e2⟩ := List.getElem_of_mem z
            have e3 : w'.M[i]? = some a := by rw [ht, List.getElem?_append_left hi, List.getElem?_eq_getElem hi, e2]
            obtain ⟨q1, q2⟩ := List.getElem?_eq_some_iff.mp e3
            obtain ⟨q3, q4⟩ := List.getElem?_eq_some_iff.mp ha
            have := (List.getElem_inj A'.nd).mp (q2.trans q4.symm)
            rw [← A.len] at hle
            omega
          obtain ⟨u, eu, ku⟩ := A'.ob l a o ha ho
          rw [← A.len] at hsc hr
          have hs : ∀ x ∈ [a], x ∈ w'.M := fun x hx => by rw [List.mem_singleton.mp hx]; exact ham
          have hrep : Rep K ⟨w.M ++ [a], w.B⟩ H' d' v := by
            unfold rmD at hr
            split at hr
            · simp only [Option.map_eq_some_iff] at hr
              obtain ⟨es, e1, rfl⟩ := hr
              simp only [Rep] at rv ⊢
              obtain ⟨p, us, rfl, ⟨n1, n2, f⟩, rr⟩ := rv
              refine ⟨p, us, rfl, ⟨fun z => n1 ?_, by rw [e.bk] at n2; exact n2, f⟩, mapM_reps2 (fun d d' v h r => rm1_rep e.pre (w1 := ⟨w.M ++ [a], w.B⟩) rfl ha e.bk rfl h r) e1 rr⟩
              rcases List.mem_append.mp z with z | z
              · rw [ht]; exact List.mem_append_left _ z
              · exact hs _ z
            · exact rm1_rep e.pre (w1 := ⟨w.M ++ [a], w.B⟩) rfl ha e.bk rfl hr rv
          refine P ⟨w.M ++ [a], w.B⟩ H' v ⟨⟨[a], rfl⟩, rfl, fun b x hb n => ⟨(e.keep b x hb n).1, fun z => ?_⟩, e.fz⟩ ⟨?_, ?_, fun b hb z => ?_, fun b hb => A'.bt b (by rw [e.bk]; exact hb), fun m b ob h1 h2 => ?_⟩ hrep
          · rcases List.mem_append.mp z with z | z
            · exact n z
            · rw [List.mem_singleton.mp z] at hb
              exact (e.keep a x hb hanm).2 ham
          · simp only [List.length_append, List.length_cons, List.length_nil, List.length_take, A.len]
            have := hk.1
            omega
          · show (w.M ++ [a]).Nodup
            rw [List.nodup_append]
            exact ⟨A.nd, by simp, fun b hb c hc => by simp only [List.mem_singleton] at hc; subst hc; exact fun e => hanm (e ▸ hb)⟩
          · rcases List.mem_append.mp z with z | z
            · exact A.bm b hb z
            · rw [List.mem_singleton.mp z] at hb
              exact A'.bm a (by rw [e.bk]; exact hb) ham
          · have h1 : (w.M ++ [a])[m]? = some b := h1
            have htl : (S'.take S.length).length = w.M.length := by rw [List.length_take, A.len]; have := hk.1; omega
            by_cases hm : m < w.M.length
            · rw [List.getElem?_append_left hm] at h1
              rw [List.getElem?_append_left (by rw [htl]; exact hm)] at h2
              rw [List.getElem?_take_of_lt (by rw [← A.len]; exact hm)] at h2
              obtain ⟨u', eu', k'⟩ := A'.ob m b ob (e.get h1) h2
              refine ⟨u', eu', ho_sub e.pre (w1 := ⟨w.M ++ [a], w.B⟩) rfl hs e.bk rfl k' ?_⟩
              have hob := hk.2 m (by rw [← A.len]; exact hm)
              rw [← A.len] at hob
              rcases hob with z | ⟨o', z, s⟩
              · rw [h2] at z
                obtain ⟨u0, _, k0⟩ := A.ob m b ob h1 z.symm
                exact ho_sc k0
              · rw [h2] at z
                cases z
                exact s
            · rw [List.getElem?_append_right (by omega)] at h1
              rw [List.getElem?_append_right (by rw [htl]; omega), htl] at h2
              have hm0 : m - w.M.length = 0 := by
                cases hq : m - w.M.length with
                | zero => rfl
                | succ n => rw [hq] at h1; simp at h1
              rw [hm0] at h1 h2
              simp only [List.getElem?_cons_zero, Option.some.injEq] at h1 h2
              subst h1 h2
              exact ⟨u, eu, ho_sub e.pre (w1 := ⟨w.M ++ [a], w.B⟩) rfl hs e.bk rfl ku hsc⟩
        · rw [if_neg hc] at P
          exact P
    | none =>
      rw [hn] at P
      simp only at P
      by_cases hc : Kept S S' ∧ d.sc S.length = true
      · rw [if_pos hc] at P
        intro w' H' v e A' rv
        obtain ⟨x1, a1⟩ := A.cut A' e hc.1
        have hsc := hc.2
        rw [← A.len] at hsc
        exact P w H' v x1 a1 (rep_cut e.pre e.bk rv hsc)
      · rw [if_neg hc] at P
        exact P
theorem fn_gcO {P : Program} {w : World} {K : PySem.W.Frag} {mg : Str → Option Value} {base : Heap} {k : Nat} {f : Addr} {fd : FuncData} {ps : List Str} {n : Nat} {den : List D → Store → Res D} (F : FnOk P w K mg base CX0 k f fd ps (spD K mg n den)) : FnOk P w K mg base CX0 k f fd ps (spD K mg n (gcO den)) :=
  F.imp fun _ _ _ _ h => spD_gcO h
/-! how they are used -/
theorem Kept.of {S S1 g : Store} (hl : S1.length = S.length) (ho : ∀ i < S.length, S1[i]? = S[i]? ∨ ∃ o, S1[i]? = some o ∧ o.sc S.length = true) : Kept S (S1 ++ g) :=
  ⟨by rw [List.length_append]; omega, fun i hi => by rw [List.getElem?_append_left (by omega)]; exact ho i hi⟩
theorem gcF_loc {den : List D → Store → Res D} {ds es : List D} {S S1 g : Store} {k : Nat} (h : den ds S = .ok (.loc (S.length + k)) (S1 ++ g)) (hl : S1.length = S.length) (he : g[k]? = some (.lst es)) (hs : D.scs S.length es = true) (ho : ∀ i < S.length, S1[i]? = S[i]? ∨ ∃ o, S1[i]? = some o ∧ o.sc S.length = true) : gcF den ds S = .ok (.lst es) S1 := by
  unfold gcF
  rw [h]
  simp only
  rw [if_pos (Kept.of hl ho)]
  have e1 : (S1 ++ g)[S.length + k]? = some (.lst es) := by
    rw [List.getElem?_append_right (by omega), ← he]
    congr 1
    omega
  have e2 : ∀ es : List D, D.scs S.length es = true → es.mapM (fzD (S1 ++ g) S.length 7) = some es := by
    intro es
    induction es with
    | nil => intro _; rfl
    | cons d es ih =>
      intro hs
      simp only [D.scs, Bool.and_eq_true] at hs
      rw [List.mapM_cons, ih hs.2]
      have : fzD (S1 ++ g) S.length 7 d = some d := by unfold fzD; rw [if_pos hs.1]
      rw [this]; rfl
  have e3 : fzD (S1 ++ g) S.length 8 (.loc (S.length + k)) = some (.lst es) := by
    unfold fzD
    rw [if_neg (by simp [D.sc])]
    simp only [e1, e2 es hs]
    rfl
  rw [e3, ← hl, List.take_left]
theorem gcO_loc {den : List D → Store → Res D} {ds : List D} {S S1 g : Store} {k : Nat} {o : Ob} (h : den ds S = .ok (.loc (S.length + k)) (S1 ++ g)) (hl : S1.length = S.length) (he : g[k]? = some o) (hs : o.sc S.length = true) (ho : ∀ i < S.length, S1[i]? = S[i]? ∨ ∃ o, S1[i]? = some o ∧ o.sc S.length = true) : gcO den ds S = .ok (.loc S.length) (S1 ++ [o]) := by
  unfold gcO
  rw [h]
  have e0 : freshL S.length (.loc (S.length + k)) = some (S.length + k) := by simp [freshL]
  have e1 : (S1 ++ g)[S.length + k]? = some o := by
    rw [List.getElem?_append_right (by omega), ← he]
    congr 1
    omega
  have e2 : rmD S.length (S.length + k) (.loc (S.length + k)) = some (.loc S.length) := by simp [rmD, rm1]
  simp only [e0, e1, e2]
  rw [if_pos ⟨Kept.of hl ho, by omega, hs⟩, ← hl, List.take_left]
end L3
namespace L3
open PySem PySem.Spec L2
section
variable {X : Cx} {W : XW}
/-! ### new lists that will be changed: x + y, sorted(x), x[a:b] -/
def addMD (d e : D) (S : Store) : Res D := match exL S d, exL S e with
  | some a, some b => if a.length + b.length ≤ sizeLine then .ok (.loc S.length) (S ++ [.lst (a ++ b)]) else .stuck
  | _, _ => .stuck
open Classical in
noncomputable def sortedMD (ds : List D) (S : Store) : Res D := match ds with
  | [d] => match rdL S d with
    | some es => if Srt es ∧ es.length ≤ sizeLine then .ok (.loc S.length) (S ++ [.lst (es.mergeSort dLe)]) else .stuck
    | none => .stuck
  | _ => .stuck
end
end L3
namespace L3
open PySem PySem.Spec L2
/-! ### o.f = e, o.f += e, x += e -/
def putFD (f : Str) (d : D) : List (Str × D) → List (Str × D)
  | [] => [(f, d)]
  | (g, x) :: r => if g = f then (g, d) :: r else (g, x) :: putFD f d r
section
variable {X : Cx} {W : XW} {o e value : Expr} {f : Str} {pos pos' tpos : Pos}
theorem RKv.putF {K : PySem.W.Frag} {w : Wd} {H : Hp} {f : Str} {d : D} {v : V} (r : Rep K w H d v) : ∀ {fs : List (Str × D)} {vs : List (Str × V)}, RKv K w H fs vs → RKv K w H (putFD f d fs) (L2.putF f v vs)
  | [], _, h => by simp only [RKv] at h; subst h; exact ⟨v, [], rfl, r, rfl⟩
  | (g, x) :: fs, _, h => by
    obtain ⟨y, us, rfl, h1, h2⟩ := h
    unfold putFD L2.putF
    by_cases e : g = f
    · rw [if_pos e, if_pos e]
      exact ⟨v, us, rfl, r, h2⟩
    · rw [if_neg e, if_neg e]
      exact ⟨y, _, rfl, h1, RKv.putF r h2⟩
open Classical in
noncomputable def setFD (cs : List Str) (f : Str) (d o : D) (σ : DSt) (S : Store) : Res Fl := match o with
  | .loc l => match S[l]? with
    | some (.ins C fs) => if C ∈ cs ∧ fs.length < 1000 then .ok (.nx σ) (S.set l (.ins C (putFD f d fs))) else .stuck
    | _ => .stuck
  | _ => .stuck
noncomputable def mFldS (cs : List Str) (f : Str) (mv mo : DSt → Store → Res D) (σ : DSt) (S : Store) : Res Fl := liftE (mv σ S) σ fun d S1 => liftE (mo σ S1) σ fun o S2 => setFD cs f d o σ S2
theorem rkv_length {κ : Type} {K : PySem.W.Frag} {w : Wd} {H : Hp} : ∀ {kvs : List (κ × D)} {vs : List (κ × V)}, RKv K w H kvs vs → kvs.length = vs.length
  | [], _, h => by simp only [RKv] at h; subst h; rfl
  | (k', d) :: kvs, _, h => by
    simp only [RKv] at h
    obtain ⟨v', r, rfl, h1, h2⟩ := h
    simp [rkv_length h2]
theorem setFD_ok {cs : List Str} {d od : D} {σ : L2.St} {dσ : DSt} {S : Store} {w : Wd} {H : Hp} {v x : V} {D : Ends} (hf : ClsF X f cs) (A : Ab X.K w H X.mg S) (R : RSt X.K w H dσ σ) (rd : Rep X.K w H d v) (ro : Rep X.K w H od x)
    (P : PostS X.K X.mg W w H (setFD cs f d od dσ S) D) : ∃ a C dx fs, x = .ref a ∧ H a = some (.ins C dx fs) ∧ Cls X.K C ∧ NoAttr X.K C f ∧ fs.length < 1000 ∧ D.nx σ (upd H a (.ins C dx (L2.putF f v fs))) := by
  unfold setFD at P
  split at P
  · rename_i l
    split at P
    · rename_i C' fs q
      split at P
      · rename_i hc
        simp only [Rep] at ro
        obtain ⟨a, el, rfl⟩ := ro
        obtain ⟨u, eu, A', dx, vs, hm, rfl, r'⟩ := A.ob l a _ el q
        obtain ⟨C, h1, h2, h3⟩ := hf C' hc.1
        rw [h1] at hm
        cases hm
        refine ⟨a, _, dx, vs, rfl, eu, h2, h3, by rw [← rkv_length r']; exact hc.2, ?_⟩
        have hmem : a ∈ w.M := List.mem_of_getElem? el
        exact P w _ σ (Ex.wr hmem (nz_ins eu)) (A.wr el (nz_ins eu) ⟨_, dx, _, h1, rfl, r'.putF rd⟩) (R.mono (Ex.wr hmem (nz_ins eu)))
      · exact P.elim
    · exact P.elim
  · exact P.elim
theorem pms_fldS {cs : List Str} {mv mo : DSt → Store → Res D} (hv : PM X W value mv) (ho : PM X W o mo) (hf : ClsF X f cs) (hs : swapsWith value (some (.Attribute o f pos')) pos.line X.env = pure false := by rfl) : PMS X W (.Assign [.Attribute o f pos'] value pos) (mFldS cs f mv mo) :=
  PS.imp (ps_fld ho hv hs) fun D σ H ⟨w, dσ, S, A, R, P⟩ => ⟨w, dσ, S, A, R, P.bindE R fun d S1 w1 H1 v e1 A1 r1 P1 => ⟨w1, dσ, S1, A1, R.mono e1, P1.bindE (R.mono e1) fun od S2 w2 H2 x e2 A2 r2 P2 =>
    setFD_ok hf A2 ((R.mono e1).mono e2) (r1.mono e2) r2 P2⟩⟩
open Classical in
noncomputable def augFD (cs : List Str) (f : Str) (C : Str) (d o : D) (σ : DSt) (S : Store) : Res Fl := match insOf S o, o with
  | some (C2, fs), .loc l => if C2 = C ∧ C ∈ cs ∧ fs.length < 1000 then .ok (.nx σ) (S.set l (.ins C (putFD f d fs))) else .stuck
  | _, _ => .stuck
open Classical in
noncomputable def mAugF (cs : List Str) (f : Str) (mo mv : DSt → Store → Res D) (σ : DSt) (S : Store) : Res Fl := liftE (mo σ S) σ fun o S1 => match insOf S1 o with
  | some (C, fs) => if C ∈ cs then (match fs.lookup f with
    | some (.int a) => liftE (mv σ S1) σ fun d S2 => match d with
      | .int b => augFD cs f C (.int (a + b)) o σ S2
      | _ => .stuck
    | _ => .stuck) else .stuck
  | none => .stuck
end
def FldIn (K : PySem.W.Frag) (mg : Str → Option Value) (f : Str) (cs : List Str) : Prop := ∀ c ∈ cs, ∃ C, mg c = some (.ref C) ∧ Cls K C ∧ NoAttr K C f
theorem FldIn.nil {K : PySem.W.Frag} {mg : Str → Option Value} {f : Str} : FldIn K mg f [] := fun c h => (List.not_mem_nil h).elim
theorem FldIn.cons {K : PySem.W.Frag} {mg : Str → Option Value} {f c : Str} {C : Addr} {cs : List Str} (h1 : mg c = some (.ref C)) (h2 : Cls K C) (h3 : NoAttr K C f) (h : FldIn K mg f cs) : FldIn K mg f (c :: cs) := fun d hd => by
  rcases List.mem_cons.mp hd with rfl | hd
  · exact ⟨C, h1, h2, h3⟩
  · exact h d hd
end L3
namespace L3
open PySem PySem.Spec L2
section
variable {X : Cx} {W : XW}
end
end L3
namespace L3
open PySem PySem.Spec L2
section
variable {X : Cx} {W : XW}
end
/-! ### a def that is called where nothing is being shown -/
structure FnG (P : Program) (w : World) (K : PySem.W.Frag) (mg : Str → Option Value) (base : Heap) (k : Nat) (f : Addr) (fd : FuncData) (ps : List Str) (sp : Sp) : Prop where
  len : ∀ us H Q E, sp us H Q E → us.length = ps.length
  run : ∀ (A : Around) (fr : List Env) (s : Shared) (H : Hp) (args : Args) (us : List Value) (vs : List V) (Q : VK) (E : XK), A.guards = some [] → Room k A → Env0 P w K mg base A fr s H → BindsTo s fd args (ps.zip us) → Vals vs us → sp vs H Q E →
    codeAny (model P w) A (.call (.ref f) args) (CR CX0 fr P w H s Q E) s
section
variable {P : Program} {w : World} {K : PySem.W.Frag} {mg : Str → Option Value} {base : Heap}
end
end L3
namespace L3
open PySem PySem.Spec L2 PyProof.Rows
section
variable {X : Cx} {W : XW}
end
theorem relI (i : Int) (t : Tok) : RelV (.int i) (.int i t) := ⟨t, rfl⟩
theorem relR (a : Addr) : RelV (.ref a) (.ref a) := rfl
theorem FnG.out {P : Program} {w : World} {K : PySem.W.Frag} {mg : Str → Option Value} {base : Heap} {k : Nat} {f : Addr} {fd : FuncData} {ps : List Str} {den : List D → Store → Res D} (F : FnG P w K mg base k f fd ps (spD K mg 1 den)) :
    FnG P w K mg base k f fd ps (spOut K den) :=
  ⟨fun us H Q E h => F.len us H Q E (h mg), fun A fr s H args us vs Q E g r e b v h => F.run A fr s H args us vs Q E g r e b v (h mg)⟩
section
variable {P : Program} {w : World} {K : PySem.W.Frag} {mg mb : Str → Option Value} {k : Nat} {fa a : Addr} {fd : FuncData} {x : Str} {sp : Sp} {s : Shared} {vs : List Value} {ns : List Int}
open Classical in
/-- the script alone is seen, if the module does not hold it -/
noncomputable def scriptH (K : PySem.W.Frag) (a : Addr) (vs : List Value) (ns : List Int) : Hp := fun b =>
  if b = a ∧ K.lookup a = none then some (.frz { cls := .type "list", data := .seq vs.toArray } (.lst (ns.map V.int))) else none
end
end L3
namespace L3
open PySem PySem.Spec L2 HT PyProof.Rows PySem.SeqAt PySem.MeetsSeq PySem.MeetsSeq2 PySem.MeetsSeq3
/-! ### t[::-1] of a tuple -/
section
variable {prog : Program} {w : World} {A : Around} {E : Value → Shared → Prop} {s : Shared}
theorem adjust_rev (n : Nat) : Builtin.Slice.sliceAdjust none none (-1) (n : Int) = ((n : Int) - 1, -1) := by
  unfold Builtin.Slice.sliceAdjust
  simp
theorem places_rev (n : Nat) : Builtin.Slice.slicePlaces ((n : Int) - 1) (-1) (-1) = n := by
  unfold Builtin.Slice.slicePlaces
  have h1 : ¬ ((-1 : Int) > 0) := by omega
  simp only [h1, if_false]
  split
  · simp
  · omega
theorem sliceApplied_rev {sl : Addr} {vl vu vs : Value} {n : Nat} {Q : Int × Int × Nat → Shared → Prop} (hs : s.heap.IsSliceOf sl vl vu vs) (pl : IsPart vl none) (pu : IsPart vu none) (ps : IsPart vs (some (-1)))
    (h : Q ((n : Int) - 1, -1, n) s) : wpAny (model prog w) A (Builtin.Slice.sliceApplied (.ref sl) (pure (n : Int))) Q E s := by
  obtain ⟨os, hos, hcs, hds⟩ := id hs
  unfold Builtin.Slice.sliceApplied Builtin.Slice.sliceFields
  refine wpAny_bind (wpAny_bind (wpAny_field hos hds (x := vl) rfl (wpAny_bind (wpAny_field hos hds (x := vu) rfl (wpAny_bind (wpAny_field hos hds (x := vs) rfl (wpAny_pure ?_)))))))
  refine wpAny_bind (slicePart_ ps ?_)
  show wpAny _ _ (if ((-1 : Int) == 0) = true then _ else _) _ _ s
  rw [if_neg (by decide)]
  refine wpAny_bind (slicePart_ pl (wpAny_bind (slicePart_ pu (wpAny_bind (wpAny_pure ?_)))))
  show wpAny _ _ (match Builtin.Slice.sliceAdjust none none (-1) (n : Int) with | (lo, hi) => pure (lo, (-1 : Int), Builtin.Slice.slicePlaces lo hi (-1))) _ _ s
  rw [adjust_rev n]
  show wpAny _ _ (pure ((n : Int) - 1, (-1 : Int), Builtin.Slice.slicePlaces ((n : Int) - 1) (-1) (-1))) _ _ s
  rw [places_rev]
  exact wpAny_pure h
theorem fm_congr {α β : Type} {f g : α → Option β} : ∀ {l : List α}, (∀ m ∈ l, f m = g m) → l.filterMap f = l.filterMap g
  | [], _ => rfl
  | a :: l, h => by
    rw [List.filterMap_cons, List.filterMap_cons, h a List.mem_cons_self, fm_congr fun m hm => h m (List.mem_cons_of_mem _ hm)]
theorem pick_revT (xs : Array Value) : ((List.range xs.size).filterMap fun (m : Nat) => xs[((xs.size : Int) - 1 + (m : Int) * (-1)).toNat]?).toArray = xs.toList.reverse.toArray := by
  have h := PySem.W.krv_all xs
  have e : ((List.range xs.size).filterMap fun (m : Nat) => xs[((xs.size : Int) - 1 + (m : Int) * (-1)).toNat]?) = ((List.range xs.size).map fun k => xs.size - 1 - k).filterMap (xs[·]?) := by
    rw [List.filterMap_map]
    refine fm_congr fun m hm => ?_
    have := List.mem_range.mp hm
    have e2 : ((xs.size : Int) - 1 + (m : Int) * (-1)).toNat = xs.size - 1 - m := by omega
    simp only [Function.comp, e2]
  rw [e, PySem.W.krv_range, List.filterMap_reverse, h]
theorem getItem_tuple_rev {t sl : Addr} {items : Array Value} {vl vu vs : Value} {Q : Value → Shared → Prop} (ht : IsTup s.heap t items) (hs : s.heap.IsSliceOf sl vl vu vs) (pl : IsPart vl none) (pu : IsPart vu none) (ps : IsPart vs (some (-1)))
    (h : Q (.ref s.heap.objs.size) { s with heap := s.heap.push { cls := .type "tuple", data := .seq items.toList.reverse.toArray } }) (hsz : items.size ≤ sizeLine) : wpAny (model prog w) A (getItem (.ref t) (.ref sl)) Q E s := by
  have room : sizeOk (.seq items.toList.reverse.toArray) := by
    show items.toList.reverse.toArray.size ≤ sizeLine
    rw [List.size_toArray, List.length_reverse, Array.length_toList]
    exact hsz
  obtain ⟨os, hos, hcs, hds⟩ := id hs
  have hTs : s.TypeIs (.ref sl) "slice" := ⟨os, hos, hcs⟩
  unfold getItem
  try with_reducible refine wpAny_holding ?_
  first | refine wpAny_bind (wpAny_pure ?_) | skip
  refine wpAny_bind (wpAny_sequenceKey ht.typeIs (by decide) ?_)
  refine wpAny_bind (wpAny_callSpecial?_slot (name := Str.ofString "__getitem__") ht.typeIs PyProof.Rows.slot_tuple_getitem (wpAny_call_entry PyProof.Rows.slot_tuple_getitem ht.typeIs entry_tuple_getitem ?_ (args_tuple_getitem _ _)))
  show wpAny _ _ (Builtin.Tuple.tupleItemsOf (.ref t) >>= _) _ _ s
  refine wpAny_bind (tupleItemsOf_ ht ?_)
  refine wpAny_bind (wpAny_typeOf hTs ?_)
  rw [if_pos (by decide)]
  refine wpAny_bind (sliceApplied_rev hs pl pu ps ?_)
  have no : ¬ ((((items.size : Int) - 1) == 0 && (-1 : Int) == 1 && items.size == items.size) = true) := by simp
  show wpAny _ _ (if (((items.size : Int) - 1) == 0 && (-1 : Int) == 1 && items.size == items.size) = true then _ else _) _ _ s
  rw [if_neg no, pick_revT]
  first
    | exact wpAny_bind (m := Builtin.Tuple.tupleExact _) (wpAny_newObj_type (wpAny_pure ⟨_, rfl, wpAny_pure h⟩) room)
    | exact wpAny_bind (m := Builtin.Tuple.tupleExact _) (wpAny_newObj_type (wpAny_bind (wpAny_pure (wpAny_pure ⟨_, rfl, wpAny_pure h⟩))) room)
end
theorem pe_revT {X : Cx} {e : Expr} {te : TE} {k : Nat} {p1 p2 p3 pos : Pos} (he : PE X e te) : PE X (.Subscript e (.Slice none none (some (.UnaryOp .USub (.Constant (.int 1) k p1) p2)) p3) pos)
    (fun σ H Q => te σ H fun x H1 => ∃ a xs, x = .ref a ∧ SqT X.K H1 a xs ∧ ∀ p, H1 p = none → Q (.ref p) (upd H1 p (.tup xs.reverse))) := by
  refine ⟨fun pins s σ H Q I h => ?_⟩
  refine PyProof.Rows.Subscript_ (thn (he.run pins s σ H _ I h) fun v s1 ⟨x, H1, I1, r1, a, xs, ex, hx, q⟩ => ?_)
  have hst : PO X (some (.UnaryOp .USub (.Constant (.int 1) k p1) p2)) (tPart (tUn (rU fun i => .int (-i)) (tC (.int 1)))) := po_some (pe_un un_neg pe_int)
  refine wpAny_Slice (thn (po_none.run pins s1 σ H1 (fun o H2 => o = none ∧ H2 = H1) I1 ⟨rfl, rfl⟩) fun vl s2 ⟨l, H2, I2, pl, el, e2⟩ => ?_)
  subst el e2
  refine thn (po_none.run pins s2 σ H2 (fun o H3 => o = none ∧ H3 = H2) I2 ⟨rfl, rfl⟩) fun vu s3 ⟨u, H3, I3, pu, eu, e3⟩ => ?_
  subst eu e3
  refine thn (hst.run pins s3 σ H3 (fun o H4 => o = some (-1) ∧ H4 = H3) I3 ⟨1, rfl, -1, rfl, rfl, rfl⟩) fun vs s4 ⟨o, H4, I4, ps, eo, e4⟩ => ?_
  subst eo e4 ex
  cases r1
  have I5 : Inv X pins σ H4 { s4 with heap := s4.heap.push { cls := .type "slice", data := .fields #[vl, vu, vs] } } := I4.kept (t' := s4.toks) fun b ob q => Heap.get?_push_of_some _ q
  obtain ⟨its, r, ht, hz⟩ := I5.tuple hx
  show wpAny (model X.prog X.w) X.A (PyProof.Rows.subscriptTail e (.Slice none none (some (.UnaryOp .USub (.Constant (.int 1) k p1) p2)) p3) (.ref a) (.ref s4.heap.objs.size)) (EP X pins σ Q) X.xe { s4 with heap := s4.heap.push { cls := .type "slice", data := .fields #[vl, vu, vs] } }
  refine PyProof.Rows.tail_any (ops := [.ref a, .ref s4.heap.objs.size]) ht.typeIs (PyProof.Rows.slot_tuple_getitem.lookup) ?_ (by with_unfolding_all rfl)
  refine getItem_tuple_rev ht (Heap.IsSliceOf.new _ vl vu vs) pl pu ps ?_ (by rw [List.size_toArray, ← r.length]; exact hz)
  refine ⟨.ref _, _, I5.laid (t' := s4.toks) (o := .tup xs.reverse) (fun b ob q => Heap.get?_push_of_some _ q) (Nat.le_refl _) ?_, rfl, q _ (I5.hok.fresh (Nat.le_refl _))⟩
  exact ⟨by rw [List.length_reverse]; exact hz, _, r.reverse, IsTup.new _ _⟩
def revTD (d : D) (S : Store) : Res D := match d with
  | .tup ds => .ok (.tup ds.reverse) S
  | _ => .stuck
theorem pm_revT {X : Cx} {W : XW} {e : Expr} {m : DSt → Store → Res D} {k : Nat} {p1 p2 p3 pos : Pos} (he : PM X W e m) : PM X W (.Subscript e (.Slice none none (some (.UnaryOp .USub (.Constant (.int 1) k p1) p2)) p3) pos) (m1 m revTD) :=
  PE.imp (pe_revT he) fun σ H Q ⟨w, dσ, S, A, R, P⟩ => ⟨w, dσ, S, A, R, P.bind fun d S1 w1 H1 v e1 A1 r1 P1 => by
    unfold revTD at P1
    split at P1
    · rename_i ds
      obtain ⟨a, vs, rfl, f, r⟩ := tup_rep r1
      exact ⟨a, vs, rfl, .of f, fun p hp => P1 w1 _ _ (Ex.new hp) (A1.newF hp) (Rep.tupNew A1 hp r.reverse)⟩
    · exact P1.elim⟩
end L3
namespace L3
open PySem PySem.Spec L2 PyProof.Rows
/-! ### tuples that are known exactly: tuple(xs), dict(t) -/
section
variable {X : Cx} {W : XW}
theorem call_tupleX : CallR X (.type "tuple") (fun xs H Q => ∃ (p : Addr) (ys : List V), xs = [.ref p] ∧ SqL X.K H p ys ∧ ∀ (l : Addr) (o : Obj) (its : Array Value) (n : Nat), H l = none → o.cls = .type "tuple" → o.dict = none → o.data = .seq its n → Q (.ref l) (upd H l (.frz o (.tup ys)))) := by
  intro pins s σ H xs us Q I r h
  obtain ⟨p, ys, rfl, hs, q⟩ := h
  obtain ⟨u, rfl, ru⟩ := vals1 r
  obtain rfl : u = .ref p := ru
  obtain ⟨its, rv, pl, hz⟩ := I.list hs
  refine call_tuple_list pl.isList (fun h' hk => ?_) (by rw [List.size_toArray, ← rv.length]; exact hz)
  have I1 : Inv X pins σ H { s with heap := h' } := I.kept (t' := s.toks) hk
  have I2 : Inv X pins σ (upd H h'.objs.size (.frz { cls := .type "tuple", data := .seq its.toArray } (.tup ys))) { s with heap := h'.push { cls := .type "tuple", data := .seq its.toArray } } :=
    I1.laid (t' := s.toks) (fun b o e => Heap.get?_push_of_some _ e) (Nat.le_refl _) (show ObjOk X.prog X.w _ _ _ (.frz _ (.tup ys)) from ⟨Heap.get?_push_size _ rfl, hz, its, rv, IsTup.new _ _⟩)
  exact ⟨.ref h'.objs.size, _, I2, rfl, q _ _ _ _ (I1.hok.fresh (Nat.le_refl _)) rfl rfl rfl⟩
def tupleXD (ds : List D) (S : Store) : Res D := match ds with
  | [d] => match rdL S d with
    | some es => .ok (.ktp es) S
    | none => .stuck
  | _ => .stuck
theorem cd_tupleX : CallD X W (.type "tuple") tupleXD := by
  refine ⟨_, call_tupleX, fun w H S ds vs σ Q A r P => ?_⟩
  unfold tupleXD at P
  split at P
  · rename_i d
    obtain ⟨v, rfl, r1⟩ := reps1 r
    split at P
    · rename_i es h1
      obtain ⟨a, us, rfl, f, r'⟩ := rdL_rep A h1 r1
      refine ⟨a, us, rfl, f, fun l o its n hl h2 h3 h4 => P w _ _ (Ex.new hl) (A.newF hl) ?_⟩
      obtain ⟨_, _, _, t1, _⟩ := Rep.tupNew A hl r'
      cases ‹V.ref l = V.ref _›
      exact ⟨l, us, rfl, .inr ⟨t1.1, t1.2.1, o, its, n, if_pos rfl, h2, h3, h4⟩, r'.mono (Ex.new hl)⟩
    · exact P.elim
  · exact P.elim
/-- the object stands exactly so -/
def ExT (K : PySem.W.Frag) (H : Hp) (a : Addr) (xs : List V) : Prop := KcT K a xs ∨ ∃ (o : Obj) (its : Array Value) (n : Nat), H a = some (.frz o (.tup xs)) ∧ o.cls = .type "tuple" ∧ o.dict = none ∧ o.data = .seq its n
theorem ExT.at {pins : List (Addr × Obj)} {σ : L2.St} {H : Hp} {s : Shared} (I : Inv X pins σ H s) {a : Addr} {xs : List V} (h : ExT X.K H a xs) :
    ∃ (o : Obj) (its : List Value) (n : Nat), s.heap.get? a = some o ∧ o.cls = .type "tuple" ∧ o.dict = none ∧ o.data = .seq its.toArray n ∧ Vals xs its ∧ xs.length ≤ sizeLine := by
  rcases h with ⟨o, its, n, h1, h2, h3, h4, h5, h6⟩ | ⟨o, its, n, h1, h2, h3, h4⟩
  · exact ⟨o, its.toList, n, I.kIn a o h1, h2, h3, by rw [Array.toArray_toList]; exact h4, h6, by rw [h6.length, Array.length_toList]; exact h5⟩
  · obtain ⟨g, hz, its2, rv, ⟨o2, g2, g3, n2, g4⟩⟩ := (show ObjOk X.prog X.w H s.heap a (.frz o (.tup xs)) from I.hok a _ h1)
    rw [g] at g2
    cases g2
    exact ⟨o, its2, n2, g, h2, h3, g4, rv, hz⟩
open Classical in
theorem list_of {n : Nat} {P : Nat → Value → Prop} (h : ∀ j < n, ∃ u, P j u) : ∃ us : List Value, us.length = n ∧ ∀ j < n, ∃ u, us[j]? = some u ∧ P j u := by
  refine ⟨(List.range n).map fun j => if h : ∃ u, P j u then Classical.choose h else .none, by simp, fun j hj => ?_⟩
  refine ⟨_, by rw [List.getElem?_map, List.getElem?_range hj]; rfl, ?_⟩
  show P j (if h : ∃ u, P j u then Classical.choose h else Value.none)
  rw [dif_pos (h j hj)]
  exact Classical.choose_spec (h j hj)
theorem call_dictPX (hcalm : X.calm = true) : CallR X (.type "dict") (fun xs H Q => ∃ (a : Addr) (ps : List Addr) (kvs : List (Key × V)), xs = [.ref a] ∧ ExT X.K H a (ps.map V.ref) ∧ Paired (fun p kv => SqT X.K H p [kV kv.1, kv.2]) ps kvs ∧
    ∀ p, H p = none → Q (.ref p) (upd H p (.dK (L2.mergeK [] kvs)))) := by
  intro pins s σ H xs us Q I r q
  obtain ⟨a, ps, kvs, ex, hq, hp, q⟩ := q
  subst ex
  obtain ⟨u, eu, rx⟩ := vals1 r
  subst eu
  cases rx
  obtain ⟨o, its, n, ho, hc, hd, hdat, rv, hz⟩ := hq.at I
  have ei := refs_at rv
  subst ei
  rw [List.length_map] at hz
  obtain ⟨prs, rel, hl, hpr⟩ := pairs_of I hp
  obtain ⟨ks, hks, hk⟩ := list_of (n := prs.length) (P := fun j u => ∀ q : Key × Value, prs[j]? = some q → ∃ b : Addr, ps[j]? = some b ∧ IsTup s.heap b #[u, q.2] ∧ keyIs q.1 u = true) (fun j hj => by
    obtain ⟨b, u, e1, e2, e3⟩ := hpr j prs[j] (List.getElem?_eq_getElem hj)
    exact ⟨u, fun q' e => by
      rw [List.getElem?_eq_getElem hj] at e
      cases e
      exact ⟨b, e1, e2, e3⟩⟩)
  have hzl : (ks.zip (prs.map (·.2))).length = prs.length := by rw [List.length_zip, hks, List.length_map, Nat.min_self]
  have hget : ∀ (j : Nat) (k v : Value), (ks.zip (prs.map (·.2)))[j]? = some (k, v) → ∃ (q : Key × Value) (b : Addr), prs[j]? = some q ∧ q.2 = v ∧ ps[j]? = some b ∧ IsTup s.heap b #[k, v] ∧ keyIs q.1 k = true := fun j k v e => by
    obtain ⟨e1, e2⟩ := List.getElem?_zip_eq_some.mp e
    rw [List.getElem?_map, Option.map_eq_some_iff] at e2
    obtain ⟨q, e3, e4⟩ := e2
    have e4 : q.2 = v := e4
    obtain ⟨u, e5, e6⟩ := hk j (List.getElem?_eq_some_iff.mp e3).1
    obtain ⟨b, e7, e8, e9⟩ := e6 q e3
    have e5' : some k = some u := e1.symm.trans e5
    cases e5'
    exact ⟨q, b, e3, e4, e7, by rw [← e4]; exact e8, e9⟩
  refine PySem.call_dict_pairs (knd := mixKind X.prog X.w) (kvs := prs) (PairArg.tuple a ((ps.map Value.ref).toArray) (fun j => (ps[j]?).getD 0) (ks.zip (prs.map (·.2)))) (I.ok.hd hcalm)
    ⟨⟨o, n, ho, hc, hd, hdat⟩, by rw [hzl, hl]; simp, fun j k v e => ?_⟩ ⟨hzl.symm, fun i k v e => ?_⟩ (by rw [hzl, hl]; exact hz) fun h' tk hd' hkp => ?_
  · obtain ⟨q', b, _, _, e1, ⟨o2, g1, g2, n2, g3⟩, _⟩ := hget j k v e
    simp only [e1, Option.getD_some]
    exact ⟨by simp [e1], .inl ⟨o2, g1, g2, n2, g3⟩⟩
  · obtain ⟨q', b, e1, e2, _, _, e3⟩ := hget i k v e
    exact ⟨q'.1, by rw [e1, ← e2], e3⟩
  · have hm : (s.heap.objs.size == sysModules) = false := beq_eq_false_iff_ne.mpr (Nat.ne_of_gt I.big)
    have hlen : (L2.mergeK [] kvs).length ≤ sizeLine := by
      refine Nat.le_trans (length_mergeK kvs []) ?_
      rw [List.length_nil, Nat.zero_add, rel.length, hl]
      exact hz
    exact ⟨.ref s.heap.objs.size, upd H s.heap.objs.size (.dK (L2.mergeK [] kvs)), I.laid (t' := tk) (fun b o e => hkp b o List.not_mem_nil e) (Nat.le_refl _) (show ObjOk X.prog X.w _ _ _ (.dK (L2.mergeK [] kvs)) from ⟨hlen, hm, merged [] prs, KV.merge rel .nil, hd'⟩), rfl, q _ (I.hok.fresh (Nat.le_refl _))⟩
def dictXD (ds : List D) (S : Store) : Res D := match ds with
  | [.ktp es] => match pairsK es with
    | some ps => .ok (.loc S.length) (S ++ [.dK (mergeD [] ps)])
    | none => .stuck
  | _ => .stuck
theorem cd_dictX (hc : X.calm = true) : CallD X W (.type "dict") dictXD := by
  refine ⟨_, call_dictPX hc, fun w H S ds vs σ Q A r P => ?_⟩
  unfold dictXD at P
  split at P
  · split at P
    · rename_i es _ ps hp
      obtain ⟨v, rfl, r1⟩ := reps1 r
      simp only [Rep] at r1
      obtain ⟨a, us, rfl, f, r'⟩ := r1
      obtain ⟨as, kvs, rfl, e2, e3⟩ := pairsK_rep hp r'
      refine ⟨a, as, kvs, rfl, f.imp_right fun f => ?_, e2, fun p hn => P ⟨w.M ++ [p], w.B⟩ _ _ (Ex.newM hn) (A.newM hn ⟨_, rfl, (mergeK_rep (acc := []) (av := []) e3 rfl).mono (Ex.newM hn)⟩) (Rep.locNew A)⟩
      obtain ⟨_, _, o, its, n, h1, h2, h3, h4⟩ := f
      exact ⟨o, its, n, h1, h2, h3, h4⟩
    · exact P.elim
  · exact P.elim
end
end L3
namespace L3
open PySem PySem.Spec PyProof.Rows L2
/-! ### enumerate of a tuple -/
set_option maxHeartbeats 1000000 in
theorem meets_enum1 {v : Value} {o : Obj} {H : Heap → Prop} (B : Begins v o H) :
    Meets (Builtin.«enumerate.__new__» ⟨[.type "enumerate", v], []⟩) (fun _ R s => H s.heap ∧
      R (.ok (.ret (.ref (s.heap.push o).objs.size))) { s with heap := (s.heap.push o).push { cls := .type "enumerate", data := .fields #[.none, .bool false, .ref s.heap.objs.size, rawInt 0, .none, .none] } }) :=
  .of_wp fun prog w A R s h => by
    obtain ⟨hp, g, d, tk, os⟩ := s; obtain ⟨h1, h⟩ := h
    have hsub := sub_enumerate
    have q1 : ∀ {A' : Around} {E : Value → Shared → Prop} {Q : Value → Shared → Prop}, Q (.ref hp.objs.size) ⟨hp.push o, g, d, tk, os⟩ → wpAny (model prog w) A' (pyIter v) Q E ⟨hp, g, d, tk, os⟩ :=
      fun q => B.iter prog w _ _ ⟨hp, g, d, tk, os⟩ _ h1 q
    wp_walk using q1
    refine wpAny_stack_any fun st => wpAny_pure ?_
    split
    · rename_i c _ _ _ _ _
      cases (c == Value.type "enumerate")
      · wp_walk using q1
        exact ⟨_, rfl, h⟩
      · wp_walk using q1
        exact ⟨_, rfl, h⟩
    · wp_walk using q1
      exact ⟨_, rfl, h⟩
theorem enum_begins1 {prog : Program} {w : World} {A : Around} {E : Value → Shared → Prop} {s : Shared} {v : Value} {o : Obj} {H : Heap → Prop} {Q : Value → Shared → Prop} (B : Begins v o H) (h1 : H s.heap)
    (h : ∀ h', IsEnum h' (s.heap.objs.size + 1) s.heap.objs.size 0 .none → h'.get? s.heap.objs.size = some o → h'.objs.size = s.heap.objs.size + 2 →
      (∀ b o, s.heap.get? b = some o → h'.get? b = some o) → Q (.ref (s.heap.objs.size + 1)) { s with heap := h' }) :
    wpAny (model prog w) A (call (.type "enumerate") [v]) Q E s := by
  refine callType_new F.called_enumerate (by decide) (F.typeCall_enumerate_1 _) (F.newCall_enumerate_1 _) (fun obj => F.args_object_init_2 obj _) F.entry_enumerate_new
    (meets_enum1 B) ⟨h1, ?_⟩
  have hz : (s.heap.push o).objs.size = s.heap.objs.size + 1 := Heap.size_push ..
  show _ ∧ _
  rw [hz]
  have he : IsEnum ((s.heap.push o).push { cls := .type "enumerate", data := .fields #[.none, .bool false, .ref s.heap.objs.size, rawInt 0, .none, .none] }) (s.heap.objs.size + 1) s.heap.objs.size 0 .none := by
    have := Heap.get?_push_size (s.heap.push o) (o := { cls := .type "enumerate", data := .fields #[.none, .bool false, .ref s.heap.objs.size, rawInt 0, .none, .none] }) rfl
    rw [hz] at this; exact this
  refine ⟨⟨_, he, rfl⟩, h _ he (Heap.get?_push_of_some _ (Heap.get?_push_size _ B.free)) (by rw [Heap.size_push, hz]) fun b o x => Heap.get?_push_of_some _ (Heap.get?_push_of_some _ x)⟩
/-- the tuple at a, each item in a new pair -/
def IteT (K : PySem.W.Frag) (a : Addr) : It :=
  ⟨fun i H => ∃ (xs : List V) (x : V), SqT K H a xs ∧ xs[i]? = some x, fun i H v H' => ∃ T x, v = .ref T ∧ H T = none ∧ H' = upd H T (.tup [.int (i : Nat), x]) ∧ ∀ xs, SqT K H a xs → xs[i]? = some x, fun i H => ∃ xs : List V, SqT K H a xs ∧ xs.length ≤ i⟩
theorem turn_enumT {P : Program} {w : World} {K : PySem.W.Frag} {elts : List Expr} {kk : Nat} {tpos : Pos} (a e it : Addr) (hae : a ≠ e) (hai : a ≠ it) :
    Turn P w K (.Tuple elts kk tpos) (IteT K a) [e, it] e (fun i h => (∃ old, IsEnum h e it ((i : Nat) : Int) old) ∧ h.IsTupleIter it a i ∧ e ≠ it) where
  mem := by simp
  obj := fun i h st b hb => by
    obtain ⟨⟨old, he⟩, ⟨o, ho, hc, hd⟩, _⟩ := st
    have e' : b = e ∨ b = it := by simpa using hb
    rcases e' with z | z
    · rw [z]; exact ⟨_, he, fun v q => nomatch q⟩
    · rw [z]; exact ⟨o, ho, fun v q => by rw [hd] at q; cases q⟩
  keep := fun i h h' st k => let ⟨⟨old, he⟩, hi, hne⟩ := st; ⟨⟨old, k e (by simp) _ he⟩, hi.at fun o q => k it (by simp) o q, hne⟩
  item := by
    intro X hP hw hK hc i pins s σ H E I hf st hg
    subst hP hw hK
    obtain ⟨⟨old, he⟩, hit, hne⟩ := st
    obtain ⟨xs, x, hq, hx⟩ := hg
    obtain ⟨its, rv, p, hz⟩ := I.tuple hq
    obtain ⟨u, hu, ru⟩ := rv.get hx
    have hel : e < s.heap.objs.size := Heap.lt_size he
    have hil : it < s.heap.objs.size := by obtain ⟨_, q, _⟩ := hit; exact Heap.lt_size q
    have hT : s.heap.IsTuple a its.toArray := p
    have hi : i < its.length := (List.getElem?_eq_some_iff.mp hu).1
    refine wpAny_pyNext_enum_itemD (Draws.tuple (prog := X.prog) (w := X.w) (A := X.A.in1) (show X.A.in1.handled = none from I.ok.hd hc) it a hai its.toArray) he ⟨hit, hT⟩ (by simpa using hi) hne (by simp [hne, Ne.symm hae]) fun x' h' tk hx' ho hst' hT1 hsz hk => ?_
    have hxu : x' = u := by
      have h2 : its[i]? = some x' := by simpa using hx'
      rw [hu] at h2
      exact (Option.some.inj h2).symm
    subst hxu
    refine ⟨_, rfl, wpAny_letOwnedTupleGo_enum (s := { s with heap := h', toks := tk + 1 }) ho fun h'' he' sb => ?_⟩
    have hT2 : h''.get? s.heap.objs.size = some { cls := .type "tuple", data := .seq #[.int i tk, x'] } := (sb.2 _ (Nat.ne_of_gt hel)).trans hT1
    have new : ObjOk X.prog X.w (upd H s.heap.objs.size (.tup [.int (i : Nat), x])) h'' s.heap.objs.size (.tup [.int (i : Nat), x]) :=
      ⟨by show 2 ≤ sizeLine; decide, [.int i tk, x'], .cons ⟨_, rfl⟩ (.cons ru .nil), ⟨_, hT2, rfl, _, rfl⟩⟩
    have I1 : Inv X pins σ (upd H s.heap.objs.size (.tup [.int (i : Nat), x])) { s with heap := h'', toks := tk + 1 } :=
      I.turnedNew (ch := [e, it]) (fun b ob hb q => (sb.2 b (fun z => hb (by simp [z]))).trans (hk b ob (fun z => hb (by simp [z])) (fun z => hb (by simp [z])) q)) hf (Nat.le_refl _) new
    refine ⟨.ref s.heap.objs.size, _, I1, rfl, ⟨_, x, rfl, I.hok.fresh (Nat.le_refl _), rfl, fun ys hy => by rw [I.tuple_inj hy hq]; exact hx⟩, ⟨⟨x', ?_⟩, hst'.1.at fun o q => (sb.2 it (Ne.symm hne)).trans q, hne⟩, fun b hb => ?_⟩
    · have e1 : ((i + 1 : Nat) : Int) = (i : Int) + 1 := by omega
      rw [e1]; exact he'
    · have hb' : b < s.heap.objs.size := by
        have e' : b = e ∨ b = it := by simpa using hb
        rcases e' with z | z
        · rw [z]; exact hel
        · rw [z]; exact hil
      rw [upd_ne (Nat.ne_of_lt hb')]
      exact (hf b hb).1
  done := by
    intro X hP hw hK hc i pins s σ H E I hf st hg
    subst hP hw hK
    obtain ⟨⟨old, he⟩, hit, hne⟩ := st
    obtain ⟨xs, hq, hx⟩ := hg
    obtain ⟨its, rv, p, hz⟩ := I.tuple hq
    obtain ⟨f0, f1, f2, f3, f4, f5⟩ := hf it (by simp)
    have hl := rv.length
    have hT : s.heap.IsTuple a its.toArray := p
    have D : Draws X.prog X.w X.A.in1 it [it, a] i (fun i v => its.toArray[i]? = some v) (fun j h => j = i ∧ h.IsTupleIter it a i ∧ h.IsTuple a its.toArray) :=
      ⟨fun _ _ st => let ⟨o, ho, _⟩ := st.2.1; ⟨o, ho⟩, fun _ _ _ st hk => ⟨st.1, st.2.1.at fun o e => hk it (by simp) o e, st.2.2.at fun o e => hk a (by simp) o e⟩,
       fun j s Q E hj st hQ => (Nat.lt_irrefl _ (st.1 ▸ hj)).elim,
       fun s Q E st hE => wpAny_nextOf_tuple_end (show X.A.in1.handled = none from I.ok.hd hc) st.2.1 st.2.2 (by simp; omega) hE⟩
    exact wpAny_pyNext_enum_endD D he ⟨rfl, hit, hT⟩ fun h' eb => ⟨rfl, I.turned (t' := s.toks) (fun b o hb q => eb b o hb q) f0 f1 f3 f4 f5⟩
  self := fun A i s Q E st h => let ⟨⟨_, he⟩, _⟩ := st; wpAny_pyIter_enum he h
def iEnumA (K : PySem.W.Frag) (ta : TA) : TI := fun σ H R => ta σ H fun vs H1 => ∃ a xs, vs = [.ref a] ∧ ((SqL K H1 a xs ∧ R (Ite K a) H1) ∨ (SqT K H1 a xs ∧ R (IteT K a) H1))
theorem pi_enumA {X : Cx} {e : Expr} {ta : TA} {p pos tpos : Pos} {elts : List Expr} {kk : Nat} (hg : Gl X "enumerate") (hm : X.mg "enumerate" = none) (ha : PA X [e] ta) (hs : starEach [e] X.env = [(false, eval e X.env)] := by rfl) :
    PI X (.Tuple elts kk tpos) (.Call (.Name "enumerate" p) [e] [] pos) (iEnumA X.K ta) := by
  refine ⟨fun pins s σ H R I h => ?_⟩
  refine Call_ (ld_blt I hg hm boot_enumerate (PyProof.Rows.callWith_type1 (thn (ha.run pos pins s σ H _ I h) fun us s1 ⟨vs, H1, I1, r1, q1⟩ => ?_) hs rfl))
  obtain ⟨a, xs, ex, q⟩ := q1
  subst ex
  cases r1 with
  | cons r rr =>
    cases rr
    cases r
    have fresh2 : ∀ b, b ∈ [s1.heap.objs.size + 1, s1.heap.objs.size] → FpOk X pins H1 b := fun b hb => by
      have e' : b = s1.heap.objs.size + 1 ∨ b = s1.heap.objs.size := by simpa using hb
      have hle : s1.heap.objs.size ≤ b := by
        rcases e' with z | z
        · rw [z]; exact Nat.le_add_right _ _
        · rw [z]; exact Nat.le_refl _
      exact I1.fpOk hle (I1.hok.fresh hle)
    rcases q with ⟨hq, q⟩ | ⟨hq, q⟩
    · obtain ⟨its, rv, p', hz⟩ := I1.list hq
      refine call_enumerate_list p'.isList fun h' he hit hsz hk => wpAny_pyIter_enum he ?_
      have I2 : Inv X pins σ H1 { s1 with heap := h' } := I1.kept (t' := s1.toks) hk
      exact ⟨s1.heap.objs.size + 1, [s1.heap.objs.size + 1, s1.heap.objs.size], _, _, H1, rfl, I2, turn_enum a (s1.heap.objs.size + 1) s1.heap.objs.size, ⟨⟨.none, he⟩, hit, Nat.succ_ne_self _⟩, fresh2, q⟩
    · obtain ⟨its, rv, p', hz⟩ := I1.tuple hq
      have hT : s1.heap.IsTuple a its.toArray := p'
      have hlt : a < s1.heap.objs.size := by obtain ⟨o, ho, _⟩ := hT; exact Heap.lt_size ho
      refine enum_begins1 (begins_tuple a its.toArray) hT fun h' he hit hsz hk => wpAny_pyIter_enum he ?_
      have I2 : Inv X pins σ H1 { s1 with heap := h' } := I1.kept (t' := s1.toks) hk
      exact ⟨s1.heap.objs.size + 1, [s1.heap.objs.size + 1, s1.heap.objs.size], _, _, H1, rfl, I2, turn_enumT a (s1.heap.objs.size + 1) s1.heap.objs.size (Nat.ne_of_lt (Nat.lt_succ_of_lt hlt)) (Nat.ne_of_lt hlt), ⟨⟨.none, he⟩, ⟨_, hit, rfl, rfl⟩, Nat.succ_ne_self _⟩, fresh2, q⟩
def enumSrc (d : D) (S : Store) : Option Src := match lstSrc d S with
  | some s => some s
  | none => (rdT d).map fun ds => ⟨ds, []⟩
def mEnumA (ms : DSt → Store → Res (List D)) (σ : DSt) (S : Store) : Res Src := (ms σ S).bind fun ds S1 => match ds with
  | [d] => match enumSrc d S1 with
    | some src => .ok ⟨enumD 0 src.items, src.guard⟩ S1
    | none => .stuck
  | _ => .stuck
theorem pmi_enumA {X : Cx} {W : XW} {pos : Pos} {e : Expr} {ms : DSt → Store → Res (List D)} {p tpos : Pos} {elts : List Expr} {kk : Nat} (hg : Gl X "enumerate") (hm : X.mg "enumerate" = none) (ha : PMA X W [e] ms) (hs : starEach [e] X.env = [(false, eval e X.env)] := by rfl) :
    PMI X W (.Tuple elts kk tpos) (.Call (.Name "enumerate" p) [e] [] pos) (mEnumA ms) := by
  refine PI.imp (pi_enumA hg hm (PA.szd ha) hs) fun σ H R ⟨w, dσ, S, A, Rs, P⟩ => ⟨w, dσ, S, A, Rs, P.bind fun ds S1 w1 H1 vs e1 A1 r1 P1 szL szT => ?_⟩
  split at P1
  · split at P1
    · rename_i d _ src hs
      obtain ⟨v, rfl, r⟩ := reps1 r1
      unfold enumSrc at hs
      split at hs
      · rename_i s hs'
        cases hs
        obtain ⟨a, us, rfl, hq, ru, st⟩ := lst_st A1 hs' r
        refine ⟨a, us, rfl, .inl ⟨hq, P1.fin A1 ⟨fun w' H' S' i e' A' g => ?_, by show (enumD 0 src.items).length ≤ sizeLine; rw [enumD_len, ru.length]; exact szL a us hq⟩⟩⟩
        obtain ⟨us', hq', ru'⟩ := st w' H' S' e' A' g
        refine ⟨fun d' hd => ?_, fun hl => ⟨us', hq', ?_⟩⟩
        · obtain ⟨d'', h1, rfl⟩ := enumD_get hd
          obtain ⟨u, hu, ru''⟩ := ru'.get h1
          refine ⟨⟨us', u, hq', hu⟩, fun x H2 y => ?_⟩
          obtain ⟨T, x', rfl, hT, rfl, f⟩ := y
          have hx := f us' hq'
          rw [hu] at hx
          cases hx
          rw [Nat.zero_add]
          exact yldTup A' hT (of_int _) ru''
        · have : (enumD 0 src.items).length ≤ i := hl
          rw [enumD_len, ru'.length] at this
          exact this
      · simp only [Option.map_eq_some_iff] at hs
        obtain ⟨es, h1, rfl⟩ := hs
        obtain ⟨a, us, rfl, hq, ru, st⟩ := tup_st h1 r
        refine ⟨a, us, rfl, .inr ⟨hq, P1.fin A1 ⟨fun w' H' S' i e' A' g => ?_, by show (enumD 0 es).length ≤ sizeLine; rw [enumD_len, ru.length]; exact szT a us hq⟩⟩⟩
        obtain ⟨us', hq', ru'⟩ := st w' H' e'
        refine ⟨fun d' hd => ?_, fun hl => ⟨us', hq', ?_⟩⟩
        · obtain ⟨d'', h1, rfl⟩ := enumD_get hd
          obtain ⟨u, hu, ru''⟩ := ru'.get h1
          refine ⟨⟨us', u, hq', hu⟩, fun x H2 y => ?_⟩
          obtain ⟨T, x', rfl, hT, rfl, f⟩ := y
          have hx := f us' hq'
          rw [hu] at hx
          cases hx
          rw [Nat.zero_add]
          exact yldTup A' hT (of_int _) ru''
        · have : (enumD 0 es).length ≤ i := hl
          rw [enumD_len, ru'.length] at this
          exact this
    · exact P1.elim
  · exact P1.elim
theorem enumSrc_tup {ds : List D} {S : Store} : enumSrc (.tup ds) S = some ⟨ds, []⟩ := (rfl)
end L3
namespace L3
open PySem PySem.Spec PyProof.Rows L2
/-! ### is True, is False -/
def isBD (neg : Bool) (d e : D) (S : Store) : Res D := match d, e with
  | .bl a, .bl b => .ok (.bl (xor neg (decide (a = b)))) S
  | _, _ => .stuck
section
variable {X : Cx} {W : XW}
theorem od_isnotB : OpD X W (compareOp .IsNot) (isBD true) := by
  refine ⟨_, op_isnot_bl, fun w H S d e x y σ Q A rd re P => ?_⟩
  unfold isBD at P
  split at P
  · rw [Bool.true_xor] at P
    exact ⟨_, _, rep_bl rd, rep_bl re, P.fin A (of_bl _)⟩
  · exact P.elim
end
/-! ### d.pop(k), d.setdefault(k, v): keys that are tuples -/
section
variable {X : Cx} {W : XW}
def dropD {κ : Type} [DecidableEq κ] (kvs : List (κ × D)) (k : κ) : List (κ × D) := kvs.filter fun kv => decide (kv.1 ≠ k)
theorem RKv.drop {κ : Type} [DecidableEq κ] (k : κ) {K : PySem.W.Frag} {w : Wd} {H : Hp} : ∀ {kvs : List (κ × D)} {vs : List (κ × V)}, RKv K w H kvs vs → RKv K w H (dropD kvs k) (dropK vs k)
  | [], _, h => by simp only [RKv] at h; subst h; rfl
  | (j, d) :: kvs, _, h => by
    obtain ⟨v, us, rfl, h1, h2⟩ := h
    have ih := RKv.drop k h2
    unfold dropD at ih ⊢
    unfold dropK at ih ⊢
    by_cases e : j = k
    · rw [List.filter_cons_of_neg (by simp [e]), List.filter_cons_of_neg (by simp [e])]
      exact ih
    · rw [List.filter_cons_of_pos (by simp [e]), List.filter_cons_of_pos (by simp [e])]
      exact ⟨v, _, rfl, h1, ih⟩
end
end L3
namespace L3
open PySem PySem.Spec PyProof.Rows L2
section
variable {X : Cx} {W : XW}
end
section
variable {X : Cx} {W : XW}
end
end L3
namespace L3
open PySem PySem.Spec PyProof.Rows L2
/-! ### a dict compared with an empty one -/
section
variable {prog : Program} {w : World} {A : Around} {E : Value → Shared → Prop} {s : Shared}
end
section
variable {X : Cx} {W : XW}
end
end L3
namespace L3
open PySem PySem.Spec PyProof.Rows PySem.Calls L2
/-! ### list(..) and sorted(..) of a dict with tuple keys -/
section
variable {prog : Program} {w : World} {A : Around} {E : Value → Shared → Prop} {s : Shared} {Q : Value → Shared → Prop}
end
section
variable {X : Cx} {W : XW}
end
end L3
namespace L3
open PySem PySem.Spec PyProof.Rows L2
section
variable {P : Program} {w : World} {K : PySem.W.Frag} {mg : Str → Option Value} {base : Heap}
end
open Classical in
/-- what a call that raises has made and left behind may be forgotten, too -/
noncomputable def gcX (den : List D → Store → Res D) (ds : List D) (S : Store) : Res D := match den ds S with
  | .exc c fs S' => if fs = [] ∧ Kept S S' then .exc c [] (S'.take S.length) else .exc c fs S'
  | .ok _ _ => gcD den ds S
  | .stuck => .stuck
/-! ### calls of such defs -/
section
variable {X : Cx} {W : XW} {k n : Nat} {f : Addr} {fd : FuncData} {ps : List Str} {den : List D → Store → Res D} {x m : Str} {p pos apos : Pos} {e o : Expr} {es : List Expr}
/-- what the module says of an own exception class without an __init__ -/
structure ExcT (K : PySem.W.Frag) (C : Addr) : Prop where
  ex : PySem.W.excIn K C [.type "ValueError", .type "Exception", .type "BaseException", .type "object"] "ValueError.__new__" = true
  kp : PySem.W.keepIn K (.ref C) = true
  bs : PySem.W.subIn K (.ref C) (.type "BaseException") = some true
  ty : PySem.W.typeIn K (.ref C) = some (.type "type")
  ic : ExcC K C
def mRaise (c : Str) (σ : DSt) (S : Store) : Res Fl := .ok (.ex c [] σ) S
/-! ### try .. except X as n -/
/-- behind the suite the name is gone -/
def finT (i : Nat) : Res Fl → Res Fl
  | .ok (.nx σ2) S2 => .ok (.nx (σ2.set i none)) S2
  | .ok (.rt d) S2 => .ok (.rt d) S2
  | _ => .stuck
open Classical in
/-- whatever the exception's address is -/
noncomputable def suiteT (i : Nat) (m : Nat → DSt → Store → Res Fl) (σ : DSt) (S : Store) : Res Fl := if h : ∃ r, ∀ a, finT i (m a (σ.set i (some (.exn a))) S) = r then h.choose else .stuck
end
section
variable {X : Cx} {W : XW} {D a : Addr} {oe : Obj} {pn : List (Addr × Obj)} {i : Nat} {n tn : Str} {p p1 p2 pos : Pos} {b : Bool} {cv : Value}
end
end L3
namespace L3
open PySem PySem.Spec PyProof.Rows L2
section
variable {X : Cx} {W : XW}
end
end L3
namespace L3
open PySem PySem.Spec PyProof.Rows PySem.Calls L2
/-! ### a, b = a list of two -/
section
variable {X : Cx} {W : XW} {pos : Pos}
end
end L3
namespace L3
open PySem PySem.Spec PyProof.Rows PySem.Calls L2
/-! ### sorted(..) of a tuple -/
section
variable {prog : Program} {w : World} {A : Around} {E : Value → Shared → Prop} {s : Shared} {Q : Value → Shared → Prop}
end
open Classical in
noncomputable def sortedTD (ds : List D) (S : Store) : Res D := match ds with
  | [d] => match rdT d with
    | some es => if Srt es ∧ es.length ≤ sizeLine then .ok (.lst (es.mergeSort dLe)) S else .stuck
    | none => .stuck
  | _ => .stuck
end L3
namespace L2
open PySem PySem.Spec PyProof.Rows
end L2
namespace L3
open PySem PySem.Spec L2
section
variable {X : Cx} {W : XW}
end
end L3
set_option maxHeartbeats 4000000
namespace L2
open PySem PySem.Spec PyProof.Rows
section
variable {X : Cx}
end
end L2
namespace L3
open PySem PySem.Spec L2
section
variable {X : Cx} {W : XW}
end
end L3
namespace L2
open PySem PySem.Spec PyProof.Rows
section
variable {X : Cx} {pins : List (Addr × Obj)} {σ : St} {H : Hp} {s : Shared} {a : Addr} {y v : V} {u r : Value} {A : Around} {E : Value → Shared → Prop}
end
end L2
namespace L3
open PySem PySem.Spec L2
section
variable {X : Cx} {W : XW} {pos : Pos}
end
end L3
namespace L3
open PySem PySem.Spec L2
section
variable {X : Cx} {W : XW} {pos : Pos}
/-- a, b, c = x, y, z -/
def mPar3 (i j l : Nat) (ms : DSt → Store → Res (List D)) (σ : DSt) (S : Store) : Res Fl := liftE (ms σ S) σ fun ds S1 => match ds with
  | [a, b, c] => .ok (.nx (((σ.set i (some a)).set j (some b)).set l (some c))) S1
  | _ => .stuck
end
end L3
namespace L3
open PySem PySem.Spec PyProof.Rows L2
section
variable {P : Program} {w : World} {K : PySem.W.Frag} {mg : Str → Option Value} {base : Heap}
end
section
variable {X : Cx} {W : XW} {x f n : Str} {e : Expr} {p pos pos' : Pos} {C fI : Addr} {k : Nat} {fd : FuncData}
end
end L3
set_option maxHeartbeats 4000000
/-! ### isinstance of a caught exception that has its dict -/
namespace PySem.W
open PySem PySem.Spec PySem.Calls PyProof.Rows
section
variable {prog : Program} {w : World} {A : Around} {E : Value → Shared → Prop} {s : Shared} {K : Frag} {x D : Addr} {ox : Obj} {od : Option Obj}
end
end PySem.W
namespace L3
open PySem PySem.Spec PyProof.Rows L2
/-! ### a suite that holds an exception with its field -/
section
variable {X : Cx} {W : XW} {Cd a dd : Addr} {oe : Obj} {pn : List (Addr × Obj)} {i : Nat} {n tn f : Str} {p p1 p2 pos : Pos} {b : Bool} {cv : Value}
end
end L3
namespace L3
open PySem PySem.Spec PyProof.Rows L2
/-! ### try .. except X as n, where the exception may have a field -/
section
variable {X : Cx} {W : XW} {x : Str} {pos : Pos}
open Classical in
/-- whatever the exception's address is, and its dict's -/
noncomputable def suiteF (i : Nat) (f : Str) (z : Int) (m : Nat → Nat → DSt → Store → Res Fl) (σ : DSt) (S : Store) : Res Fl := if h : ∃ r, ∀ a dd, finT i (m a dd (σ.set i (some (.exf a dd f z))) S) = r then h.choose else .stuck
end
end L3
namespace L3
open PySem PySem.Spec PyProof.Rows L2
/-! ### set(x), by what its update leaves -/
abbrev setNew (w : World) : Obj := { cls := .type "set", dict := none, data := .set #[] 0 (.fresh 0 0 (!w.params.followText "set-order")) }
section
variable {prog : Program} {w : World} {A : Around} {E : Value → Shared → Prop} {s : Shared}
set_option maxHeartbeats 3200000 in
theorem set_call {x : Value} {R : Shared → Prop} {Q : Value → Shared → Prop}
    (up : ∀ E' : Value → Shared → Prop, wpAny (model prog w) A.in1.in1 (Builtin.Frozenset.updateFrom "set.__init__" s.heap.objs.size x) (fun _ s' => R s') E' { s with heap := s.heap.push (setNew w) })
    (fin : ∀ s', R s' → Q (.ref s.heap.objs.size) s') : wpAny (model prog w) A (call (.type "set") [x]) Q E s := by
  obtain ⟨cl, tl, mro⟩ := F.called_set.mro
  have made := F.called_set.made; have sb := F.called_set.sub
  have nt := F.called_set.notType; have cc := F.called_set.canCreate; have ct := F.typeCall_set_1 x
  refine wpAny_call (codeAny_of_tree (show wpAny _ _ (callAny (.type "set") _) _ _ _ from wpAny_pure ⟨Code.quiet_builtin _ (by decide +kernel), codeAny_builtin F.entry_type_call ?_⟩))
  rw [Around.under_plain (weight_type_call_type "set" [x] []) rfl]
  repeat (any_goals (first | assumption | wp_step))
  refine codeAny_mono (code_set_led1 x (E := E) (Q₁ := fun ob s1 => ob = .ref s.heap.objs.size ∧ s1 = { s with heap := s.heap.push (setNew w) }) ⟨rfl, rfl⟩) fun r s1 hr => ?_
  cases r with
  | error e => exact hr
  | ok fl =>
    cases fl with
    | ret ob =>
      obtain ⟨rfl, rfl⟩ := hr
      have ty : Shared.TypeIs { s with heap := s.heap.push (setNew w) } (.ref s.heap.objs.size) "set" := ⟨_, Heap.get?_push_size _ rfl, rfl⟩
      have ho : (s.heap.push (setNew w)).get? s.heap.objs.size = some (setNew w) := Heap.get?_push_size _ rfl
      have il := F.called_set.init.lookup; have ib := F.called_set.init.bind (.ref s.heap.objs.size)
      repeat (any_goals (first | assumption | wp_step))
      refine codeAny_mono (codeAny_call_builtin (R := wants (fun r s2 => r = .none ∧ R s2) E) F.called_set.init.plain F.entry_set_init (check_set_init_1 ty ?_)) fun r2 s2 hr2 => ?_
      · have u1 := up
        unfold Builtin.«set.__init__» noKeywords
        generalize hUF : Builtin.Frozenset.updateFrom = UF at u1 ⊢
        wp_walk
        exact wpAny_mono (u1 _) (fun _ s' h => wpAny_pure ⟨rfl, h⟩) fun _ _ h => h
      · cases r2 with
        | error e => exact hr2
        | ok f2 =>
          cases f2 with
          | ret r =>
            obtain ⟨rfl, hs2⟩ := hr2
            repeat (any_goals (first | assumption | wp_step))
            exact fin _ hs2
          | _ => exact hr2.elim
    | _ => exact hr.elim
end
/-! ### sets of texts -/
def keyX (e : Int × Value) : Str := match e.2 with | .str k _ => k | _ => Str.empty
def EntX (w : World) (e : Int × Value) : Prop := ∃ k tk, e.2 = Value.str k tk ∧ e.1 = hashStr w k
/-- the set at a holds the texts xs, in its table's order -/
def SetX (w : World) (h : Heap) (a : Addr) (xs : List Str) : Prop :=
  ∃ o es ep t, h.get? a = some o ∧ o.ExactSet ∧ o.data = .set es ep t ∧ (∀ e ∈ es.toList, EntX w e) ∧ es.toList.map keyX = xs ∧ xs.Nodup ∧ es.size < scanBound ∧ t.fits es.size = true ∧ Ris t.place.toList ∧ (w.params.followText "set-order" = true ∨ t.led = true)
section
variable {P : Program} {w : World} {A : Around} {E : Value → Shared → Prop} {s : Shared} {a : Addr} {xs : List Str}
theorem SetX.keep {h h' : Heap} (R : SetX w h a xs) (k : ∀ o, h.get? a = some o → h'.get? a = some o) : SetX w h' a xs := by
  obtain ⟨o, es, ep, t, ho, r⟩ := R
  exact ⟨o, es, ep, t, k o ho, r⟩
end
section
variable {X : Cx}
end
end L3
namespace L3
open PySem PySem.Spec PyProof.Rows L2
section
variable {P : Program} {w : World} {A : Around} {E : Value → Shared → Prop} {s : Shared}
end
section
variable {X : Cx}
end
section
variable {P : Program} {w : World} {A : Around} {E : Value → Shared → Prop} {s : Shared}
end
section
variable {K : PySem.W.Frag} {mg : Str → Option Value} {w : Wd} {H : Hp} {S : Store}
end
section
variable {X : Cx} {W : XW} {e : Expr} {p p2 q pos : Pos} {m : DSt → Store → Res D}
end
end L3
namespace L3
open PySem PySem.Spec PyProof.Rows L2
/-! ### {"a": x, "b": y, ..} -/
def zipK2 (ks : List Str) (ds : List D) : List (Key × D) := (ks.zip ds).map fun p => (.inr p.1, p.2)
def mDispK (ks : List Str) (ms : DSt → Store → Res (List D)) (σ : DSt) (S : Store) : Res D := (ms σ (S ++ [.dK []])).bind fun ds S1 => match S1[S.length]? with
  | some (.dK []) => if ds.length = ks.length ∧ ks.length ≤ 15 then .ok (.loc S.length) (S1.set S.length (.dK (mergeD [] (zipK2 ks ds)))) else .stuck
  | _ => .stuck
/-- the pairs of such a display -/
def PMD (X : Cx) (W : XW) (pos : Pos) (keys : List (Option Expr)) (values : List Expr) (ks : List Str) (m : DSt → Store → Res (List D)) : Prop :=
  ∃ trs, PPs X pos keys values trs ∧ ∀ σ H (Q : List (V × V) → Hp → Prop), (∃ w dσ S, Ab X.K w H X.mg S ∧ RSt X.K w H dσ σ ∧ Post X.K X.mg (Reps X.K) W σ w H (m dσ S) fun vs H' => Q ((ks.map V.str).zip vs) H') → tPairs trs σ H Q
section
variable {X : Cx} {W : XW} {pos : Pos}
theorem pmd_nil : PMD X W pos [] [] [] mNil := ⟨[], pps_nil, fun σ H Q ⟨w, dσ, S, A, R, P⟩ => P.fin A .nil⟩
theorem pmd_cons {k v : Expr} {keys : List (Option Expr)} {values : List Expr} {z : Str} {ks : List Str} {m : DSt → Store → Res D} {ms : DSt → Store → Res (List D)} (hk : PM X W k (mC (.str z))) (hv : PM X W v m) (hr : PMD X W pos keys values ks ms) :
    PMD X W pos (some k :: keys) (v :: values) (z :: ks) (mCons m ms) := by
  obtain ⟨trs, h1, h2⟩ := hr
  refine ⟨_, pps_cons hk hv h1, fun σ H Q ⟨w, dσ, S, A, R, P⟩ => ?_⟩
  refine ⟨w, dσ, S, A, R, fun w1 H1 x e1 A1 r1 => ⟨w1, dσ, S, A1, R.mono e1, Post.bind (P.ex e1) fun d S1 w2 H2 y e2 A2 r2 P1 => h2 σ H2 _ ⟨w2, dσ, S1, A2, (R.mono e1).mono e2, P1.bind fun ds S2 w3 H3 vs e3 A3 r3 P2 => ?_⟩⟩⟩
  have hx := rep_str r1
  subst hx
  exact P2.fin A3 (.cons (r2.mono e3) r3)
theorem rkv_zip {K : PySem.W.Frag} {w : Wd} {H : Hp} : ∀ {ks : List Str} {ds : List D} {vs : List V}, ds.length = ks.length → Reps K w H ds vs → RKv K w H (zipK2 ks ds) ((ks.zip vs).map fun p => ((.inr p.1 : Key), p.2))
  | [], [], _, _, h => by simp only [Reps] at h; subst h; rfl
  | k :: ks, d :: ds, _, hl, h => by
    simp only [Reps] at h
    obtain ⟨v, r, rfl, h1, h2⟩ := h
    exact ⟨v, _, rfl, h1, rkv_zip (by simpa using hl) h2⟩
theorem zip_kv : ∀ (ks : List Str) (vs : List V), (ks.map V.str).zip vs = ((ks.zip vs).map fun p => ((.inr p.1 : Key), p.2)).map fun kv => (kV kv.1, kv.2)
  | [], _ => rfl
  | _ :: _, [] => rfl
  | k :: ks, v :: vs => by
    rw [List.map_cons, List.zip_cons_cons, List.zip_cons_cons, List.map_cons, List.map_cons, zip_kv ks vs]
    rfl
theorem pm_dispK {keys : List (Option Expr)} {values : List Expr} {ks : List Str} {ms : DSt → Store → Res (List D)} (h : PMD X W pos keys values ks ms) (hall : keys.all (·.isSome) = true := by rfl) (hl : keys.length = values.length := by rfl) (h0 : keys ≠ [] := by exact List.cons_ne_nil _ _) (h15 : keys.length ≤ 15 := by decide) :
    PM X W (.Dict keys values pos) (mDispK ks ms) := by
  obtain ⟨trs, h1, h2⟩ := h
  refine PE.imp (pe_disp h1 hall hl h0 h15) fun σ H Q ⟨w, dσ, S, A, R, P⟩ p hp => ?_
  have A1 := A.newM hp (o := .dK []) (ob := .dK []) ⟨[], rfl, rfl⟩
  have rl : Rep X.K ⟨w.M ++ [p], w.B⟩ (upd H p (.dK [])) (.loc S.length) (.ref p) := Rep.locNew A
  refine h2 σ _ _ ⟨_, dσ, S ++ [.dK []], A1, R.mono (Ex.newM hp), (P.ex (Ex.newM hp)).bind fun ds S1 w1 H1 vs e1 A2 r1 P1 => ?_⟩
  have rl2 := rl.mono e1
  simp only [Rep] at rl2
  obtain ⟨a, el, ea⟩ := rl2
  cases ea
  have hmem : p ∈ w1.M := List.mem_of_getElem? el
  split at P1
  · rename_i q
    obtain ⟨u, eu, vs', rfl, r⟩ := A2.ob _ p _ el q
    have hvs : vs' = [] := List.eq_nil_of_length_eq_zero (by rw [← r.length]; rfl)
    subst hvs
    split at P1
    · rename_i hlen
      refine ⟨eu, _, zip_kv ks vs, by rw [List.length_map, List.length_zip]; omega, P1 w1 _ _ (Ex.wr hmem (nz_dK eu)) (A2.wr el (nz_dK eu) ⟨_, rfl, ?_⟩) ?_⟩
      · exact mergeK_rep (rkv_zip hlen.1 r1) (show RKv X.K w1 H1 ([] : List (Key × D)) [] from rfl)
      · simp only [Rep]
        exact ⟨p, el, rfl⟩
    · exact P1.elim
  · exact P1.elim
end
end L3
namespace L3
open PySem PySem.Spec PyProof.Rows L2
section
variable {X : Cx} {W : XW} {o e : Expr} {es : List Expr} {to : TE} {t : TA} {name : Str} {apos cpos : Pos} {id : String} {r : V → List V → Hp → VK → Prop}
end
end L3
namespace L3
open PySem PySem.Spec PyProof.Rows L2
section
variable {X : Cx} {W : XW}
end
end L3
namespace L3
open PySem PySem.Spec PyProof.Rows L2
section
variable {X : Cx} {W : XW}
/-! ### a tuple of anything == () -/
theorem tup_is {h : Heap} {a : Addr} {items : Array Value} (t : IsTup h a items) : h.IsTuple a items := t
theorem op_neT0 (hu : X.A.units + 64 < cLine) : OpR X (compareOp .NotEq) (fun x y H Q => ∃ a b xs, x = .ref a ∧ y = .ref b ∧ SqT X.K H a xs ∧ SqT X.K H b [] ∧ Q (.bl (!xs.isEmpty)) H) := fun pins s σ H x y v u Q I rx ry ⟨a, b, xs, e1, e2, t1, t2, q⟩ => by
  subst e1 e2
  obtain rfl : v = Value.ref a := rx
  obtain rfl : u = Value.ref b := ry
  obtain ⟨its, r1, p1, hz1⟩ := I.tuple t1
  obtain ⟨its2, r2, p2, hz2⟩ := I.tuple t2
  have h2 : its2 = [] := by
    have := r2.length
    cases its2 with
    | nil => rfl
    | cons _ _ => simp at this
  subst h2
  refine SeqAt.RcNeAt.tuples (e := fun _ => true) (tup_is p1) (tup_is p2) (by omega) (fun j h1 h2 => absurd h2 (by simp)) _ _ _ _ ⟨.bl (!xs.isEmpty), H, I, ?_, q⟩
  have hl := r1.length
  cases xs with
  | nil =>
    have : its = [] := by cases its with
      | nil => rfl
      | cons _ _ => simp at hl
    subst this
    rfl
  | cons x xs =>
    cases its with
    | nil => simp at hl
    | cons y ys =>
      show (_ : Value) = _
      simp
end
end L3
namespace L3
open PySem PySem.Spec PyProof.Rows L2
section
variable {X : Cx} {W : XW}
end
end L3
namespace L3
open PySem PySem.Spec PyProof.Rows L2
/-! ### min, max of a tuple of whole numbers -/
section
variable {X : Cx} {W : XW}
end
end L3
namespace L3
open PySem PySem.Spec PyProof.Rows L2
/-! ### dicts whose keys are tuples of tuples of whole numbers -/
def nkN (k : NK) : NestedKey := .tup (k.map fun t => .tup (t.map .num))
theorem num_inj : ∀ {a b : List Int}, a.map NestedKey.num = b.map NestedKey.num → a = b
  | [], [], _ => rfl
  | [], _ :: _, h => by simp at h
  | _ :: _, [], h => by simp at h
  | x :: a, y :: b, h => by
    simp only [List.map_cons, List.cons.injEq, NestedKey.num.injEq] at h
    rw [h.1, num_inj h.2]
theorem tups_inj : ∀ {a b : NK}, a.map (fun t => NestedKey.tup (t.map .num)) = b.map (fun t => NestedKey.tup (t.map .num)) → a = b
  | [], [], _ => rfl
  | [], _ :: _, h => by simp at h
  | _ :: _, [], h => by simp at h
  | x :: a, y :: b, h => by
    simp only [List.map_cons, List.cons.injEq, NestedKey.tup.injEq] at h
    rw [num_inj h.1, tups_inj h.2]
theorem nkN_inj {a b : NK} (h : nkN a = nkN b) : a = b := tups_inj (NestedKey.tup.inj h)
theorem hashes_num (w : World) : ∀ t : List Int, NestedKey.hashes w (t.map .num) = t.map hashInt
  | [] => rfl
  | _ :: t => by simp only [List.map_cons, NestedKey.hashes, NestedKey.hash, hashes_num w t]
theorem hashes_tup (w : World) : ∀ k : NK, NestedKey.hashes w (k.map fun t => .tup (t.map .num)) = k.map fun t => reduceHash (Builtin.Tuple.tupleHashOf (t.map hashInt))
  | [] => rfl
  | _ :: k => by simp only [List.map_cons, NestedKey.hashes, NestedKey.hash, hashes_num, hashes_tup w k]
theorem nkHash_eq (w : World) (k : NK) : (nkN k).hash w = nkHash k := by
  unfold nkN nkHash
  simp only [NestedKey.hash, hashes_tup]
theorem depth_num : ∀ t : List Int, NestedKey.depthAll (t.map .num) = 0
  | [] => rfl
  | _ :: t => by simp only [List.map_cons, NestedKey.depthAll, NestedKey.depth, depth_num t]; rfl
theorem nkN_depth (k : NK) : (nkN k).depth ≤ 8 := by
  have : ∀ k : NK, NestedKey.depthAll (k.map fun t => NestedKey.tup (t.map .num)) ≤ 1 := fun k => by
    induction k with
    | nil => exact Nat.zero_le _
    | cons t k ih =>
      simp only [List.map_cons, NestedKey.depthAll, NestedKey.depth, depth_num]
      omega
  unfold nkN
  simp only [NestedKey.depth]
  have := this k
  omega
/-- the kind of such keys -/
def nkKind (P : Program) (w : World) : HeapKind P w NK where
  is := fun h k a => (nestedKind P w).is h (nkN k) a
  hash := fun k => nkHash k
  draws := fun k => (nestedKind P w).draws (nkN k)
  room := fun A => (nestedKind P w).room A
  inj := fun hx hy => nkN_inj ((nestedKind P w).inj hx hy)
  keeps := fun x ho hd hs => (nestedKind P w).keeps x ho hd hs
  pyHash := fun {A E s k a Q} hu hk h => (nestedKind P w).pyHash hu hk (by
    show Q ((nkN k).hash w) _
    rw [nkHash_eq]
    exact h)
  eqBool := fun {A E s x y a b Q} hu hx hy h => (nestedKind P w).eqBool hu hx hy (by
    have : decide (nkN x = nkN y) = decide (x = y) := by
      rw [Bool.eq_iff_iff, decide_eq_true_eq, decide_eq_true_eq]
      exact ⟨nkN_inj, fun e => by rw [e]⟩
    rw [this]
    exact h)
  quiet := fun hk h => (nestedKind P w).quiet hk h
/-! ### where they lie -/
section
variable {P : Program} {W : World} {H : Hp} {h : Heap} {a b p : Addr} {K : PySem.W.Frag} {w : Wd}
theorem nest_ints : ∀ {t : List Int} {us : List V} {its : List Value}, Reps K w H (t.map D.int) us → Vals us its → NestedAll h (t.map .num) its
  | [], us, its, r, v => by
    simp only [List.map_nil, Reps] at r
    subst r
    cases v
    exact .nil
  | x :: t, us, its, r, v => by
    simp only [List.map_cons, Reps] at r
    obtain ⟨v1, r1, rfl, e1, r2⟩ := r
    have := rep_int e1
    subst this
    cases v with
    | cons q v =>
      obtain ⟨tk, rfl⟩ := q
      exact .cons (.int _ _) (nest_ints r2 v)
theorem nest_tup (ok : HOk P W H h) {t : List Int} {v : V} {u : Value} (r : Rep K w H (.tup (t.map D.int)) v) (q : RelV v u) : NestedIs h (.tup (t.map .num)) u := by
  obtain ⟨c, us, rfl, f, r2⟩ := tup_rep r
  obtain rfl : u = Value.ref c := q
  obtain ⟨_, its, r3, o, h1, h2, n, h3⟩ := (show ObjOk P W H h c (.tup us) from ok c _ f)
  exact .tup h1 h2 h3 (by simpa using nest_ints r2 r3)
theorem nest_tups (ok : HOk P W H h) : ∀ {k : NK} {us : List V} {its : List Value}, Reps K w H (k.map fun t => D.tup (t.map D.int)) us → Vals us its → NestedAll h (k.map fun t => NestedKey.tup (t.map .num)) its
  | [], us, its, r, v => by
    simp only [List.map_nil, Reps] at r
    subst r
    cases v
    exact .nil
  | x :: t, us, its, r, v => by
    simp only [List.map_cons, Reps] at r
    obtain ⟨v1, r1, rfl, e1, r2⟩ := r
    cases v with
    | cons q v => exact .cons (nest_tup ok e1 q) (nest_tups ok r2 v)
/-- such a tuple is a key -/
theorem nk_is (ok : HOk P W H h) {k : NK} (r : Rep K w H (nkD k) (.ref p)) : (nkKind P W).is h k p := by
  unfold nkD at r
  obtain ⟨c, us, e, f, r2⟩ := tup_rep r
  obtain rfl : p = c := V.ref.inj e
  obtain ⟨_, its, r3, o, h1, h2, n, h3⟩ := (show ObjOk P W H h p (.tup us) from ok p _ f)
  exact ⟨.tup h1 h2 h3 (by simpa using nest_tups ok r2 r3), nkN_depth k⟩
theorem nd_addr {xs : List (NK × Addr × Value)} (x : ObjOk P W H h b (NdO a xs)) : a = b := by
  apply Classical.byContradiction
  intro hn
  obtain ⟨⟨hs, o, es, ep, ho, hx, hd, he⟩, _, st⟩ := x
  have := st h (h.update a fun _ => { cls := .none, data := .fields #[] }) ⟨hs, o, es, ep, ho, hx, hd, he⟩ fun o q => by
    rw [Heap.get?_update_other _ _ hn]; exact q
  obtain ⟨_, o', es', ep', ho', hx', _⟩ := this
  rw [Heap.get?_update_self _ ho rfl] at ho'
  cases ho'
  exact nomatch hx'.1
theorem nd_new {H' : Hp} {xs : List (NK × Addr × Value)} (hs : (a == sysModules) = false) (hx : ∃ o es ep, h.get? a = some o ∧ o.ExactDict ∧ o.data = .dict es ep ∧ es.toList = xs.map entN) : ObjOk P W H' h a (NdO a xs) := by
  refine ⟨⟨hs, hx⟩, let ⟨o, _, _, e, _⟩ := hx; ⟨o, e⟩, fun h1 h2 ⟨_, o, es, ep, e, r⟩ k => ⟨hs, o, es, ep, k o e, r⟩⟩
theorem rnv_keys : ∀ {kvs : List (NK × D)} {xs : List (NK × Addr × Value)}, RNv K w H kvs xs → xs.map (·.1) = kvs.map (·.1)
  | [], xs, r => by simp only [RNv] at r; subst r; rfl
  | (k, d) :: kvs, xs, r => by
    obtain ⟨p, u, v, r', rfl, _, _, _, r4⟩ := r
    simp [rnv_keys r4]
theorem rnv_is (ok : HOk P W H h) : ∀ {kvs : List (NK × D)} {xs : List (NK × Addr × Value)}, RNv K w H kvs xs → ∀ x ∈ xs, (nkKind P W).is h x.1 x.2.1
  | [], xs, r, x, hx => by simp only [RNv] at r; subst r; exact (List.not_mem_nil hx).elim
  | (k, d) :: kvs, xs, r, x, hx => by
    obtain ⟨p, u, v, r', rfl, r1, _, _, r4⟩ := r
    rcases List.mem_cons.mp hx with rfl | hx
    · exact nk_is ok r1
    · exact rnv_is ok r4 x hx
/-- what is read as such a dict: it, or the empty one -/
def NdAt (K : PySem.W.Frag) (w : Wd) (H : Hp) (a : Addr) (kvs : List (NK × D)) (xs : List (NK × Addr × Value)) : Prop :=
  ((∃ b, Rd H a (NdO b xs)) ∨ (xs = [] ∧ Rd H a (.dT []))) ∧ RNv K w H kvs xs ∧ (kvs.map (·.1)).Nodup
theorem NdAt.of {kvs : List (NK × D)} {xs : List (NK × Addr × Value)} (r : NdAt K w H a kvs xs) (ok : HOk P W H h) : (a == sysModules) = false ∧ h.DictOfH (nkKind P W) a xs := by
  obtain ⟨r1, r2, r3⟩ := r
  have nd : (xs.map (·.1)).Nodup := by rw [rnv_keys r2]; exact r3
  rcases r1 with ⟨b, rd⟩ | ⟨rfl, rd⟩
  · have x := rd.ok ok
    have := nd_addr x
    subst this
    obtain ⟨⟨hs, o, es, ep, ho, hx, hd, he⟩, _⟩ := x
    exact ⟨hs, o, es, ep, ho, hx, hd, he, rnv_is ok r2, nd⟩
  · obtain ⟨z, hsys, ks, pr, o, es, ep, ho, hx, hdt, he, hn⟩ := (show ObjOk P W H h a (.dT []) from rd.ok ok)
    cases pr
    exact ⟨hsys, o, es, ep, ho, hx, hdt, he, fun _ h => (List.not_mem_nil h).elim, List.nodup_nil⟩
theorem rnv_len : ∀ {kvs : List (NK × D)} {xs : List (NK × Addr × Value)}, RNv K w H kvs xs → kvs.length = xs.length
  | [], xs, r => by simp only [RNv] at r; subst r; rfl
  | (k, d) :: kvs, xs, r => by
    obtain ⟨p, u, v, r', rfl, _, _, _, r4⟩ := r
    simp [rnv_len r4]
end
/-- the store's object as such a dict -/
def obN : Ob → Option (List (NK × D))
  | .dN kvs => some kvs
  | .lck (.dN kvs) => some kvs
  | .dT [] => some []
  | .lck (.dT []) => some []
  | _ => none
def nkInts : List D → Option (List Int)
  | [] => some []
  | .int i :: r => (nkInts r).map (i :: ·)
  | _ => none
def nkRows : List D → Option NK
  | [] => some []
  | .tup ds :: r => match nkInts ds, nkRows r with
    | some t, some k => some (t :: k)
    | _, _ => none
  | _ => none
def nkOf : D → Option NK
  | .tup ds => nkRows ds
  | _ => none
theorem nkInts_eq : ∀ {ds : List D} {t : List Int}, nkInts ds = some t → ds = t.map D.int
  | [], t, h => by simp only [nkInts, Option.some.injEq] at h; subst h; rfl
  | d :: ds, t, h => by
    cases d with
    | int i =>
      simp only [nkInts, Option.map_eq_some_iff] at h
      obtain ⟨r, h1, rfl⟩ := h
      rw [nkInts_eq h1]; rfl
    | _ => simp [nkInts] at h
theorem nkRows_eq : ∀ {ds : List D} {k : NK}, nkRows ds = some k → ds = k.map fun t => D.tup (t.map D.int)
  | [], k, h => by simp only [nkRows, Option.some.injEq] at h; subst h; rfl
  | d :: ds, k, h => by
    cases d with
    | tup es =>
      simp only [nkRows] at h
      split at h
      · rename_i t k' h1 h2
        cases h
        rw [nkInts_eq h1, nkRows_eq h2]; rfl
      · cases h
    | _ => simp [nkRows] at h
theorem nkOf_eq {d : D} {k : NK} (h : nkOf d = some k) : d = nkD k := by
  cases d with
  | tup ds =>
    unfold nkD
    rw [nkRows_eq (show nkRows ds = some k from h)]
  | _ => simp [nkOf] at h
section
variable {K : PySem.W.Frag} {mg : Str → Option Value} {w : Wd} {H : Hp} {S : Store}
def ndOf (S : Store) (d : D) : Option (List (NK × D)) := match d with
  | .loc l => match S[l]? with
    | some o => obN o
    | none => none
  | _ => none
theorem nk_ref {k : NK} {v : V} (r : Rep K w H (nkD k) v) : ∃ p, v = .ref p := by
  unfold nkD at r
  obtain ⟨a, _, e, _⟩ := tup_rep r
  exact ⟨a, e⟩
end
section
variable {X : Cx} {W : XW}
end
end L3
namespace L3
open PySem PySem.Spec PyProof.Rows PySem.Calls L2
/-- it may be written -/
def NdW (K : PySem.W.Frag) (w : Wd) (H : Hp) (a : Addr) (kvs : List (NK × D)) (xs : List (NK × Addr × Value)) : Prop :=
  ((∃ b, H a = some (NdO b xs)) ∨ (xs = [] ∧ H a = some (.dT []))) ∧ RNv K w H kvs xs ∧ (kvs.map (·.1)).Nodup
theorem NdW.at {K : PySem.W.Frag} {w : Wd} {H : Hp} {a : Addr} {kvs : List (NK × D)} {xs : List (NK × Addr × Value)} (h : NdW K w H a kvs xs) : NdAt K w H a kvs xs :=
  ⟨h.1.imp (fun ⟨b, e⟩ => ⟨b, .inl e⟩) fun ⟨e, z⟩ => ⟨e, .inl z⟩, h.2⟩
theorem NdW.mut {K : PySem.W.Frag} {w : Wd} {H : Hp} {a : Addr} {kvs : List (NK × D)} {xs : List (NK × Addr × Value)} (h : NdW K w H a kvs xs) : Mut (H a) := by
  rcases h.1 with ⟨b, e⟩ | ⟨_, e⟩ <;> rw [e] <;> exact True.intro
section
variable {X : Cx} {W : XW}
/-! ### {k: v} -/
theorem d_dictSetN {pins : List (Addr × Obj)} {σ : L2.St} {H : Hp} {s : Shared} {a p : Addr} {A : Around} {E : Value → Shared → Prop} {w : Wd} {kvs : List (NK × D)} {xs : List (NK × Addr × Value)} {k : NK} {r : Value} {Q : Unit → Shared → Prop} (hu : A.units + 64 < cLine) (I : L2.Inv X pins σ H s) (nd : NdW X.K w H a kvs xs) (rk : Rep X.K w H (nkD k) (.ref p)) (hl : kvs.length < sizeLine)
    (h : ∀ s', L2.Inv X pins σ (upd H a (NdO a (storedH xs k p r))) s' → Q () s') : wpAny (model X.prog X.w) A (dictSet a (.ref p) r) Q E s := by
  obtain ⟨hs, dd⟩ := nd.at.of I.hok
  refine wpAny_dictSet_heap (hsz := by have := rnv_len nd.2.1; omega) (show (nkKind X.prog X.w).room A from (by show A.units + 8 < cLine; omega)) (nk_is I.hok rk) dd fun h' dd' hsb => h _ ?_
  obtain ⟨o, es, ep, ho, hx, hd, he, _, _⟩ := dd'
  exact d_write I nd.mut hsb ⟨o, ho⟩ (nd_new hs ⟨o, es, ep, ho, hx, hd, he⟩)
def tDisp1N (K : PySem.W.Frag) (tk tv : TE) : TE := fun σ H Q => ∀ p, H p = none → tk σ (upd H p (.dT [])) fun x H1 => tv σ H1 fun y H2 => H2 p = some (.dT []) ∧ ∃ (w : Wd) (k : NK) (b : Addr), x = .ref b ∧ Rep K w H2 (nkD k) (.ref b) ∧ ∀ u, RelV y u → Q (.ref p) (upd H2 p (NdO p [(k, b, u)]))
theorem pe_disp1N {pos : Pos} {k v : Expr} {tk tv : TE} (hu : X.A.units + 64 < cLine) (hk : PE X k tk) (hv : PE X v tv) : PE X (.Dict [some k] [v] pos) (tDisp1N X.K tk tv) := by
  refine ⟨fun pins s σ H Q I q => ?_⟩
  have hn := I.hok.fresh (Nat.le_refl s.heap.objs.size)
  have I1 := I.laid (a := s.heap.objs.size) (o := .dT []) (h' := s.heap.push { cls := .type "dict", data := .dict #[] }) (t' := s.toks) (fun _ _ q => Heap.get?_push_of_some _ q) (Nat.le_refl _) (dt_empty s.heap I.big)
  refine wpAny_Dict_any rfl rfl (by simp) (by simp) ?_
  refine thn ((pps_cons hk hv pps_nil).run pins _ σ _ (fun ps H2 => match ps with
    | [(x, y)] => H2 s.heap.objs.size = some (.dT []) ∧ ∃ (w : Wd) (k : NK) (b : Addr), x = .ref b ∧ Rep X.K w H2 (nkD k) (.ref b) ∧ ∀ u, RelV y u → Q (.ref s.heap.objs.size) (upd H2 s.heap.objs.size (NdO s.heap.objs.size [(k, b, u)]))
    | _ => False) I1 (q _ hn)) fun ws s2 ⟨ps, H2, I2, rel, z⟩ => ?_
  match ps, z with
  | [(x, y)], ⟨e, w, kk, b, ex, eb, q2⟩ =>
    subst ex
    cases rel with
    | @cons p w2 _ _ h t =>
      cases t
      obtain ⟨u1, u2⟩ := w2
      obtain ⟨h1, h2⟩ := h
      cases (show u1 = Value.ref b from h1)
      unfold storeAll
      rw [List.forIn_cons]
      refine wpAny_bind (wpAny_bind (d_dictSetN (kvs := []) (xs := []) hu I2 ⟨.inr ⟨rfl, e⟩, rfl, List.nodup_nil⟩ eb (by simp [sizeLine_eq]) fun s3 I3 => wpAny_pure ?_))
      show wpAny _ _ (forIn [] PUnit.unit _) _ _ _
      rw [List.forIn_nil]
      exact wpAny_pure ⟨.ref s.heap.objs.size, _, I3, rfl, q2 u2 h2⟩
def mDisp1N (mk mv : DSt → Store → Res D) (σ : DSt) (S : Store) : Res D := (mk σ (S ++ [.dT []])).bind fun x S1 => (mv σ S1).bind fun y S2 => match S2[S.length]?, nkOf x with
  | some (.dT []), some k => .ok (.loc S.length) (S2.set S.length (.dN [(k, y)]))
  | _, _ => .stuck
theorem pm_disp1N {pos : Pos} {k v : Expr} {mk mv : DSt → Store → Res D} (hu : X.A.units + 64 < cLine) (hk : PM X W k mk) (hv : PM X W v mv) : PM X W (.Dict [some k] [v] pos) (mDisp1N mk mv) := by
  refine PE.imp (pe_disp1N hu hk hv) fun σ H Q ⟨w, dσ, S, A, R, P⟩ p hp => ?_
  have A1 := A.newM hp (o := .dT []) (ob := .dT []) ⟨[], rfl, rfl⟩
  have rl : Rep X.K ⟨w.M ++ [p], w.B⟩ (upd H p (.dT [])) (.loc S.length) (.ref p) := Rep.locNew A
  refine ⟨_, dσ, S ++ [.dT []], A1, R.mono (Ex.newM hp), (P.ex (Ex.newM hp)).bind fun x S1 w1 H1 xv e1 A2 r1 P1 => ⟨w1, dσ, S1, A2, (R.mono (Ex.newM hp)).mono e1, P1.bind fun y S2 w2 H2 yv e2 A3 r2 P2 => ?_⟩⟩
  have rl2 := (rl.mono e1).mono e2
  simp only [Rep] at rl2
  obtain ⟨a, el, ea⟩ := rl2
  cases ea
  have hmem : p ∈ w2.M := List.mem_of_getElem? el
  split at P2
  · rename_i kk q h2
    obtain ⟨u, eu, vs, rfl, r⟩ := A3.ob _ p _ el q
    have hvs : vs = [] := List.eq_nil_of_length_eq_zero (by rw [← r.length]; rfl)
    subst hvs
    have rk := r1.mono e2
    rw [nkOf_eq h2] at rk
    obtain ⟨b, rfl⟩ := nk_ref rk
    refine ⟨eu, w2, kk, b, rfl, rk, fun u ru => P2 w2 _ _ (Ex.wr hmem (nz_dT eu)) (A3.wr el (nz_dT eu) ⟨p, _, rfl, ⟨b, u, yv, [], rfl, rk, ru, r2, rfl⟩, by simp⟩) ?_⟩
    simp only [Rep]
    exact ⟨p, el, rfl⟩
  · exact P2.elim
end
section
variable {X : Cx} {W : XW}
end
end L3
namespace L3
open PySem PySem.Spec PyProof.Rows PySem.Calls L2
/-! ### sorted of a dict by its keys, a list of one thing, dict(pairs) with nested keys, its keys walked over -/
section
variable {X : Cx} {W : XW}
open Classical in
noncomputable def sortND (ds : List D) (S : Store) : Res D := match ds with
  | [d] => match ndOf S d with
    | some kvs => if Srt (kvs.map fun kv => nkD kv.1) ∧ kvs.length ≤ sizeLine then .ok (.lst ((kvs.map fun kv => nkD kv.1).mergeSort dLe)) S else .stuck
    | none => .stuck
  | _ => .stuck
def dtOf (S : Store) (d : D) : Option (List (List L2.Key × D)) := match d with
  | .loc l => match S[l]? with
    | some (.dT kvs) => some kvs
    | some (.lck (.dT kvs)) => some kvs
    | _ => none
  | _ => none
open Classical in
/-- sorted(d) of a dict with keys that are tuples of numbers and texts, of any lengths -/
noncomputable def sortTAD (ds : List D) (S : Store) : Res D := match ds with
  | [d] => match dtOf S d with
    | some kvs => if Srt (kvs.map fun kv => keysD kv.1) then .ok (.lst ((kvs.map fun kv => keysD kv.1).mergeSort dLe)) S else .stuck
    | none => .stuck
  | _ => .stuck
end
end L3
namespace L3
open PySem PySem.Spec PyProof.Rows PySem.Calls L2
/-! ### dict(pairs) with nested keys -/
structure EntN where
  p : Addr
  k : NK
  b : Addr
  v : V
section
variable {K : PySem.W.Frag} {w : Wd} {H : Hp}
end
section
variable {X : Cx} {pins : List (Addr × Obj)} {σ : L2.St} {H : Hp} {s : Shared} {w : Wd}
end
section
variable {X : Cx} {W : XW}
end
end L3
namespace L3
open PySem PySem.Spec PyProof.Rows PySem.Calls L2 PySem.W PySem.SeqAt
/-! ### sorted of tuples, empty ones among them -/
section
variable {prog : Program} {w : World} {A : Around} {E : Value → Shared → Prop} {s : Shared}
end
section
variable {M : Model} {A : Around} {E : Value → Shared → Prop} {s : Shared}
end
def Tups (ds : List PyData) : Prop := ∀ d, d ∈ ds → ∃ xs, d = .tuple xs
section
variable {prog : Program} {w : World} {A : Around} {s : Shared}
end
section
variable {prog : Program} {w : World} {A : Around} {E : Value → Shared → Prop} {s : Shared} {β : Type} {vs : List Value} {bs : List β} {enc : β → PyData} {R : Value → β → Prop}
end
/-! as called -/
/-- tuples that can be put in order -/
def SrtG (es : List D) : Prop := (∃ ps, toPys es = some ps) ∧ AllAlike (es.map encD) ∧ Tups (es.map encD) ∧ ∀ d ∈ es, (encD d).depth ≤ 60
open Classical in
/-- sorted of a list or a tuple of tuples of any lengths -/
noncomputable def sortGD (ds : List D) (S : Store) : Res D := match ds with
  | [d] => match rdL S d with
    | some es => if SrtG es ∧ es.length ≤ sizeLine then .ok (.lst (es.mergeSort dLe)) S else .stuck
    | none => match rdT d with
      | some es => if SrtG es ∧ es.length ≤ sizeLine then .ok (.lst (es.mergeSort dLe)) S else .stuck
      | none => .stuck
  | _ => .stuck
end L3
set_option maxHeartbeats 4000000
namespace L3
open PySem PySem.Spec PyProof.Rows L2
/-! ### an exception that is kept behind its handler -/
section
variable {X : Cx} {x n : Str} {c : Value} {i : Nat} {body suite : List Stmt} {b₀ : Stmt} {np pos pos' : Pos} {tb : WX → TS} {ts : Addr → Value → Option Addr → TS} {Wout : WX} {pins : List (Addr × Obj)} {σ : L2.St} {H : Hp} {s : Shared}
end
end L3
set_option maxHeartbeats 4000000
namespace L3
open PySem PySem.Spec PyProof.Rows L2
/-! ### try: .. except X as e: y = e; isinstance of what is kept -/
section
variable {X : Cx} {W : XW} {x n : Str} {pos : Pos} {K : PySem.W.Frag} {mg : Str → Option Value} {w : Wd} {H : Hp} {S : Store}
theorem RSt.keep {σ1 : DSt} {σ3 : L2.St} {i j : Nat} {d x y : L3.D} {v : V} (R : RSt K w H ((σ1.set i (some x)).set j (some y)) σ3) (hj : σ3[j]? = some (some v)) (r : Rep K w H d v) (hij : i ≠ j) (hl : j < σ1.length) : RSt K w H ((σ1.set j (some d)).set i none) (σ3.set i none) := by
  refine ⟨by simpa using R.1, fun k e hk => ?_⟩
  by_cases h1 : i = k
  · subst h1
    by_cases hi : i < σ1.length
    · rw [List.getElem?_set_self (by simpa using hi)] at hk
      cases hk
    · rw [List.getElem?_eq_none (by simpa using hi)] at hk
      cases hk
  · rw [List.getElem?_set_ne h1] at hk ⊢
    by_cases h2 : j = k
    · subst h2
      rw [List.getElem?_set_self hl] at hk
      cases hk
      exact ⟨v, hj, r⟩
    · rw [List.getElem?_set_ne h2] at hk
      exact R.2 k e (by rw [List.getElem?_set_ne h2, List.getElem?_set_ne h1]; exact hk)
end
end L3
set_option maxHeartbeats 4000000
namespace PySem
section
variable {prog : Program} {w : World} {K : Type} [DecidableEq K] {knd : HeapKind prog w K} {A : Around} {E : Value → Shared → Prop} {s : Shared}
end
end PySem
namespace L3
open PySem PySem.Spec L2 PyProof.Rows
/-! ### d.update(e), dict(d): keys that are places -/
def placeK : List Key → Bool
  | [.inl x, .inl y] => decide (0 ≤ x ∧ x < 12 ∧ 0 ≤ y ∧ y < 12)
  | _ => false
section
variable {X : Cx} {W : XW}
end
end L3
set_option maxHeartbeats 4000000
namespace L3
open PySem PySem.Spec L2 PyProof.Rows
/-! ### d.update(e), dict(d), dict(t) as readings -/
section
variable {X : Cx} {W : XW}
theorem RKv.keys {κ : Type} {K : PySem.W.Frag} {w : Wd} {H : Hp} : ∀ {ds : List (κ × D)} {vs : List (κ × V)}, RKv K w H ds vs → ds.map (·.1) = vs.map (·.1)
  | [], _, h => by simp only [RKv] at h; subst h; rfl
  | (k, d) :: ds, _, h => by
    simp only [RKv] at h
    obtain ⟨v, r, rfl, r1, r2⟩ := h
    simp [RKv.keys r2]
theorem RKv.place {K : PySem.W.Frag} {w : Wd} {H : Hp} {ds : List (List Key × D)} {vs : List (List Key × V)} (h : RKv K w H ds vs) (hp : ds.all (fun p => placeK p.1) = true) : ∀ p ∈ vs, placeK p.1 = true := fun p hp' => by
  have h1 : p.1 ∈ ds.map (·.1) := by rw [RKv.keys h]; exact List.mem_map_of_mem hp'
  obtain ⟨q, hq, e⟩ := List.mem_map.mp h1
  rw [← e]
  exact List.all_eq_true.mp hp q hq
end
end L3
namespace L3
open PySem PySem.Spec L2 PyProof.Rows
/-! ### xs.index(x), xs of plain data -/
section
variable {X : Cx} {W : XW}
end
end L3
set_option maxHeartbeats 4000000
namespace L3
open PySem PySem.Spec PyProof.Rows L2
/-! ### the field of an exception that is kept -/
section
variable {X : Cx} {W : XW} {K : PySem.W.Frag} {mg : Str → Option Value} {w : Wd} {H : Hp} {S : Store} {pos : Pos}
end
end L3
namespace L3
open PySem PySem.Spec L2
section
variable {X : Cx} {W : XW}
end
end L3
namespace L3
open PySem PySem.Spec L2 PyProof.Rows
/-! ### calls of defs that show something, where nothing is being shown -/
theorem FnG.imp {P : Program} {w : World} {K : PySem.W.Frag} {mg : Str → Option Value} {base : Heap} {k : Nat} {f : Addr} {fd : FuncData} {ps : List Str} {sp sp' : Sp} (F : FnG P w K mg base k f fd ps sp) (h : ∀ vs H Q E, sp' vs H Q E → sp vs H Q E) : FnG P w K mg base k f fd ps sp' :=
  ⟨fun us H Q E q => F.len us H Q E (h _ _ _ _ q), fun A fr s H args us vs Q E g hr he hb hv hs => F.run A fr s H args us vs Q E g hr he hb hv (h _ _ _ _ hs)⟩
section
variable {X : Cx} {W : XW} {k : Nat} {f : Addr} {fd : FuncData} {ps : List Str} {x : Str} {p pos : Pos} {e : Expr} {es : List Expr} {den : List D → Store → Res D} {n : Nat} {sp : Sp} {E : XK} {t : TA}
end
end L3
namespace L3
open PySem PySem.Spec PyProof.Rows L2
section
variable {X : Cx} {W : XW} {o e : Expr} {es : List Expr} {name : Str} {apos cpos : Pos}
end
end L3
namespace L3
open PySem PySem.Spec PyProof.Rows L2
end L3
namespace L3
open PySem PySem.Spec L2
/-- the first of the clauses that takes the class -/
inductive Rch (K : PySem.W.Frag) (cls : Value) : List (Value × (DSt → Store → Res Fl)) → (DSt → Store → Res Fl) → Prop
  | here {c : Value} {m : DSt → Store → Res Fl} {r : List (Value × (DSt → Store → Res Fl))} (h : PySem.W.exmOne K cls c = some true) : Rch K cls ((c, m) :: r) m
  | there {c : Value} {m m' : DSt → Store → Res Fl} {r : List (Value × (DSt → Store → Res Fl))} (h : PySem.W.exmOne K cls c = some false) (h' : Rch K cls r m) : Rch K cls ((c, m') :: r) m
inductive HdM (X : Cx) : List ExceptHandler → List (Value × (DSt → Store → Res Fl)) → Prop
  | nil : HdM X [] []
  | cons {x : Str} {c : Value} {m : DSt → Store → Res Fl} {b₀ : Stmt} {suite : List Stmt} {np pos' : Pos} {hds : List ExceptHandler} {l : List (Value × (DSt → Store → Res Fl))} (hc : Names X x c)
      (hsu : ∀ (a : Addr) (oe : Obj) (cls : Value) (d : Option Addr) (pn : List (Addr × Obj)), Zc cls d oe → (∃ vs, oe.data = .fields vs) → PMSs (X.suite a ((a, oe) :: pn)) W0 (b₀ :: suite) m) (r : HdM X hds l) :
      HdM X (.ExceptHandler (some (.Name x np)) none (b₀ :: suite) pos' :: hds) ((c, m) :: l)
abbrev hdT (K : PySem.W.Frag) (mg : Str → Option Value) (l : List (Value × (DSt → Store → Res Fl))) : List (Value × (Addr → Value → Option Addr → TS)) := l.map fun q => (q.1, fun _ _ _ => tOfS K mg W0 q.2)
theorem HdM.ok {X : Cx} {hds : List ExceptHandler} {l : List (Value × (DSt → Store → Res Fl))} (h : HdM X hds l) : HdsOk X hds (hdT X.K X.mg l) := by
  induction h with
  | nil => exact .nil
  | cons hc hsu r ih => exact .cons hc hsu ih
section
variable {X : Cx} {W : XW} {pos : Pos} {body : List Stmt} {h₀ : ExceptHandler} {hds : List ExceptHandler} {l : List (Str × (DSt → Store → Res Fl))} {lh : List (Value × (DSt → Store → Res Fl))} {mb : DSt → Store → Res Fl}
end
end L3
namespace L3
open PySem PySem.Spec PyProof.Rows L2
/-! ### == of two dicts with the same places and numbers -/
section
variable {prog : Program} {w : World} {K : Type} [DecidableEq K] {knd : HeapKind prog w K} {A : Around} {E : Value → Shared → Prop} {s : Shared}
end
section
variable {X : Cx} {W : XW}
def isIntD : D → Bool
  | .int _ => true
  | _ => false
open Classical in
/-- d == e of two dicts with the same places and numbers -/
noncomputable def eqTTD (d e : D) (S : Store) : Res D := match d, e with
  | .loc l, .loc m => match S[l]?, S[m]? with
    | some (.dT kvs), some (.dT us) => if kvs = us ∧ (kvs.all fun kv => isIntD kv.2) = true then .ok (.bl true) S else .stuck
    | _, _ => .stuck
  | _, _ => .stuck
end
theorem u2 {k : Nat} {A : Around} (r : Room k A) : A.units + 2 < cLine := by have := r.un; omega
end L3
namespace L3
open PySem PySem.Spec PyProof.Rows L2
section
variable {X : Cx} {W : XW} {pos : Pos}
/-- {k: v}, the key a whole number -/
def mDisp1I (mk mv : DSt → Store → Res D) (σ : DSt) (S : Store) : Res D := (mk σ (S ++ [.dK []])).bind fun x S1 => (mv σ S1).bind fun y S2 => match S2[S.length]?, x with
  | some (.dK []), .int i => .ok (.loc S.length) (S2.set S.length (.dK [(.inl i, y)]))
  | _, _ => .stuck
theorem pm_disp1I {k v : Expr} {mk mv : DSt → Store → Res D} (hk : PM X W k mk) (hv : PM X W v mv) : PM X W (.Dict [some k] [v] pos) (mDisp1I mk mv) := by
  refine PE.imp (pe_disp (pps_cons hk hv pps_nil) rfl rfl (by simp) (by simp)) fun σ H Q ⟨w, dσ, S, A, R, P⟩ p hp => ?_
  have A1 := A.newM hp (o := .dK []) (ob := .dK []) ⟨[], rfl, rfl⟩
  have rl : Rep X.K ⟨w.M ++ [p], w.B⟩ (upd H p (.dK [])) (.loc S.length) (.ref p) := Rep.locNew A
  refine ⟨_, dσ, S ++ [.dK []], A1, R.mono (Ex.newM hp), (P.ex (Ex.newM hp)).bind fun x S1 w1 H1 xv e1 A2 r1 P1 => ⟨w1, dσ, S1, A2, (R.mono (Ex.newM hp)).mono e1, P1.bind fun y S2 w2 H2 yv e2 A3 r2 P2 => ?_⟩⟩
  have rl2 := (rl.mono e1).mono e2
  simp only [Rep] at rl2
  obtain ⟨a, el, ea⟩ := rl2
  cases ea
  have hmem : p ∈ w2.M := List.mem_of_getElem? el
  split at P2
  · rename_i i q
    obtain ⟨u, eu, vs, rfl, r⟩ := A3.ob _ p _ el q
    have hvs : vs = [] := List.eq_nil_of_length_eq_zero (by rw [← r.length]; rfl)
    subst hvs
    have hx := rep_int r1
    subst hx
    refine ⟨eu, [(.inl i, yv)], rfl, by simp, P2 w2 _ _ (Ex.wr hmem (nz_dK eu)) (A3.wr el (nz_dK eu) ⟨_, rfl, ?_⟩) ?_⟩
    · have z := mergeK_rep (K := X.K) (w := w2) (H := H2) (ps := [((.inl i : Key), y)]) (acc := []) ⟨yv, [], rfl, r2, rfl⟩ rfl
      exact z
    · simp only [Rep]
      exact ⟨p, el, rfl⟩
  · exact P2.elim
end
end L3
namespace L3
open PySem PySem.Spec PyProof.Rows L2
/-! ### x != () for x of any kind -/
theorem dict_ne_declines_tuple (l b : Addr) (es : Array DictEntry) (ep : Nat) (items2 : Array Value) (n2 : Nat) (dd dd2 : Option Addr) (sl sl2 : Array (Option Value)) :
    Meets (Builtin.«dict.__ne__» ⟨[.ref l, .ref b], []⟩) (fun _ R s => s.heap.get? l = some { cls := .type "dict", dict := dd, data := .dict es ep, slots := sl } ∧ s.heap.get? b = some { cls := .type "tuple", dict := dd2, data := .seq items2 n2, slots := sl2 } ∧ R (.ok (.ret .notImplemented)) s) :=
  .of_wp fun prog w A R s h => by obtain ⟨hp, g, d, tk, os⟩ := s; obtain ⟨hl, hb, h⟩ := h; have f1 := F.sub_tuple_dict; wp_walk using wpAny_loadPart' hl, wpAny_loadPart' hb; exact ⟨_, rfl, h⟩
theorem tuple_ne_declines_dict (l b : Addr) (items : Array Value) (n : Nat) (es : Array DictEntry) (ep : Nat) (dd dd2 : Option Addr) (sl sl2 : Array (Option Value)) :
    Meets (Builtin.«tuple.__ne__» ⟨[.ref l, .ref b], []⟩) (fun _ R s => s.heap.get? l = some { cls := .type "tuple", dict := dd, data := .seq items n, slots := sl } ∧ s.heap.get? b = some { cls := .type "dict", dict := dd2, data := .dict es ep, slots := sl2 } ∧ R (.ok (.ret .notImplemented)) s) :=
  .of_wp fun prog w A R s h => by obtain ⟨hp, g, d, tk, os⟩ := s; obtain ⟨hl, hb, h⟩ := h; have f1 := F.sub_dict_tuple; wp_walk using wpAny_loadPart' hl, wpAny_loadPart' hb; exact ⟨_, rfl, h⟩
def IsDct (h : Heap) (a : Addr) : Prop := ∃ o es ep, h.get? a = some o ∧ o.cls = .type "dict" ∧ o.data = .dict es ep
theorem ne_dict_tuple {A : Around} {s : Shared} {l b : Addr} {items2 : Array Value} (hl : IsDct s.heap l) (hb : s.heap.IsTuple b items2) (hu : A.units < cLine) : SeqAt.RcNeAt A s (.ref l) (.ref b) true := fun prog w E Q h => by
  obtain ⟨⟨cls, dd, data, sl⟩, es, ep, ho, hc, hd⟩ := id hl
  obtain ⟨⟨cls2, dd2, data2, sl2⟩, ho2, hc2, n2, hd2⟩ := id hb
  simp only at hc hd hc2 hd2
  subst hc hd hc2 hd2
  have hne : l ≠ b := fun e => by
    subst e
    rw [ho] at ho2
    simp at ho2
  exact (SeqAt.rc_ne_decline_or (k := false) ⟨_, ho, rfl⟩ ⟨_, ho2, rfl⟩ (by decide) F.sub_tuple_dict F.slot_dict_ne F.slot_tuple_ne_refl
    (fun _ hq => call_meets F.slot_dict_ne ⟨_, ho, rfl⟩ F.entry_dict_ne (F.args_dict_ne_2 _ _) (dict_ne_declines_tuple l b es ep items2 n2 dd dd2 sl sl2) ⟨ho, ho2, hq⟩)
    (fun _ hq => call_meets F.slot_tuple_ne_refl ⟨_, ho2, rfl⟩ F.entry_tuple_ne (F.args_tuple_ne_2 _ _) (tuple_ne_declines_dict b l items2 n2 es ep dd2 dd sl2 sl) ⟨ho2, ho, hq⟩)
    (fun _ hq => wpAny_isSame_ref_other hne ho ho2 (by simp) hq) (.inr hu) h)
section
variable {X : Cx} {W : XW}
/-- a dict of the heap -/
def HDct (H : Hp) (a : Addr) : Prop := (∃ kvs, H a = some (.dK kvs)) ∨ (∃ kvs, H a = some (.dT kvs)) ∨ ∃ b xs, H a = some (NdO b xs)
theorem HDct.is {P : Program} {W : World} {H : Hp} {h : Heap} {a : Addr} (ok : HOk P W H h) (e : HDct H a) : IsDct h a := by
  rcases e with ⟨kvs, e⟩ | ⟨kvs, e⟩ | ⟨b, xs, e⟩
  · obtain ⟨_, _, vs, _, q, es, ep, hq, h2, h3, _⟩ := dk_of ok e
    exact ⟨q, es, ep, hq, h2.1, h3⟩
  · obtain ⟨_, _, vs, _, q, es, ep, hq, h2, h3, _⟩ := dt_of ok e
    exact ⟨q, es, ep, hq, h2.1, h3⟩
  · have x := ok a _ e
    have hb := nd_addr x
    subst hb
    obtain ⟨⟨_, o, es, ep, ho, hx, hd, _⟩, _⟩ := x
    exact ⟨o, es, ep, ho, hx.1, hd⟩
/-- a thing that is no tuple -/
def NoTup (K : PySem.W.Frag) (H : Hp) : V → Prop
  | .non => True
  | .bl _ => True
  | .int _ => True
  | .str _ => True
  | .ref a => (∃ xs, SqL K H a xs) ∨ HDct H a
  | _ => False
theorem op_neAny (hu : X.A.units + 64 < cLine) : OpR X (compareOp .NotEq) (fun x y H Q => ∃ b, y = .ref b ∧ SqT X.K H b [] ∧ ((∃ a xs, x = .ref a ∧ SqT X.K H a xs ∧ Q (.bl (!xs.isEmpty)) H) ∨ (NoTup X.K H x ∧ Q (.bl true) H))) := fun pins s σ H x y v u Q I rx ry ⟨b, e2, t2, q⟩ => by
  rcases q with ⟨a, xs, e1, t1, q⟩ | ⟨hn, q⟩
  · exact op_neT0 hu pins s σ H x y v u Q I rx ry ⟨a, b, xs, e1, e2, t1, t2, q⟩
  · subst e2
    obtain rfl : u = Value.ref b := ry
    obtain ⟨its2, r2, p2, hz2⟩ := I.tuple t2
    have hb := tup_is p2
    have fin : (fun v s => ∃ x H', Inv X pins σ H' s ∧ RelV x v ∧ Q x H') (.bool true) s := ⟨.bl true, H, I, rfl, q⟩
    cases x with
    | non =>
      obtain rfl : v = Value.none := rx
      exact SeqAt.RcNeAt.none_tuple hb (by omega) _ _ _ _ fin
    | bl z =>
      obtain rfl : v = Value.bool z := rx
      exact SeqAt.RcNeAt.bool_tuple z hb (by omega) _ _ _ _ fin
    | int i =>
      obtain ⟨t, rfl⟩ := rx
      exact SeqAt.RcNeAt.int_tuple i t hb (by omega) _ _ _ _ fin
    | str z =>
      obtain ⟨t, rfl⟩ := rx
      exact SeqAt.RcNeAt.str_tuple z t hb (by omega) _ _ _ _ fin
    | ref a =>
      obtain rfl : v = Value.ref a := rx
      rcases hn with ⟨xs, hx⟩ | hx
      · obtain ⟨its, r1, p1, hz1⟩ := I.list hx
        obtain ⟨o, n, e, e1, e3, e4⟩ := p1
        exact SeqAt.RcNeAt.list_tuple ⟨o, e, e1, n, e4⟩ hb (by omega) _ _ _ _ fin
      · exact ne_dict_tuple (hx.is I.hok) hb (by omega) _ _ _ _ fin
    | _ => exact hn.elim
/-- what x != () is, for x of any kind -/
def neAny (d e : D) (S : Store) : Res D := match e with
  | .tup [] => match d with
    | .tup ds => .ok (.bl (!ds.isEmpty)) S
    | .ktp ds => .ok (.bl (!ds.isEmpty)) S
    | .non => .ok (.bl true) S
    | .bl _ => .ok (.bl true) S
    | .int _ => .ok (.bl true) S
    | .str _ => .ok (.bl true) S
    | .lst _ => .ok (.bl true) S
    | .loc l => match S[l]? with
      | some (.dK _) => .ok (.bl true) S
      | some (.dT _) => .ok (.bl true) S
      | some (.dN _) => .ok (.bl true) S
      | _ => .stuck
    | _ => .stuck
  | _ => .stuck
theorem od_neAny (hu : X.A.units + 64 < cLine) : OpD X W (compareOp .NotEq) neAny := by
  refine ⟨_, op_neAny hu, fun w H S d e x y σ Q A rd re P => ?_⟩
  unfold neAny at P
  split at P
  · obtain ⟨b, us, rfl, g, r'⟩ := tup_rep re
    simp only [Reps] at r'
    subst r'
    refine ⟨b, rfl, .of g, ?_⟩
    split at P
    · rename_i ds
      obtain ⟨a, vs, rfl, f, r⟩ := tup_rep rd
      refine .inl ⟨a, vs, rfl, .of f, ?_⟩
      have : ds.isEmpty = vs.isEmpty := by
        have := r.length
        cases ds <;> cases vs <;> simp at this ⊢
      rw [← this]
      exact P.fin A (of_bl _)
    · rename_i ds
      obtain ⟨a, vs, rfl, f, r⟩ := rdT_rep (d := .ktp ds) rfl rd
      refine .inl ⟨a, vs, rfl, f, ?_⟩
      have : ds.isEmpty = vs.isEmpty := by
        have := r.length
        cases ds <;> cases vs <;> simp at this ⊢
      rw [← this]
      exact P.fin A (of_bl _)
    · simp only [Rep] at rd
      subst rd
      exact .inr ⟨trivial, P.fin A (of_bl _)⟩
    · simp only [Rep] at rd
      subst rd
      exact .inr ⟨trivial, P.fin A (of_bl _)⟩
    · simp only [Rep] at rd
      subst rd
      exact .inr ⟨trivial, P.fin A (of_bl _)⟩
    · simp only [Rep] at rd
      subst rd
      exact .inr ⟨trivial, P.fin A (of_bl _)⟩
    · simp only [Rep] at rd
      obtain ⟨a, vs, rfl, ⟨n, b2, f⟩, r⟩ := rd
      exact .inr ⟨.inl ⟨vs, .of f⟩, P.fin A (of_bl _)⟩
    · rename_i l
      simp only [Rep] at rd
      obtain ⟨a, el, rfl⟩ := rd
      split at P
      · rename_i kvs q
        obtain ⟨u, eu, vs, rfl, r⟩ := A.ob l a _ el q
        exact .inr ⟨.inr (.inl ⟨_, eu⟩), P.fin A (of_bl _)⟩
      · rename_i kvs q
        obtain ⟨u, eu, vs, rfl, r⟩ := A.ob l a _ el q
        exact .inr ⟨.inr (.inr (.inl ⟨_, eu⟩)), P.fin A (of_bl _)⟩
      · rename_i kvs q
        obtain ⟨u, eu, b2, xs, rfl, r⟩ := A.ob l a _ el q
        exact .inr ⟨.inr (.inr (.inr ⟨_, _, eu⟩)), P.fin A (of_bl _)⟩
      · exact P.elim
    · exact P.elim
  · exact P.elim
end
end L3
namespace L3
open PySem PySem.Spec PyProof.Rows L2
/-! ### isinstance of a dict with nested keys, too -/
def rIsiA (K : PySem.W.Frag) : List V → Hp → VK → Prop := fun xs H Q => rIsi K xs H Q ∨ ∃ (a : Addr) (c : V) (u : Value) (b : Bool), xs = [.ref a, c] ∧ ClsV c u ∧ HDct H a ∧ PySem.W.kitOne K (.type "dict") u = some b ∧ Q (.bl b) H
section
variable {X : Cx} {W : XW} {T : String} {e : Expr} {p pos : Pos}
theorem call_isiA : CallR X (.builtin "isinstance") (rIsiA X.K) := by
  intro pins s σ H xs us Q I r h
  rcases h with h | ⟨a, c, u, b, rfl, k, hd, e, q⟩
  · exact call_isi pins s σ H xs us Q I r h
  · obtain ⟨u1, u2, rfl, r1, r2⟩ := vals2 r
    have e2 := k.eq r2
    subst e2
    cases (show u1 = Value.ref a from r1)
    obtain ⟨o, es, ep, ho, hc, _⟩ := hd.is I.hok
    exact PySem.W.kia_one PySem.W.kitx_dict I.kIn ⟨o, ho, hc⟩ e (fun z => nomatch z) fun tk => ⟨.bl b, H, I.tok tk, rfl, q⟩
def isiAD (T : String) (d : D) (S : Store) : Res D := match d with
  | .loc l => match S[l]? with
    | some (.dN _) => match kitB "dict" T with
      | some b => .ok (.bl b) S
      | none => .stuck
    | _ => isiD T (.loc l) S
  | d => isiD T d S
theorem pm_isiA {m : DSt → Store → Res D} {tn : Str} {p2 : Pos} (hg : Gl X "isinstance") (hm : X.mg "isinstance" = none) (hv : bootBuiltins "isinstance" = some (.builtin "isinstance")) (ha : PM X W e m)
    (hg2 : Gl X tn) (hm2 : X.mg tn = none) (hv2 : bootBuiltins tn = some (.type T)) (hn2 : tn ≠ "__name__" := by decide) (hdb2 : (tn == ("__debug__" : Str)) = false := by decide)
    (he : starEach [e, .Name tn p2] X.env = (false, eval e X.env) :: starEach [.Name tn p2] X.env := by rfl) (hpl : (backTo pos (starEach [.Name tn p2] X.env)).any (·.1) = false := by rfl)
    (he2 : starEach [.Name tn p2] X.env = (false, eval (.Name tn p2) X.env) :: starEach [] X.env := by rfl) : PM X W (.Call (.Name "isinstance" p) [e, .Name tn p2] [] pos) (m1 m (isiAD T)) := by
  refine PE.imp (pe_callB call_isiA hg hm hv (pa_cons ha (pa_cons (pe_bltn hg2 hm2 hv2 (v := .ty T) rfl hn2 hdb2) pa_nil he2) he) (by decide) (by decide) he hpl) fun σ H Q ⟨w, dσ, S, A, R, P⟩ => ?_
  refine ⟨w, dσ, S, A, R, P.bind fun d S1 w1 H1 v e1 A1 r1 P1 => ?_⟩
  have old : ∀ d : D, Rep X.K w1 H1 d v → Post X.K X.mg (Rep X.K) W σ w1 H1 (isiD T d S1) Q → rIsiA X.K [v, .ty T] H1 Q := fun d r1 P1 => by
    unfold isiD at P1
    split at P1
    · rename_i n h1
      split at P1
      · rename_i b h2
        exact .inl ⟨v, .ty T, .type n, .type T, b, rfl, .ty T, tyName_rep A1 h1 r1, kit_ty h2, P1.fin A1 (of_bl _)⟩
      · exact P1.elim
    · exact P1.elim
  unfold isiAD at P1
  split at P1
  · rename_i l
    split at P1
    · rename_i kvs q
      simp only [Rep] at r1
      obtain ⟨a, el, rfl⟩ := r1
      obtain ⟨u, eu, b2, xs, rfl, r⟩ := A1.ob l a _ el q
      split at P1
      · rename_i b h2
        exact .inr ⟨a, .ty T, .type T, b, rfl, .ty T, .inr (.inr ⟨_, _, eu⟩), kit_ty h2, P1.fin A1 (of_bl _)⟩
      · exact P1.elim
    · exact old _ r1 P1
  · exact old _ r1 P1
end
end L3
namespace L3
open PySem PySem.Spec L2

/-! ### evaluation: what each reading gives at data that are there -/
section
variable {σ : DSt} {S : Store} {a b c : DSt → Store → Res D} {i j : Int} {x y : Str} {ds es : List D} {d e : D} {l n k : Nat}
@[simp] theorem e_seq (a b : DSt → Store → Res Fl) : mSeq a b σ S = thenS (a σ S) b := (rfl)
@[simp] theorem e_skip : mSkip σ S = .ok (.nx σ) S := (rfl)
@[simp] theorem e_do : mDo a σ S = liftE (a σ S) σ fun _ S1 => .ok (.nx σ) S1 := (rfl)
@[simp] theorem e_ret : mRet a σ S = liftE (a σ S) σ fun d S1 => .ok (.rt d) S1 := (rfl)
@[simp] theorem e_ifs (c : DSt → Store → Res Bool) (a b : DSt → Store → Res Fl) : mIfS c a b σ S = liftE (c σ S) σ fun x S1 => if x = true then a σ S1 else b σ S1 := (rfl)
@[simp] theorem e_set (i : Nat) : mSet i a σ S = liftE (a σ S) σ fun d S1 => .ok (.nx (σ.set i (some d))) S1 := (rfl)
@[simp] theorem e_asg (g : D → DSt → Store → Res DSt) : mAsg a g σ S = liftE (a σ S) σ fun d S1 => bindG (g d σ S1) fun σ2 S2 => .ok (.nx σ2) S2 := (rfl)
@[simp] theorem e_par (i j : Nat) (ms : DSt → Store → Res (List D)) : mPar i j ms σ S = liftE (ms σ S) σ fun ds S1 => match ds with
  | [a, b] => .ok (.nx ((σ.set i (some a)).set j (some b))) S1
  | _ => .stuck := (rfl)
@[simp] theorem e_for (mi : DSt → Store → Res Src) (g : D → DSt → Store → Res DSt) (b : DSt → Store → Res Fl) : mFor mi g b σ S = liftE (mi σ S) σ fun src S1 => forGo src.guard g b src.items σ S1 := (rfl)
@[simp] theorem e_lc (mi : DSt → Store → Res Src) (g : D → DSt → Store → Res DSt) (t : DSt → Store → Res Bool) (e : DSt → Store → Res D) (vs : List Nat) :
    mLc mi g t e vs σ S = (mi σ S).bind fun src S1 => bindG (lcGo src.guard g t e (dwipe σ vs) src.items S1) fun ys S2 => .ok (.lst ys) S2 := (rfl)
@[simp] theorem e_lcM (mi : DSt → Store → Res Src) (g : D → DSt → Store → Res DSt) (t : DSt → Store → Res Bool) (e : DSt → Store → Res D) (vs : List Nat) :
    mLcM mi g t e vs σ S = (mi σ S).bind fun src S1 => bindG (lcGo src.guard g t e (dwipe σ vs) src.items S1) fun ys S2 => .ok (.loc S2.length) (S2 ++ [.lst ys]) := (rfl)
@[simp] theorem e_C : mC d σ S = .ok d S := (rfl)
theorem e_var' (i : Nat) (h : σ[i]? = some (some d)) : mVar i σ S = .ok d S := by unfold mVar; rw [h]
@[simp] theorem e_var0 (o : DSt) : mVar 0 (some d :: o) S = .ok d S := (rfl)
@[simp] theorem e_varS (i : Nat) (z : Option D) (o : DSt) : mVar (i + 1) (z :: o) S = mVar i o S := by simp [mVar]
@[simp] theorem e_m2 (f : D → D → Store → Res D) : m2 a b f σ S = (a σ S).bind fun x S1 => (b σ S1).bind fun y S2 => f x y S2 := (rfl)
@[simp] theorem e_m1 (f : D → Store → Res D) : m1 a f σ S = (a σ S).bind fun x S1 => f x S1 := (rfl)
@[simp] theorem e_nil : mNil σ S = .ok [] S := (rfl)
@[simp] theorem e_cons (ms : DSt → Store → Res (List D)) : mCons a ms σ S = (a σ S).bind fun d S1 => (ms σ S1).bind fun ds S2 => .ok (d :: ds) S2 := (rfl)
@[simp] theorem e_tup (ms : DSt → Store → Res (List D)) : mTup ms σ S = (ms σ S).bind fun ds S1 => if ds.length ≤ sizeLine then .ok (.tup ds) S1 else .stuck := (rfl)
@[simp] theorem e_lst (ms : DSt → Store → Res (List D)) : mLst ms σ S = (ms σ S).bind fun ds S1 => if ds.length ≤ sizeLine then .ok (.lst ds) S1 else .stuck := (rfl)
@[simp] theorem e_lstM (ms : DSt → Store → Res (List D)) : mLstM ms σ S = (ms σ S).bind fun ds S1 => if ds.length ≤ sizeLine then .ok (.loc S1.length) (S1 ++ [.lst ds]) else .stuck := (rfl)
@[simp] theorem e_andT (a b : DSt → Store → Res Bool) : mAndT a b σ S = (a σ S).bind fun x S1 => if x = true then b σ S1 else .ok false S1 := (rfl)
@[simp] theorem e_orT (a b : DSt → Store → Res Bool) : mOrT a b σ S = (a σ S).bind fun x S1 => if x = true then .ok true S1 else b σ S1 := (rfl)
@[simp] theorem e_notT (a : DSt → Store → Res Bool) : mNotT a σ S = (a σ S).bind fun x S1 => .ok (!x) S1 := (rfl)
/-- and, or, not of two values -/
def andK (x : D) (S : Store) (r : Res D) : Res D := match x with
  | .bl true => r
  | .bl false => .ok (.bl false) S
  | _ => .stuck
def orK (x : D) (S : Store) (r : Res D) : Res D := match x with
  | .bl true => .ok (.bl true) S
  | .bl false => r
  | _ => .stuck
@[simp] theorem e_andV : mAndV a b σ S = (a σ S).bind fun x S1 => andK x S1 (b σ S1) := (rfl)
@[simp] theorem e_orV : mOrV a b σ S = (a σ S).bind fun x S1 => orK x S1 (b σ S1) := (rfl)
@[simp] theorem andK_bl (t : Bool) (r : Res D) : andK (.bl t) S r = if t = true then r else .ok (.bl false) S := by cases t <;> rfl
@[simp] theorem orK_bl (t : Bool) (r : Res D) : orK (.bl t) S r = if t = true then .ok (.bl true) S else r := by cases t <;> rfl
def notK (x : D) (S : Store) : Res D := match x with
  | .bl k => .ok (.bl (!k)) S
  | _ => .stuck
@[simp] theorem e_notV : mNotV a σ S = (a σ S).bind fun x S1 => notK x S1 := (rfl)
@[simp] theorem notK_bl (t : Bool) : notK (.bl t) S = .ok (.bl (!t)) S := (rfl)
@[simp] theorem e_if (c : DSt → Store → Res Bool) : mIf c a b σ S = (c σ S).bind fun x S1 => if x = true then a σ S1 else b σ S1 := (rfl)
def negK (x : D) (S : Store) : Res D := match x with
  | .int i => .ok (.int (-i)) S
  | _ => .stuck
@[simp] theorem e_neg : mNeg a σ S = (a σ S).bind fun x S1 => negK x S1 := (rfl)
@[simp] theorem negK_int : negK (.int i) S = .ok (.int (-i)) S := (rfl)
def chK (z : D) (S : Store) (r : Res D) : Res D := match z with
  | .bl true => r
  | .bl false => .ok (.bl false) S
  | _ => .stuck
@[simp] theorem chK_bl (t : Bool) (r : Res D) : chK (.bl t) S r = if t = true then r else .ok (.bl false) S := by cases t <;> rfl
@[simp] theorem e_ch (f g : D → D → Store → Res D) : mCh a b c f g σ S = (a σ S).bind fun x S1 => (b σ S1).bind fun y S2 => (f x y S2).bind fun z S3 => chK z S3 ((c σ S3).bind fun w S4 => g y w S4) := by
  rfl
def truK (x : D) (S : Store) : Res Bool := match x with
  | .bl t => .ok t S
  | _ => .stuck
@[simp] theorem truK_bl (t : Bool) : truK (.bl t) S = .ok t S := (rfl)
@[simp] theorem e_cb (g : List D → Store → Res D) (ms : DSt → Store → Res (List D)) : mCB g ms σ S = (ms σ S).bind fun ds S1 => g ds S1 := (rfl)
@[simp] theorem e_call (n : Nat) (den : List D → Store → Res D) (ms : DSt → Store → Res (List D)) : mCall n den ms σ S = (ms σ S).bind fun ds S1 => if ds.length = n then noX (den ds S1) else .stuck := (rfl)
@[simp] theorem e_bm (T : String) (g : D → List D → Store → Res D) (ms : DSt → Store → Res (List D)) : mBM T g a ms σ S = (a σ S).bind fun d S1 => if tyOk T S1 d = true then (ms σ S1).bind fun ds S2 => g d ds S2 else .stuck := (rfl)
@[simp] theorem e_gname (i : Nat) : gtName i d σ S = .ok (σ.set i (some d)) S := (rfl)
@[simp] theorem e_gnil : gtNil [] σ S = .ok σ S := (rfl)
@[simp] theorem e_gcons (f : D → DSt → Store → Res DSt) (g : List D → DSt → Store → Res DSt) : gtCons f g (d :: ds) σ S = bindG (f d σ S) fun σ1 S1 => g ds σ1 S1 := (rfl)
@[simp] theorem e_gtup (n : Nat) (g : List D → DSt → Store → Res DSt) : gtTup n g (.tup ds) σ S = if ds.length = n then g ds σ S else .stuck := (rfl)
@[simp] theorem e_gktp (n : Nat) (g : List D → DSt → Store → Res DSt) : gtTup n g (.ktp ds) σ S = if ds.length = n then g ds σ S else .stuck := (rfl)
@[simp] theorem e_gsub (f : D → D → D → Store → Res Unit) : gtSub a b f d σ S = bindG (a σ S) fun o S1 => bindG (b σ S1) fun i S2 => bindG (f o i d S2) fun _ S3 => .ok σ S3 := (rfl)
def srcK (o : Option Src) (S : Store) : Res Src := match o with
  | some s => .ok s S
  | none => .stuck
@[simp] theorem e_seqi : mSeqI a σ S = (a σ S).bind fun d S1 => srcK (seqSrc d S1) S1 := (rfl)
@[simp] theorem srcK_some (s : Src) : srcK (some s) S = .ok s S := (rfl)
@[simp] theorem seqSrc_str : seqSrc (.str x) S = if x.length ≤ sizeLine then some ⟨signsOf x, []⟩ else none := (rfl)
@[simp] theorem seqSrc_tup : seqSrc (.tup ds) S = some ⟨ds, []⟩ := (rfl)
@[simp] theorem seqSrc_ktp : seqSrc (.ktp ds) S = some ⟨ds, []⟩ := (rfl)
@[simp] theorem seqSrc_lst : seqSrc (.lst ds) S = some ⟨ds, []⟩ := (rfl)
@[simp] theorem seqSrc_frz : seqSrc (.frz ds) S = some ⟨ds, []⟩ := (rfl)
theorem seqSrc_loc (h : S[l]? = some (.lst ds)) : seqSrc (.loc l) S = some ⟨ds, [(l, .lst ds)]⟩ := by simp [seqSrc, h]
@[simp] theorem lstSrc_lst : lstSrc (.lst ds) S = some ⟨ds, []⟩ := (rfl)
@[simp] theorem lstSrc_frz : lstSrc (.frz ds) S = some ⟨ds, []⟩ := (rfl)
def rng1K (ds : List D) (S : Store) : Res Src := match ds with
  | [.int j] => if j ≤ sizeLine ∧ -(2 ^ 62) ≤ j then .ok ⟨rangeD 0 1 j.toNat, []⟩ S else .stuck
  | _ => .stuck
@[simp] theorem e_rng1 (ms : DSt → Store → Res (List D)) : mRng1 ms σ S = (ms σ S).bind fun ds S1 => rng1K ds S1 := (rfl)
theorem rng1K_int (h : j ≤ sizeLine) (h0 : -(2 ^ 62) ≤ j) : rng1K [.int j] S = .ok ⟨rangeD 0 1 j.toNat, []⟩ S := if_pos ⟨h, h0⟩
theorem rng1K_nat (h : n ≤ sizeLine) : rng1K [.int n] S = .ok ⟨rangeD 0 1 n, []⟩ S := by
  have := rng1K_int (S := S) (j := (n : Int)) (by omega) (by omega)
  simpa using this
def rng2K (ds : List D) (S : Store) : Res Src := match ds with
  | [.int i, .int j] => if -(2 ^ 62) ≤ i ∧ i < 2 ^ 62 ∧ -(2 ^ 62) ≤ j ∧ j < 2 ^ 62 ∧ (j - i).toNat ≤ sizeLine then .ok ⟨rangeD i 1 (j - i).toNat, []⟩ S else .stuck
  | _ => .stuck
@[simp] theorem e_rng2 (ms : DSt → Store → Res (List D)) : mRng2 ms σ S = (ms σ S).bind fun ds S1 => rng2K ds S1 := (rfl)
def rng3K (ds : List D) (S : Store) : Res Src := match ds with
  | [.int i, .int j, .int c] => if c = -1 ∧ -(2 ^ 62) ≤ i ∧ i < 2 ^ 62 ∧ -(2 ^ 62) ≤ j ∧ j < 2 ^ 62 ∧ (i - j).toNat ≤ sizeLine then .ok ⟨rangeD i (-1) (i - j).toNat, []⟩ S else .stuck
  | _ => .stuck
@[simp] theorem e_rng3 (ms : DSt → Store → Res (List D)) : mRng3 ms σ S = (ms σ S).bind fun ds S1 => rng3K ds S1 := (rfl)
def enumK (ds : List D) (S : Store) : Res Src := match ds with
  | [d] => match lstSrc d S with
    | some src => .ok ⟨enumD 0 src.items, src.guard⟩ S
    | none => .stuck
  | _ => .stuck
@[simp] theorem e_enum (ms : DSt → Store → Res (List D)) : mEnum ms σ S = (ms σ S).bind fun ds S1 => enumK ds S1 := (rfl)
@[simp] theorem enumK_lst : enumK [.lst ds] S = .ok ⟨enumD 0 ds, []⟩ S := (rfl)
@[simp] theorem enumK_frz : enumK [.frz ds] S = .ok ⟨enumD 0 ds, []⟩ S := (rfl)
def partK (d : D) (S : Store) : Res (Option Int) := match d with
  | .int i => .ok (some i) S
  | _ => .stuck
@[simp] theorem e_part : mPart a σ S = (a σ S).bind fun d S1 => partK d S1 := (rfl)
@[simp] theorem partK_int : partK (.int i) S = .ok (some i) S := (rfl)
@[simp] theorem e_nopart : mNoPart σ S = .ok none S := (rfl)
@[simp] theorem e_sl (ml mh : DSt → Store → Res (Option Int)) : mSl a ml mh σ S = (a σ S).bind fun d S1 => (ml σ S1).bind fun lo S2 => (mh σ S2).bind fun hi S3 => sliceD d lo hi S3 := (rfl)
@[simp] theorem e_sl_str (lo hi : Option Int) : sliceD (.str x) lo hi S = if x.length ≤ sizeLine then .ok (.str (cutS x lo hi)) S else .stuck := (rfl)
@[simp] theorem e_sl_tup (lo hi : Option Int) : sliceD (.tup ds) lo hi S = .ok (.tup (L3.cut ds lo hi)) S := (rfl)
@[simp] theorem e_sl_lst (lo hi : Option Int) : sliceD (.lst ds) lo hi S = .ok (.lst (L3.cut ds lo hi)) S := (rfl)
@[simp] theorem e_sl_frz (lo hi : Option Int) : sliceD (.frz ds) lo hi S = .ok (.lst (L3.cut ds lo hi)) S := (rfl)
@[simp] theorem e_add : addD (.int i) (.int j) S = .ok (.int (i + j)) S := (rfl)
@[simp] theorem e_addS : addD (.str x) (.str y) S = if x.length + y.length ≤ sizeLine then .ok (.str (x ++ y)) S else .stuck := (rfl)
@[simp] theorem e_addT : addD (.tup ds) (.tup es) S = if ds.length + es.length ≤ sizeLine then .ok (.tup (ds ++ es)) S else .stuck := (rfl)
@[simp] theorem e_addL : addD (.lst ds) (.lst es) S = if ds.length + es.length ≤ sizeLine then .ok (.lst (ds ++ es)) S else .stuck := (rfl)
@[simp] theorem e_sub : subD (.int i) (.int j) S = .ok (.int (i - j)) S := (rfl)
@[simp] theorem e_mul : mulX (.int i) (.int j) S = if CMul i j ∨ CMulW i j then .ok (.int (i * j)) S else .stuck := (rfl)
@[simp] theorem e_mulS : mulX (.str x) (.int i) S = if -(2 ^ 63) ≤ i ∧ i < 2 ^ 63 ∧ x.length * i.toNat ≤ 16777216 then .ok (.str (repS x i.toNat)) S else .stuck := (rfl)
@[simp] theorem e_fdiv : fdivD (.int i) (.int j) S = if CDivW i j then .ok (.int (i / j)) S else .stuck := (rfl)
@[simp] theorem e_mod : modD (.int i) (.int j) S = if 0 < j then .ok (.int (i % j)) S else .stuck := (rfl)
@[simp] theorem e_pow : powD (.int i) (.int j) S = if CPowX i j then .ok (.int (i ^ j.toNat)) S else .stuck := (rfl)
@[simp] theorem e_lt : ltD (.int i) (.int j) S = .ok (.bl (decide (i < j))) S := (rfl)
@[simp] theorem e_cmp (p : Int → Int → Bool) : cmpI p (.int i) (.int j) S = .ok (.bl (p i j)) S := (rfl)
@[simp] theorem e_eqI (n : Bool) : eqD n (.int i) (.int j) S = .ok (.bl (xor n (decide (i = j)))) S := by
  have : eqD n (.int i) (.int j) S = .ok (.bl (xor n (i == j))) S := by
    simp only [eqD, pyS, toPy]
    rw [if_pos ⟨rfl, rfl⟩]
    rfl
  rw [this]
  have : (i == j) = decide (i = j) := by rw [Bool.eq_iff_iff]; simp
  rw [this]
@[simp] theorem e_isN : isND false .non .non S = .ok (.bl true) S := (rfl)
def chr (c : Nat) : D := .str ⟨#[c]⟩
def ixS (o : Option Nat) (S : Store) : Res D := match o with
  | some c => .ok (.str ⟨#[c]⟩) S
  | none => .stuck
@[simp] theorem ixS_some (c : Nat) : ixS (some c) S = .ok (chr c) S := (rfl)
@[simp] theorem e_ix_str : ixD (.str x) (.int i) S = if x.length ≤ sizeLine then ixS (atI x.cps.toList i) S else .stuck := (rfl)
def atK (o : Option D) (S : Store) : Res D := match o with
  | some e => .ok e S
  | none => .stuck
@[simp] theorem atK_some : atK (some d) S = .ok d S := (rfl)
@[simp] theorem e_ix_tup : ixD (.tup ds) (.int i) S = atK (atI ds i) S := (rfl)
@[simp] theorem e_ix_ktp : ixD (.ktp ds) (.int i) S = atK (atI ds i) S := (rfl)
@[simp] theorem e_ix_lst : ixD (.lst ds) (.int i) S = atK (atI ds i) S := (rfl)
@[simp] theorem e_ix_frz : ixD (.frz ds) (.int i) S = atK (atI ds i) S := (rfl)
theorem e_ix_loc (h : S[l]? = some (.lst ds)) : ixD (.loc l) (.int i) S = atK (atI ds i) S := by
  simp only [ixD, seqOf, rdL, exL, h]
  rfl
theorem atI_nn {α : Type} {xs : List α} (h : 0 ≤ i) : atI xs i = xs[i.toNat]? := by
  unfold atI ixN
  rw [if_pos h]
  split
  · rfl
  · rename_i h2
    rw [List.getElem?_eq_none (by omega)]
    rfl
@[simp] theorem atI_nat {α : Type} {xs : List α} : atI xs (n : Int) = xs[n]? := by rw [atI_nn (by omega)]; simp
@[simp] theorem atI_0 {α : Type} {xs : List α} : atI xs 0 = xs[0]? := atI_nn (by omega)
@[simp] theorem atI_1 {α : Type} {xs : List α} : atI xs 1 = xs[1]? := atI_nn (by omega)
@[simp] theorem atI_2 {α : Type} {xs : List α} : atI xs 2 = xs[2]? := atI_nn (by omega)
@[simp] theorem atI_3 {α : Type} {xs : List α} : atI xs 3 = xs[3]? := atI_nn (by omega)
@[simp] theorem atI_last {α : Type} {xs : List α} : atI xs (-1) = xs[xs.length - 1]? := by
  unfold atI ixN
  rw [if_neg (by omega)]
  by_cases h : xs = []
  · subst h; rfl
  · have : 0 < xs.length := List.length_pos_iff.mpr h
    rw [if_pos (by omega)]
    show xs[(-1 + (xs.length : Int)).toNat]? = _
    congr 1
    omega
theorem set_loc {v : D} (h : S[l]? = some (.lst ds)) {k : Nat} (hk : ixN ds.length i = some k) : setD (.loc l) (.int i) v S = .ok () (S.set l (.lst (ds.set k v))) := by simp [setD, h, hk]
@[simp] theorem e_len_str : lenD [.str x] S = if x.length ≤ sizeLine then .ok (.int x.length) S else .stuck := (rfl)
@[simp] theorem e_len_tup : lenD [.tup ds] S = .ok (.int ds.length) S := (rfl)
@[simp] theorem e_len_ktp : lenD [.ktp ds] S = .ok (.int ds.length) S := (rfl)
@[simp] theorem e_len_lst : lenD [.lst ds] S = .ok (.int ds.length) S := (rfl)
@[simp] theorem e_len_frz : lenD [.frz ds] S = .ok (.int ds.length) S := (rfl)
theorem e_len_loc (h : S[l]? = some (.lst ds)) : lenD [.loc l] S = .ok (.int ds.length) S := by simp [lenD, seqOf, rdL, exL, h]
@[simp] theorem e_abs : absD [.int i] S = .ok (.int (if i < 0 then -i else i)) S := (rfl)
@[simp] theorem e_max2 : max2D [.int i, .int j] S = .ok (.int (if j > i then j else i)) S := (rfl)
@[simp] theorem e_min2 : min2D [.int i, .int j] S = .ok (.int (if j < i then j else i)) S := (rfl)
@[simp] theorem e_int : intD [.int i] S = .ok (.int i) S := (rfl)
@[simp] theorem e_intB (t : Bool) : intD [.bl t] S = .ok (.int (if t = true then 1 else 0)) S := (rfl)
@[simp] theorem e_tuple_lst : tupleD [.lst ds] S = .ok (.tup ds) S := (rfl)
@[simp] theorem e_tuple_tup : tupleD [.tup ds] S = .ok (.tup ds) S := (rfl)
@[simp] theorem e_tuple_frz : tupleD [.frz ds] S = .ok (.tup ds) S := (rfl)
theorem e_tuple_loc (h : S[l]? = some (.lst ds)) : tupleD [.loc l] S = .ok (.tup ds) S := by simp [tupleD, rdL, exL, h]
theorem e_append (h : S[l]? = some (.lst ds)) (hs : ds.length < sizeLine) : appendD (.loc l) [d] S = .ok .non (S.set l (.lst (ds ++ [d]))) := by simp [appendD, mutL, h, hs]
@[simp] theorem tyOk_str : tyOk "str" S (.str x) = true := (rfl)
@[simp] theorem tyOk_lst : tyOk "list" S (.lst ds) = true := (rfl)
@[simp] theorem tyOk_frz : tyOk "list" S (.frz ds) = true := (rfl)
theorem tyOk_loc (h : S[l]? = some (.lst ds)) : tyOk "list" S (.loc l) = true := by simp [tyOk, h]
@[simp] theorem e_rev_str : revD (.str x) S = if x.length ≤ sizeLine then .ok (.str (revS x)) S else .stuck := (rfl)
@[simp] theorem e_rev_lst : revD (.lst ds) S = .ok (.lst ds.reverse) S := (rfl)
@[simp] theorem e_rev_frz : revD (.frz ds) S = .ok (.lst ds.reverse) S := (rfl)
end
/-! ### the same at mutable lists: by what stands in the store -/
section
variable {S : Store} {l : Nat} {i : Int} {ds : List D} {d v : D}
def ixO (l : Nat) (i : Int) (S : Store) : Option Ob → Res D
  | some (.lst ds) => atK (atI ds i) S
  | _ => ixD (.loc l) (.int i) S
@[simp] theorem ixO_lst : ixO l i S (some (.lst ds)) = atK (atI ds i) S := (rfl)
@[simp] theorem e_ixO : ixD (.loc l) (.int i) S = ixO l i S S[l]? := by
  unfold ixO
  split
  · rename_i ds h; exact e_ix_loc h
  · rfl
def lenO (l : Nat) (S : Store) : Option Ob → Res D
  | some (.lst ds) => .ok (.int ds.length) S
  | _ => lenD [.loc l] S
@[simp] theorem lenO_lst : lenO l S (some (.lst ds)) = .ok (.int ds.length) S := (rfl)
@[simp] theorem e_lenO : lenD [.loc l] S = lenO l S S[l]? := by
  unfold lenO
  split
  · rename_i ds h; exact e_len_loc h
  · rfl
def srcO (l : Nat) (S : Store) : Option Ob → Option Src
  | some (.lst ds) => some ⟨ds, [(l, .lst ds)]⟩
  | _ => seqSrc (.loc l) S
@[simp] theorem srcO_lst : srcO l S (some (.lst ds)) = some ⟨ds, [(l, .lst ds)]⟩ := (rfl)
@[simp] theorem e_srcO : seqSrc (.loc l) S = srcO l S S[l]? := by
  unfold srcO
  split
  · rename_i ds h; exact seqSrc_loc h
  · rfl
def setO (l : Nat) (i : Int) (v : D) (S : Store) : Option Ob → Res Unit
  | some (.lst ds) => match ixN ds.length i with
    | some k => .ok () (S.set l (.lst (ds.set k v)))
    | none => .stuck
  | _ => setD (.loc l) (.int i) v S
def setN (l : Nat) (ds : List D) (v : D) (S : Store) : Option Nat → Res Unit
  | some k => .ok () (S.set l (.lst (ds.set k v)))
  | none => .stuck
@[simp] theorem setO_lst : setO l i v S (some (.lst ds)) = setN l ds v S (ixN ds.length i) := by
  unfold setO setN; rfl
@[simp] theorem setN_some {k : Nat} : setN l ds v S (some k) = .ok () (S.set l (.lst (ds.set k v))) := (rfl)
@[simp] theorem e_setO : setD (.loc l) (.int i) v S = setO l i v S S[l]? := by
  unfold setO
  split
  · rename_i ds h; simp only [setD, h] <;> rfl
  · rfl
def appO (l : Nat) (d : D) (S : Store) : Option Ob → Res D
  | some (.lst ds) => if ds.length < sizeLine then .ok .non (S.set l (.lst (ds ++ [d]))) else .stuck
  | _ => appendD (.loc l) [d] S
@[simp] theorem appO_lst : appO l d S (some (.lst ds)) = if ds.length < sizeLine then .ok .non (S.set l (.lst (ds ++ [d]))) else .stuck := (rfl)
@[simp] theorem e_appO : appendD (.loc l) [d] S = appO l d S S[l]? := by
  unfold appO
  split
  · rename_i ds h; simp [appendD, mutL, h]
  · rfl
def popO (l : Nat) (i : Int) (S : Store) : Option Ob → Res D
  | some (.lst ds) => if -(2 ^ 63) ≤ i ∧ i < 2 ^ 63 then (match seqIndex? i ds.length with
    | some k => match ds[k]? with
      | some e => .ok e (S.set l (.lst (ds.eraseIdx k)))
      | none => .stuck
    | none => .stuck) else .stuck
  | _ => popD (.loc l) [.int i] S
theorem popO_nat {k : Nat} (hd : ds[k]? = some d) (hb : k < 2 ^ 62) : popO l k S (some (.lst ds)) = .ok d (S.set l (.lst (ds.eraseIdx k))) := by
  have hk : k < ds.length := (List.getElem?_eq_some_iff.mp hd).1
  have h1 : seqIndex? (k : Int) ds.length = some k := by unfold seqIndex?; simp only [if_neg (show ¬ (k : Int) < 0 by omega)]; simp [hk]
  simp only [popO, h1, hd]
  rw [if_pos (by omega)]
@[simp] theorem popO_0 : popO l 0 S (some (.lst (d :: ds))) = .ok d (S.set l (.lst ds)) := popO_nat (k := 0) rfl (by omega)
@[simp] theorem e_popO : popD (.loc l) [.int i] S = popO l i S S[l]? := by
  unfold popO
  split
  · rename_i ds h; simp only [popD, mutL, h] <;> rfl
  · rfl
def tyO (T : String) (l : Nat) (S : Store) : Option Ob → Bool
  | some (.lst _) => T == "list"
  | _ => tyOk T S (.loc l)
@[simp] theorem tyO_lst {T : String} : tyO T l S (some (.lst ds)) = (T == "list") := (rfl)
@[simp] theorem e_tyO {T : String} : tyOk T S (.loc l) = tyO T l S S[l]? := by
  unfold tyO
  split
  · rename_i ds h; simp [tyOk, h]
  · rfl
def tupO (l : Nat) (S : Store) : Option Ob → Res D
  | some (.lst ds) => .ok (.tup ds) S
  | _ => tupleD [.loc l] S
@[simp] theorem tupO_lst : tupO l S (some (.lst ds)) = .ok (.tup ds) S := (rfl)
@[simp] theorem e_tupO : tupleD [.loc l] S = tupO l S S[l]? := by
  unfold tupO
  split
  · rename_i ds h; exact e_tuple_loc h
  · rfl
def pyO (l : Nat) (S : Store) : Option Ob → Option PyData
  | some (.lst ds) => (toPys ds).map .list
  | _ => pyS S (.loc l)
@[simp] theorem pyO_lst : pyO l S (some (.lst ds)) = (toPys ds).map .list := (rfl)
@[simp] theorem e_pyO : pyS S (.loc l) = pyO l S S[l]? := by
  unfold pyO
  split
  · rename_i ds h; simp [pyS, h]
  · rfl
@[simp] theorem pyS_lst : pyS S (.lst ds) = (toPys ds).map .list := (rfl)
@[simp] theorem pyS_frz : pyS S (.frz ds) = (toPys ds).map .list := (rfl)
@[simp] theorem pyS_tup : pyS S (.tup ds) = (toPys ds).map .tuple := (rfl)
@[simp] theorem pyS_int : pyS S (.int i) = some (.int i) := (rfl)
@[simp] theorem pyS_str {x : Str} : pyS S (.str x) = some (.str x) := (rfl)
@[simp] theorem pyS_non : pyS S .non = some .none := (rfl)
@[simp] theorem pyS_bl {b : Bool} : pyS S (.bl b) = some (.bool b) := (rfl)
/-- comparing two whose data are known -/
def eqO (n : Bool) (S : Store) : Option PyData → Option PyData → Res D
  | some p, some q => if SeqAt.shaped p = true ∧ SeqAt.shaped q = true then .ok (.bl (xor n (PyData.eqv p q))) S else .stuck
  | _, _ => .stuck
theorem e_eqO {n : Bool} {d e : D} : eqD n d e S = eqO n S (pyS S d) (pyS S e) := by
  unfold eqD eqO
  split <;> simp_all
@[simp] theorem eqO_some {n : Bool} {p q : PyData} (hp : SeqAt.shaped p = true) (hq : SeqAt.shaped q = true) : eqO n S (some p) (some q) = .ok (.bl (xor n (PyData.eqv p q))) S := if_pos ⟨hp, hq⟩
theorem toPys_ints : ∀ g : List Int, toPys (g.map D.int) = some (g.map PyData.int)
  | [] => rfl
  | a :: g => by simp [toPys, toPy, toPys_ints g]
theorem depth_ints : ∀ g : List Int, PyData.depthAll (g.map PyData.int) = 0
  | [] => rfl
  | a :: g => by simp [PyData.depthAll, PyData.depth, depth_ints g]
end
/-! ### what a def gives back; the bounds of arithmetic -/
def retK (r : Res Fl) : Res D := match r with
  | .ok (.rt d) S' => .ok d S'
  | .ok (.nx _) S' => .ok .non S'
  | .ok (.ex c fs _) S' => .exc c fs S'
  | _ => .stuck
theorem den_eq (n : Nat) (m : DSt → Store → Res Fl) (ds : List D) (S : Store) : denOf n m ds S = retK (m (ds.map some ++ List.replicate (n - ds.length) none) S) := (rfl)
@[simp] theorem retK_rt (d : D) (S : Store) : retK (.ok (.rt d) S) = .ok d S := (rfl)
@[simp] theorem retK_nx (σ : DSt) (S : Store) : retK (.ok (.nx σ) S) = .ok .non S := (rfl)
@[simp] theorem retK_ex (c : Str) (fs : List (Str × D)) (σ : DSt) (S : Store) : retK (.ok (.ex c fs σ) S) = .exc c fs S := (rfl)
@[simp] theorem divOk {i j : Int} (h : 0 < j) (h2 : j < 18446744073709551616) : CDivW i j := by
  refine ⟨h, ?_⟩
  have : j.natAbs ≠ 0 := by omega
  have h3 : j.natAbs.log2 < 64 := (Nat.log2_lt this).mpr (by omega)
  omega
@[simp] theorem mulOkR {i j : Int} (h : -(2 ^ 64) < j) (h2 : j < 2 ^ 64) : (CMul i j ∨ CMulW i j) = True := eq_true (.inl (.inr ⟨h, h2⟩))
@[simp] theorem mulOkL {i j : Int} (h : -(2 ^ 64) < i) (h2 : i < 2 ^ 64) : (CMul i j ∨ CMulW i j) = True := eq_true (.inl (.inl ⟨h, h2⟩))
@[simp] theorem pow1018 : CPowX 10 18 = True := eq_true (by decide)
@[simp] theorem size_eq : sizeLine = 16777216 := by decide
theorem e_mT (m : DSt → Store → Res D) (σ : DSt) (S : Store) : mT m σ S = (m σ S).bind fun d S1 => truK d S1 := by
  unfold mT
  congr 1
@[simp] theorem e_mT' (m : DSt → Store → Res D) (σ : DSt) (S : Store) : mT m σ S = (m σ S).bind fun d S1 => truK d S1 := e_mT m σ S
/-! ### Ok: it comes to an end well -/
def Ok {α : Type} (r : Res α) (P : α → Store → Prop) : Prop := ∃ a S, r = .ok a S ∧ P a S
@[simp] theorem Ok_ok {α : Type} {a : α} {S : Store} {P : α → Store → Prop} : Ok (.ok a S) P ↔ P a S := ⟨fun ⟨_, _, e, h⟩ => by cases e; exact h, fun h => ⟨_, _, rfl, h⟩⟩
theorem Ok.imp {α : Type} {r : Res α} {P Q : α → Store → Prop} (h : Ok r P) (k : ∀ a S, P a S → Q a S) : Ok r Q := let ⟨a, S, e, p⟩ := h; ⟨a, S, e, k a S p⟩
theorem Ok.bind {α β : Type} {r : Res α} {f : α → Store → Res β} {P : α → Store → Prop} {Q : β → Store → Prop} (h : Ok r P) (k : ∀ a S, P a S → Ok (f a S) Q) : Ok (r.bind f) Q := by
  obtain ⟨a, S, rfl, p⟩ := h; exact k a S p
theorem Ok.bindG {α β : Type} {r : Res α} {f : α → Store → Res β} {P : α → Store → Prop} {Q : β → Store → Prop} (h : Ok r P) (k : ∀ a S, P a S → Ok (f a S) Q) : Ok (L3.bindG r f) Q := by
  obtain ⟨a, S, rfl, p⟩ := h; exact k a S p
theorem Ok.liftE {α : Type} {r : Res α} {σ : DSt} {f : α → Store → Res Fl} {P : α → Store → Prop} {Q : Fl → Store → Prop} (h : Ok r P) (k : ∀ a S, P a S → Ok (f a S) Q) : Ok (L3.liftE r σ f) Q := by
  obtain ⟨a, S, rfl, p⟩ := h; exact k a S p
theorem Ok.noX {r : Res D} {P : D → Store → Prop} (h : Ok r P) : Ok (L3.noX r) P := by
  obtain ⟨a, S, rfl, p⟩ := h; exact ⟨a, S, rfl, p⟩
/-! ### loops -/
/-- what a turn of a loop leads to -/
def Turn (N : DSt → Store → Prop) (B : DSt → Store → Prop) (R : D → Store → Prop) : Fl → Store → Prop
  | .nx σ, S => N σ S
  | .ct σ, S => N σ S
  | .bk σ, S => B σ S
  | .rt d, S => R d S
  | _, _ => False
/-- what a loop leads to -/
def Done (N : DSt → Store → Prop) (R : D → Store → Prop) : Fl → Store → Prop
  | .nx σ, S => N σ S
  | .rt d, S => R d S
  | _, _ => False
@[simp] theorem Turn_nx {N B : DSt → Store → Prop} {R : D → Store → Prop} {σ : DSt} {S : Store} : Turn N B R (.nx σ) S ↔ N σ S := (Iff.rfl)
@[simp] theorem Turn_ct {N B : DSt → Store → Prop} {R : D → Store → Prop} {σ : DSt} {S : Store} : Turn N B R (.ct σ) S ↔ N σ S := (Iff.rfl)
@[simp] theorem Turn_bk {N B : DSt → Store → Prop} {R : D → Store → Prop} {σ : DSt} {S : Store} : Turn N B R (.bk σ) S ↔ B σ S := (Iff.rfl)
@[simp] theorem Turn_rt {N B : DSt → Store → Prop} {R : D → Store → Prop} {d : D} {S : Store} : Turn N B R (.rt d) S ↔ R d S := (Iff.rfl)
@[simp] theorem Done_nx {N : DSt → Store → Prop} {R : D → Store → Prop} {σ : DSt} {S : Store} : Done N R (.nx σ) S ↔ N σ S := (Iff.rfl)
@[simp] theorem Done_rt {N : DSt → Store → Prop} {R : D → Store → Prop} {d : D} {S : Store} : Done N R (.rt d) S ↔ R d S := (Iff.rfl)
theorem forGo_ok {gd : List (Nat × Ob)} {g : D → DSt → Store → Res DSt} {b : DSt → Store → Res Fl} (I : Nat → DSt → Store → Prop) (N : DSt → Store → Prop) (R : D → Store → Prop) : ∀ (ds : List D) (k : Nat) {σ : DSt} {S : Store}, I k σ S →
    (∀ j σ S, I j σ S → gOk gd S) →
    (∀ j d σ S, ds[j]? = some d → I (k + j) σ S → Ok (bindG (g d σ S) b) (Turn (I (k + j + 1)) N R)) →
    (∀ σ S, I (k + ds.length) σ S → N σ S) → Ok (forGo gd g b ds σ S) (Done N R)
  | [], k, σ, S, h, hg, _, he => by
    simp only [forGo, if_pos (hg _ _ _ h), Ok_ok]
    exact he _ _ h
  | d :: ds, k, σ, S, h, hg, hs, he => by
    simp only [forGo, if_pos (hg _ _ _ h)]
    have h1 := hs 0 d σ S rfl h
    cases hgd : g d σ S with
    | ok σ1 S1 =>
      rw [hgd] at h1
      simp only [bindG_ok] at h1 ⊢
      obtain ⟨fl, S2, e, t⟩ := h1
      rw [e]
      have hrec : ∀ σ2 : DSt, I (k + 1) σ2 S2 → Ok (forGo gd g b ds σ2 S2) (Done N R) := fun σ2 t => forGo_ok I N R ds (k + 1) t hg
        (fun j d σ S hd hi => by
          have := hs (j + 1) d σ S (by simpa using hd) (by rw [show k + (j + 1) = k + 1 + j by omega]; exact hi)
          rwa [show k + (j + 1) + 1 = k + 1 + j + 1 by omega] at this)
        (fun σ S hi => he σ S (by rw [List.length_cons, show k + (ds.length + 1) = k + 1 + ds.length by omega]; exact hi))
      cases fl with
      | nx σ2 => exact hrec σ2 t
      | ct σ2 => exact hrec σ2 t
      | bk σ2 => exact ⟨_, _, rfl, t⟩
      | rt d => exact ⟨_, _, rfl, t⟩
      | ex c fs σ2 => exact t.elim
    | exc c fs S1 => rw [hgd] at h1; obtain ⟨_, _, e, _⟩ := h1; cases e
    | stuck => rw [hgd] at h1; obtain ⟨_, _, e, _⟩ := h1; cases e
theorem lcGo_ok {gd : List (Nat × Ob)} {g : D → DSt → Store → Res DSt} {t : DSt → Store → Res Bool} {e : DSt → Store → Res D} {σ : DSt} (I : Nat → Store → List D → Prop) : ∀ (ds : List D) (k : Nat) {S : Store} (acc : List D), I k S acc →
    (∀ j S acc, I j S acc → gOk gd S) →
    (∀ j d S acc, ds[j]? = some d → I (k + j) S acc → Ok (bindG (g d σ S) fun σ1 S1 => bindG (t σ1 S1) fun c S2 => if c = true then bindG (e σ1 S2) fun y S3 => .ok (some y) S3 else .ok none S2)
      fun y S3 => I (k + j + 1) S3 (acc ++ y.toList)) →
    Ok (lcGo gd g t e σ ds S) fun ys S' => I (k + ds.length) S' (acc ++ ys)
  | [], k, S, acc, h, hg, _ => by
    simp only [lcGo, if_pos (hg _ _ _ h), Ok_ok, List.append_nil]
    exact h
  | d :: ds, k, S, acc, h, hg, hs => by
    simp only [lcGo, if_pos (hg _ _ _ h)]
    have h1 := hs 0 d S acc rfl h
    have hrec : ∀ (y : List D) (S2 : Store), I (k + 1) S2 (acc ++ y) → Ok (lcGo gd g t e σ ds S2) fun ys S' => I (k + (ds.length + 1)) S' (acc ++ y ++ ys) := fun y S2 hi => by
      have := lcGo_ok I ds (k + 1) (acc ++ y) hi hg (fun j d S acc hd hi => by
        have := hs (j + 1) d S acc (by simpa using hd) (by rw [show k + (j + 1) = k + 1 + j by omega]; exact hi)
        rwa [show k + (j + 1) + 1 = k + 1 + j + 1 by omega] at this)
      rwa [show k + 1 + ds.length = k + (ds.length + 1) by omega] at this
    cases hgd : g d σ S with
    | ok σ1 S1 =>
      rw [hgd] at h1
      simp only [bindG_ok] at h1 ⊢
      cases ht : t σ1 S1 with
      | ok c S2 =>
        rw [ht] at h1
        simp only [bindG_ok] at h1 ⊢
        by_cases hc : c = true
        · rw [if_pos hc] at h1 ⊢
          cases he : e σ1 S2 with
          | ok y S3 =>
            rw [he] at h1
            simp only [bindG_ok, Ok_ok, Option.toList_some] at h1 ⊢
            exact Ok.bindG (hrec [y] S3 h1) fun ys S4 h4 => ⟨_, _, rfl, by simpa using h4⟩
          | exc c fs S1 => rw [he] at h1; obtain ⟨_, _, e, _⟩ := h1; cases e
          | stuck => rw [he] at h1; obtain ⟨_, _, e, _⟩ := h1; cases e
        · rw [if_neg hc] at h1 ⊢
          simp only [Ok_ok, Option.toList_none] at h1
          have := hrec [] S2 h1
          rw [List.append_nil] at this
          exact this
      | exc c fs S1 => rw [ht] at h1; obtain ⟨_, _, e, _⟩ := h1; cases e
      | stuck => rw [ht] at h1; obtain ⟨_, _, e, _⟩ := h1; cases e
    | exc c fs S1 => rw [hgd] at h1; obtain ⟨_, _, e, _⟩ := h1; cases e
    | stuck => rw [hgd] at h1; obtain ⟨_, _, e, _⟩ := h1; cases e
/-- after a loop: where it ended well, what comes next -/
theorem Ok.then {r : Res Fl} {f : DSt → Store → Res Fl} {N N2 : DSt → Store → Prop} {R : D → Store → Prop} (h : Ok r (Done N R)) (k : ∀ σ S, N σ S → Ok (f σ S) (Done N2 R)) : Ok (thenS r f) (Done N2 R) := by
  obtain ⟨fl, S, rfl, h⟩ := h
  cases fl with
  | rt d => exact ⟨_, S, rfl, h⟩
  | nx σ => exact k σ S h
  | _ => exact h.elim
/-- a loop over things that stay (no break) and what comes next -/
theorem Ok.loop {g : D → DSt → Store → Res DSt} {b : DSt → Store → Res Fl} {ds : List D} {σ : DSt} {S : Store} {f : DSt → Store → Res Fl} {N2 : DSt → Store → Prop} {R : D → Store → Prop} (I : Nat → DSt → Store → Prop) (h0 : I 0 σ S)
    (hs : ∀ j d σ S, ds[j]? = some d → I j σ S → Ok (L3.bindG (g d σ S) b) (Turn (I (j + 1)) (fun _ _ => False) R)) (k : ∀ σ S, I ds.length σ S → Ok (f σ S) (Done N2 R)) : Ok (thenS (forGo [] g b ds σ S) f) (Done N2 R) := by
  refine Ok.then (N := I ds.length) (R := R) (forGo_ok (gd := []) (fun j σ S => I j σ S) (fun σ S => I ds.length σ S) R ds 0 h0 (fun _ _ _ _ => fun _ h => (List.not_mem_nil h).elim) (fun j d σ S hd hi => ?_) (fun σ S hi => by rwa [Nat.zero_add] at hi)) k
  rw [Nat.zero_add] at hi ⊢
  refine (hs j d σ S hd hi).imp fun fl S' t => ?_
  cases fl with
  | bk σ => exact t.elim
  | _ => exact t
theorem Ok.ret {r : Res Fl} {P : D → Store → Prop} {N : DSt → Store → Prop} (h : Ok r (Done N P)) (hn : ∀ σ S, N σ S → P .non S) : Ok (retK r) P := by
  obtain ⟨fl, S, rfl, h⟩ := h
  cases fl with
  | rt d => exact ⟨d, S, rfl, h⟩
  | nx σ => exact ⟨_, S, rfl, hn σ S h⟩
  | _ => exact h.elim
end L3
namespace L3
open PySem PySem.Spec L2
/-! ### texts by their signs -/
def tx (l : List Nat) : Str := ⟨l.toArray⟩
section
variable {a b l : List Nat} {c : Nat}
@[simp] theorem tx_cps : (tx l).cps.toList = l := (rfl)
@[simp] theorem tx_len : (tx l).length = l.length := by simp [tx, Str.length]
theorem tx_cat : tx a ++ tx b = tx (a ++ b) := SX.S_cat a b
theorem tx_inj (h : tx a = tx b) : a = b := SX.S_inj h
@[simp] theorem signsOf_tx : signsOf (tx l) = l.map chr := (rfl)
@[simp] theorem revS_tx : revS (tx l) = tx l.reverse := (rfl)
theorem repS_one (n : Nat) : repS (tx [c]) n = tx (List.replicate n c) := by
  unfold repS tx
  congr 1
  congr 1
  show (List.replicate n [c]).flatten = _
  simp
theorem mulSK {S : Store} {n : Nat} (h : l.length * n ≤ 16777216) (h2 : n < 2 ^ 62) : mulX (.str (tx l)) (.int n) S = .ok (.str (repS (tx l) n)) S := by
  have : -(2 ^ 63 : Int) ≤ (n : Int) ∧ (n : Int) < 2 ^ 63 ∧ (tx l).length * (n : Int).toNat ≤ 16777216 := ⟨by omega, by omega, by rw [tx_len, Int.toNat_natCast]; exact h⟩
  rw [e_mulS, if_pos this]
  rfl
theorem mulCK {S : Store} {n : Nat} (h : n ≤ 16777216) : mulX (chr c) (.int n) S = .ok (.str (tx (List.replicate n c))) S := by
  rw [← repS_one]
  exact mulSK (l := [c]) (by simpa using h) (by omega)
theorem addTK {S : Store} (h : a.length + b.length ≤ 16777216) : addD (.str (tx a)) (.str (tx b)) S = .ok (.str (tx (a ++ b))) S := by
  have : (tx a).length + (tx b).length ≤ sizeLine := by simpa using h
  rw [e_addS, if_pos this, tx_cat]
end
/-! ### isinstance with a built-in class -/
section
variable {S : Store} {ds : List D} {x : Str} {i : Int} {b : Bool}
@[simp] theorem isi_tuple_tup : isiD "tuple" (.tup ds) S = .ok (.bl true) S := by
  have h : kitB "tuple" "tuple" = some true := by decide +kernel
  simp only [isiD, tyName, h]
@[simp] theorem isi_tuple_ktp : isiD "tuple" (.ktp ds) S = .ok (.bl true) S := by
  have h : kitB "tuple" "tuple" = some true := by decide +kernel
  simp [isiD, tyName, h]
@[simp] theorem isi_tuple_str : isiD "tuple" (.str x) S = .ok (.bl false) S := by
  have h : kitB "str" "tuple" = some false := by decide +kernel
  simp only [isiD, tyName, h]
@[simp] theorem isi_tuple_int : isiD "tuple" (.int i) S = .ok (.bl false) S := by
  have h : kitB "int" "tuple" = some false := by decide +kernel
  simp only [isiD, tyName, h]
@[simp] theorem isi_tuple_bl : isiD "tuple" (.bl b) S = .ok (.bl false) S := by
  have h : kitB "bool" "tuple" = some false := by decide +kernel
  simp only [isiD, tyName, h]
@[simp] theorem isi_tuple_lst : isiD "tuple" (.lst ds) S = .ok (.bl false) S := by
  have h : kitB "list" "tuple" = some false := by decide +kernel
  simp only [isiD, tyName, h]
@[simp] theorem isi_tuple_non : isiD "tuple" .non S = .ok (.bl false) S := by
  have h : kitB "NoneType" "tuple" = some false := by decide +kernel
  simp only [isiD, tyName, h]
@[simp] theorem isi_str_tup : isiD "str" (.tup ds) S = .ok (.bl false) S := by
  have h : kitB "tuple" "str" = some false := by decide +kernel
  simp only [isiD, tyName, h]
@[simp] theorem isi_str_str : isiD "str" (.str x) S = .ok (.bl true) S := by
  have h : kitB "str" "str" = some true := by decide +kernel
  simp only [isiD, tyName, h]
@[simp] theorem isi_str_int : isiD "str" (.int i) S = .ok (.bl false) S := by
  have h : kitB "int" "str" = some false := by decide +kernel
  simp only [isiD, tyName, h]
@[simp] theorem isi_str_bl : isiD "str" (.bl b) S = .ok (.bl false) S := by
  have h : kitB "bool" "str" = some false := by decide +kernel
  simp only [isiD, tyName, h]
@[simp] theorem isi_str_lst : isiD "str" (.lst ds) S = .ok (.bl false) S := by
  have h : kitB "list" "str" = some false := by decide +kernel
  simp only [isiD, tyName, h]
@[simp] theorem isi_str_non : isiD "str" .non S = .ok (.bl false) S := by
  have h : kitB "NoneType" "str" = some false := by decide +kernel
  simp only [isiD, tyName, h]
@[simp] theorem isi_int_tup : isiD "int" (.tup ds) S = .ok (.bl false) S := by
  have h : kitB "tuple" "int" = some false := by decide +kernel
  simp only [isiD, tyName, h]
@[simp] theorem isi_int_str : isiD "int" (.str x) S = .ok (.bl false) S := by
  have h : kitB "str" "int" = some false := by decide +kernel
  simp only [isiD, tyName, h]
@[simp] theorem isi_int_int : isiD "int" (.int i) S = .ok (.bl true) S := by
  have h : kitB "int" "int" = some true := by decide +kernel
  simp only [isiD, tyName, h]
@[simp] theorem isi_int_bl : isiD "int" (.bl b) S = .ok (.bl true) S := by
  have h : kitB "bool" "int" = some true := by decide +kernel
  simp only [isiD, tyName, h]
@[simp] theorem isi_int_lst : isiD "int" (.lst ds) S = .ok (.bl false) S := by
  have h : kitB "list" "int" = some false := by decide +kernel
  simp only [isiD, tyName, h]
@[simp] theorem isi_int_non : isiD "int" .non S = .ok (.bl false) S := by
  have h : kitB "NoneType" "int" = some false := by decide +kernel
  simp only [isiD, tyName, h]
@[simp] theorem isi_bool_tup : isiD "bool" (.tup ds) S = .ok (.bl false) S := by
  have h : kitB "tuple" "bool" = some false := by decide +kernel
  simp only [isiD, tyName, h]
@[simp] theorem isi_bool_str : isiD "bool" (.str x) S = .ok (.bl false) S := by
  have h : kitB "str" "bool" = some false := by decide +kernel
  simp only [isiD, tyName, h]
@[simp] theorem isi_bool_int : isiD "bool" (.int i) S = .ok (.bl false) S := by
  have h : kitB "int" "bool" = some false := by decide +kernel
  simp only [isiD, tyName, h]
@[simp] theorem isi_bool_bl : isiD "bool" (.bl b) S = .ok (.bl true) S := by
  have h : kitB "bool" "bool" = some true := by decide +kernel
  simp only [isiD, tyName, h]
@[simp] theorem isi_bool_lst : isiD "bool" (.lst ds) S = .ok (.bl false) S := by
  have h : kitB "list" "bool" = some false := by decide +kernel
  simp only [isiD, tyName, h]
@[simp] theorem isi_bool_non : isiD "bool" .non S = .ok (.bl false) S := by
  have h : kitB "NoneType" "bool" = some false := by decide +kernel
  simp only [isiD, tyName, h]
@[simp] theorem isi_list_tup : isiD "list" (.tup ds) S = .ok (.bl false) S := by
  have h : kitB "tuple" "list" = some false := by decide +kernel
  simp only [isiD, tyName, h]
@[simp] theorem isi_list_str : isiD "list" (.str x) S = .ok (.bl false) S := by
  have h : kitB "str" "list" = some false := by decide +kernel
  simp only [isiD, tyName, h]
@[simp] theorem isi_list_int : isiD "list" (.int i) S = .ok (.bl false) S := by
  have h : kitB "int" "list" = some false := by decide +kernel
  simp only [isiD, tyName, h]
@[simp] theorem isi_list_bl : isiD "list" (.bl b) S = .ok (.bl false) S := by
  have h : kitB "bool" "list" = some false := by decide +kernel
  simp only [isiD, tyName, h]
@[simp] theorem isi_list_lst : isiD "list" (.lst ds) S = .ok (.bl true) S := by
  have h : kitB "list" "list" = some true := by decide +kernel
  simp only [isiD, tyName, h]
@[simp] theorem isi_list_non : isiD "list" .non S = .ok (.bl false) S := by
  have h : kitB "NoneType" "list" = some false := by decide +kernel
  simp only [isiD, tyName, h]
@[simp] theorem isi_dict_tup : isiD "dict" (.tup ds) S = .ok (.bl false) S := by
  have h : kitB "tuple" "dict" = some false := by decide +kernel
  simp only [isiD, tyName, h]
@[simp] theorem isi_dict_str : isiD "dict" (.str x) S = .ok (.bl false) S := by
  have h : kitB "str" "dict" = some false := by decide +kernel
  simp only [isiD, tyName, h]
@[simp] theorem isi_dict_int : isiD "dict" (.int i) S = .ok (.bl false) S := by
  have h : kitB "int" "dict" = some false := by decide +kernel
  simp only [isiD, tyName, h]
@[simp] theorem isi_dict_bl : isiD "dict" (.bl b) S = .ok (.bl false) S := by
  have h : kitB "bool" "dict" = some false := by decide +kernel
  simp only [isiD, tyName, h]
@[simp] theorem isi_dict_lst : isiD "dict" (.lst ds) S = .ok (.bl false) S := by
  have h : kitB "list" "dict" = some false := by decide +kernel
  simp only [isiD, tyName, h]
@[simp] theorem isi_dict_non : isiD "dict" .non S = .ok (.bl false) S := by
  have h : kitB "NoneType" "dict" = some false := by decide +kernel
  simp only [isiD, tyName, h]
end
@[simp] theorem set_last (r : Store) (x y : Ob) : (r ++ [x]).set r.length y = r ++ [y] := by
  rw [List.set_append_right _ _ (Nat.le_refl _), Nat.sub_self]
  rfl
/-! ### the draws' state: the great cells, the seed -/
def drw (g : List Int) (s : Int) (r : Store) : Store := .lst (g.map D.int) :: .lst [.loc 0, .int s] :: r
section
variable {g : List Int} {s : Int} {r q : Store}
@[simp high] theorem drw0 (g : List Int) (s : Int) (r : Store) : (drw g s r)[0]? = some (.lst (g.map D.int)) := rfl
@[simp high] theorem drw1 (g : List Int) (s : Int) (r : Store) : (drw g s r)[1]? = some (.lst [.loc 0, .int s]) := rfl
@[simp] theorem drw_len : (drw g s r).length = r.length + 2 := (rfl)
@[simp high] theorem drw_get (n : Nat) : (drw g s r)[n + 2]? = r[n]? := (rfl)
@[simp] theorem drw_set (n : Nat) (o : Ob) : (drw g s r).set (n + 2) o = drw g s (r.set n o) := (rfl)
@[simp] theorem drw_app : drw g s r ++ q = drw g s (r ++ q) := (rfl)
end
end L3
namespace L3
open PySem PySem.Spec L2
/-! ### plain data: texts, whole numbers, none, tuples and lists of such; comparing them -/
mutual
def D.pl (k : Nat) : D → Bool
  | .non => true
  | .int _ => true
  | .str x => x.cps.all (· < 1114112)
  | .tup ds => match k with
    | 0 => false
    | k + 1 => D.pls k ds
  | .lst ds => match k with
    | 0 => false
    | k + 1 => D.pls k ds
  | _ => false
def D.pls (k : Nat) : List D → Bool
  | [] => true
  | d :: ds => D.pl k d && D.pls k ds
end
theorem pls_iff {k : Nat} : ∀ {ds : List D}, D.pls k ds = true ↔ ∀ d ∈ ds, D.pl k d = true
  | [] => by simp [D.pls]
  | d :: ds => by simp [D.pls, pls_iff (ds := ds)]
mutual
theorem pl_py : ∀ (k : Nat) (d : D), D.pl k d = true → ∃ p, toPy d = some p ∧ p.canLay0 = true ∧ p.depth ≤ k
  | k, .non, _ => ⟨_, rfl, rfl, by simp [PyData.depth]⟩
  | k, .int i, _ => ⟨_, rfl, rfl, by simp [PyData.depth]⟩
  | k, .str x, h => ⟨_, rfl, by simp only [PyData.canLay0, PyData.strOk]; simp only [D.pl] at h; exact h, by simp [PyData.depth]⟩
  | 0, .tup ds, h => by simp [D.pl] at h
  | k + 1, .tup ds, h => by
    simp only [D.pl] at h
    obtain ⟨ps, e, h1, h2⟩ := pls_py k ds h
    exact ⟨.tuple ps, by simp [toPy, e], by simpa [PyData.canLay0] using h1, by simp [PyData.depth]; omega⟩
  | 0, .lst ds, h => by simp [D.pl] at h
  | k + 1, .lst ds, h => by
    simp only [D.pl] at h
    obtain ⟨ps, e, h1, h2⟩ := pls_py k ds h
    exact ⟨.list ps, by simp [toPy, e], by simpa [PyData.canLay0] using h1, by simp [PyData.depth]; omega⟩
  | _, .bl _, h => by simp [D.pl] at h
  | _, .ktp _, h => by simp [D.pl] at h
  | _, .frz _, h => by simp [D.pl] at h
  | _, .loc _, h => by simp [D.pl] at h
theorem pls_py : ∀ (k : Nat) (ds : List D), D.pls k ds = true → ∃ ps, toPys ds = some ps ∧ PyData.canLayAll0 ps = true ∧ PyData.depthAll ps ≤ k
  | k, [], _ => ⟨[], rfl, rfl, by simp [PyData.depthAll]⟩
  | k, d :: ds, h => by
    simp only [D.pls, Bool.and_eq_true] at h
    obtain ⟨p, e1, a1, b1⟩ := pl_py k d h.1
    obtain ⟨ps, e2, a2, b2⟩ := pls_py k ds h.2
    exact ⟨p :: ps, by simp [toPys, e1, e2], by simp [PyData.canLayAll0, a1, a2], by simp [PyData.depthAll]; omega⟩
end
mutual
theorem eqv_pl : ∀ (k m : Nat) (d e : D) (p q : PyData), D.pl k d = true → D.pl m e = true → toPy d = some p → toPy e = some q → (PyData.eqv p q = true ↔ d = e)
  | k, m, d, e, p, q, h1, h2, e1, e2 => by
    cases d with
    | tup ds => cases e with
      | tup es => cases k with
        | zero => simp [D.pl] at h1
        | succ k => cases m with
          | zero => simp [D.pl] at h2
          | succ m =>
            simp only [D.pl] at h1 h2
            simp only [toPy, Option.map_eq_some_iff] at e1 e2
            obtain ⟨ps, e1, rfl⟩ := e1
            obtain ⟨qs, e2, rfl⟩ := e2
            have := eqv_pls k m ds es ps qs h1 h2 e1 e2
            simp [PyData.eqv, this]
      | _ => simp [toPy, Option.map_eq_some_iff] at e1 e2 <;> (try obtain ⟨ps, _, rfl⟩ := e1) <;> (try obtain ⟨qs, _, rfl⟩ := e2) <;> (try subst e2) <;> simp_all [PyData.eqv, D.pl]
    | lst ds => cases e with
      | lst es => cases k with
        | zero => simp [D.pl] at h1
        | succ k => cases m with
          | zero => simp [D.pl] at h2
          | succ m =>
            simp only [D.pl] at h1 h2
            simp only [toPy, Option.map_eq_some_iff] at e1 e2
            obtain ⟨ps, e1, rfl⟩ := e1
            obtain ⟨qs, e2, rfl⟩ := e2
            have := eqv_pls k m ds es ps qs h1 h2 e1 e2
            simp [PyData.eqv, this]
      | _ => simp [toPy, Option.map_eq_some_iff] at e1 e2 <;> (try obtain ⟨ps, _, rfl⟩ := e1) <;> (try obtain ⟨qs, _, rfl⟩ := e2) <;> (try subst e2) <;> simp_all [PyData.eqv, D.pl]
    | int i => cases e <;> simp [toPy, Option.map_eq_some_iff] at e1 e2 <;> subst e1 <;> (try obtain ⟨qs, _, rfl⟩ := e2) <;> (try subst e2) <;> simp_all [PyData.eqv, D.pl]
    | str i => cases e <;> simp [toPy, Option.map_eq_some_iff] at e1 e2 <;> subst e1 <;> (try obtain ⟨qs, _, rfl⟩ := e2) <;> (try subst e2) <;> simp_all [PyData.eqv, D.pl]
    | non => cases e <;> simp [toPy, Option.map_eq_some_iff] at e1 e2 <;> subst e1 <;> (try obtain ⟨qs, _, rfl⟩ := e2) <;> (try subst e2) <;> simp_all [PyData.eqv, D.pl]
    | _ => simp [D.pl] at h1
theorem eqv_pls : ∀ (k m : Nat) (ds es : List D) (ps qs : List PyData), D.pls k ds = true → D.pls m es = true → toPys ds = some ps → toPys es = some qs → (PyData.eqvAll ps qs = true ↔ ds = es)
  | k, m, [], [], ps, qs, _, _, e1, e2 => by
    simp [toPys] at e1 e2; subst e1 e2; simp [PyData.eqvAll]
  | k, m, [], e :: es, ps, qs, _, h2, e1, e2 => by
    obtain ⟨qs', e3, _⟩ := pls_py m (e :: es) h2
    simp only [D.pls, Bool.and_eq_true] at h2
    obtain ⟨q, f1, _⟩ := pl_py m e h2.1
    obtain ⟨qs2, f2, _⟩ := pls_py m es h2.2
    simp [toPys, f1, f2] at e1 e2
    subst e1 e2
    simp [PyData.eqvAll]
  | k, m, d :: ds, [], ps, qs, h1, _, e1, e2 => by
    simp only [D.pls, Bool.and_eq_true] at h1
    obtain ⟨q, f1, _⟩ := pl_py k d h1.1
    obtain ⟨qs2, f2, _⟩ := pls_py k ds h1.2
    simp [toPys, f1, f2] at e1 e2
    subst e1 e2
    simp [PyData.eqvAll]
  | k, m, d :: ds, e :: es, ps, qs, h1, h2, e1, e2 => by
    simp only [D.pls, Bool.and_eq_true] at h1 h2
    obtain ⟨p, f1, _⟩ := pl_py k d h1.1
    obtain ⟨ps2, f2, _⟩ := pls_py k ds h1.2
    obtain ⟨q, g1, _⟩ := pl_py m e h2.1
    obtain ⟨qs2, g2, _⟩ := pls_py m es h2.2
    simp [toPys, f1, f2, g1, g2] at e1 e2
    subst e1 e2
    have i1 := eqv_pl k m d e p q h1.1 h2.1 f1 g1
    have i2 := eqv_pls k m ds es ps2 qs2 h1.2 h2.2 f2 g2
    simp [PyData.eqvAll, i1, i2]
end
theorem pyS_pl {k : Nat} {d : D} (S : Store) (h : D.pl k d = true) : pyS S d = toPy d := by
  cases d <;> first | rfl | simp [D.pl] at h
open Classical in
/-- comparing plain data -/
theorem eqP {n : Bool} {d e : D} {S : Store} (h1 : D.pl 64 d = true) (h2 : D.pl 64 e = true) : eqD n d e S = .ok (.bl (xor n (decide (d = e)))) S := by
  obtain ⟨p, e1, a1, b1⟩ := pl_py 64 d h1
  obtain ⟨q, e2, a2, b2⟩ := pl_py 64 e h2
  rw [e_eqO, pyS_pl S h1, pyS_pl S h2, e1, e2]
  rw [eqO_some (by simp [SeqAt.shaped, a1, b1]) (by simp [SeqAt.shaped, a2, b2])]
  have := eqv_pl 64 64 d e p q h1 h2 e1 e2
  have h3 : PyData.eqv p q = decide (d = e) := by
    rw [Bool.eq_iff_iff, this, decide_eq_true_eq]
  rw [h3]
@[simp] theorem pl_int (k : Nat) (i : Int) : D.pl k (.int i) = true := by cases k <;> rfl
@[simp] theorem pl_tup (k : Nat) (ds : List D) : D.pl (k + 1) (.tup ds) = D.pls k ds := by simp [D.pl]
@[simp] theorem pl_lst (k : Nat) (ds : List D) : D.pl (k + 1) (.lst ds) = D.pls k ds := by simp [D.pl]
@[simp] theorem pls_nil (k : Nat) : D.pls k [] = true := by simp [D.pls]
@[simp] theorem pls_cons (k : Nat) (d : D) (ds : List D) : D.pls k (d :: ds) = (D.pl k d && D.pls k ds) := by simp [D.pls]
theorem pls_map {α : Type} {f : α → D} {k : Nat} {xs : List α} (h : ∀ x ∈ xs, D.pl k (f x) = true) : D.pls k (xs.map f) = true := by
  rw [pls_iff]
  intro d hd
  obtain ⟨x, hx, rfl⟩ := List.mem_map.mp hd
  exact h x hx
theorem pl_tx {k : Nat} {l : List Nat} (h : ∀ c ∈ l, c < 1114112) : D.pl k (.str (tx l)) = true := by
  have : (tx l).cps.all (· < 1114112) = true := by
    rw [← Array.all_toList, tx_cps, List.all_eq_true]
    exact fun c hc => decide_eq_true (h c hc)
  simpa [D.pl] using this
/-! ### more readings -/
section
variable {σ : DSt} {S : Store} {ds es : List D} {d e : D}
def zipK (ds : List D) (S : Store) : Res Src := match ds with
  | [d, e] => match lstSrc d S, lstSrc e S with
    | some s1, some s2 => .ok ⟨zipD s1.items s2.items, s1.guard ++ s2.guard⟩ S
    | _, _ => match rdT d, rdT e with
      | some a, some b => .ok ⟨zipD a b, []⟩ S
      | _, _ => .stuck
  | _ => .stuck
@[simp] theorem e_zip (ms : DSt → Store → Res (List D)) : mZip ms σ S = (ms σ S).bind fun ds S1 => zipK ds S1 := (rfl)
@[simp] theorem zipK_tup : zipK [.tup ds, .tup es] S = .ok ⟨zipD ds es, []⟩ S := (rfl)
@[simp] theorem zipK_lst : zipK [.lst ds, .lst es] S = .ok ⟨zipD ds es, []⟩ S := (rfl)
theorem blsOf_map : ∀ bs : List Bool, blsOf (bs.map D.bl) = some bs
  | [] => rfl
  | b :: bs => by simp [blsOf, blsOf_map bs]
theorem blsK (f : List Bool → D) (bs : List Bool) : onBls f [.lst (bs.map D.bl)] S = .ok (f bs) S := by
  have h : rdL S (.lst (bs.map D.bl)) = some (bs.map D.bl) := rfl
  simp only [onBls, h, blsOf_map]
@[simp] theorem blsK_rep (f : List Bool → D) (n : Nat) (b : Bool) : onBls f [.lst (List.replicate n (.bl b))] S = .ok (f (List.replicate n b)) S := by
  rw [← blsK f (List.replicate n b), List.map_replicate]
theorem cut_to (l : List Nat) (k : Nat) : cutS (tx l) none (some (k : Int)) = tx (l.take k) := by
  unfold cutS
  simp only [tx_cps, tx_len, HT.sIx_none, HT.sIx_nat, List.drop_zero, Nat.sub_zero]
  unfold tx
  congr 2
  rcases Nat.le_total k l.length with h | h
  · rw [Nat.min_eq_left h]
  · rw [Nat.min_eq_right h, List.take_length, List.take_of_length_le h]
end
/-! ### more of texts; sorted texts -/
theorem cut_from (l : List Nat) (k : Nat) : cutS (tx l) (some (k : Int)) none = tx (l.drop k) := by
  unfold cutS
  simp only [tx_cps, tx_len, HT.sIx_none, HT.sIx_nat]
  unfold tx
  congr 2
  rcases Nat.le_total k l.length with h | h
  · rw [Nat.min_eq_left h, List.take_of_length_le (by rw [List.length_drop]; omega)]
  · rw [Nat.min_eq_right h, List.drop_eq_nil_of_le h, List.drop_length]
    simp
def sd (l : List Nat) : D := .str (tx l)
theorem enc_sd (l : List Nat) : encD (sd l) = .str (tx l) := rfl
theorem toPys_map {α : Type} {f : α → D} {g : α → PyData} (h : ∀ x, toPy (f x) = some (g x)) : ∀ xs : List α, toPys (xs.map f) = some (xs.map g)
  | [] => rfl
  | x :: xs => by simp [toPys, h, toPys_map h xs]
theorem srt_sd (xs : List (List Nat)) : Srt (xs.map sd) := by
  refine ⟨⟨_, toPys_map (f := sd) (g := fun l => PyData.str (tx l)) (fun _ => rfl) xs⟩, ?_, ?_, fun d hd => ?_⟩
  · rw [List.map_map]
    exact PySem.W.AllAlike.of (enc := encD ∘ sd) fun _ _ => by simp [enc_sd, PySem.W.alike]
  · rw [List.map_map]
    exact PySem.W.Sortable.others (enc := encD ∘ sd) fun b => ⟨by simp [enc_sd], fun ys => by simp [enc_sd]⟩
  · obtain ⟨l, _, rfl⟩ := List.mem_map.mp hd
    simp [enc_sd, PyData.depth]
theorem sortedK {es : List D} {S : Store} (h : Srt es) (hl : es.length ≤ 16777216) : sortedD [.lst es] S = .ok (.lst (es.mergeSort dLe)) S := by
  have h1 : rdL S (.lst es) = some es := rfl
  simp only [sortedD, h1]
  rw [if_pos ⟨h, by rw [size_eq]; exact hl⟩]
/-! ### what is to be shown, kept out of simp's reach -/
def Unk (_ : Prop) : Type := Unit
def Hide (p : Prop) (_ : Unk p) : Prop := p
theorem Hide.mk {p : Prop} {x : Unk p} (h : p) : Hide p x := h
section
variable {κ : Type} [DecidableEq κ]
theorem lookK_nil (k : κ) : lookK ([] : List (κ × D)) k = none := rfl
theorem lookK_cons (p : κ × D) (r : List (κ × D)) (k : κ) : lookK (p :: r) k = if p.1 = k then some p.2 else lookK r k := by
  unfold lookK
  by_cases h : p.1 = k <;> simp [List.find?_cons, h]
theorem lookK_app (a b : List (κ × D)) (k : κ) : lookK (a ++ b) k = (lookK a k).or (lookK b k) := by
  induction a with
  | nil => simp [lookK_nil]
  | cons p a ih =>
    rw [List.cons_append, lookK_cons, lookK_cons, ih]
    split <;> simp
theorem any_lookK (a : List (κ × D)) (k : κ) : (a.any fun kv => decide (kv.1 = k)) = (lookK a k).isSome := by
  induction a with
  | nil => rfl
  | cons p a ih =>
    rw [List.any_cons, lookK_cons, ih]
    by_cases h : p.1 = k <;> simp [h]
theorem lookK_put (kvs : List (κ × D)) (k k' : κ) (v : D) : lookK (putD kvs k v) k' = if k = k' then some v else lookK kvs k' := by
  unfold putD
  split
  · rename_i h
    rw [any_lookK] at h
    have : ∀ kvs : List (κ × D), lookK (kvs.map fun kv => if kv.1 = k then (kv.1, v) else kv) k' = if k = k' then (if (lookK kvs k).isSome = true then some v else none) else lookK kvs k' := by
      intro kvs
      induction kvs with
      | nil => simp [lookK_nil]
      | cons p r ih =>
        rw [List.map_cons, lookK_cons, ih, lookK_cons, lookK_cons]
        by_cases h1 : p.1 = k
        · by_cases h2 : k = k'
          · simp [h1, h2]
          · simp [h1, h2]
        · by_cases h2 : k = k'
          · subst h2; simp [h1]
          · simp [h1, h2]
    rw [this, h]
    simp
  · rename_i h
    rw [any_lookK] at h
    rw [lookK_app, lookK_cons, lookK_nil]
    by_cases h2 : k = k'
    · subst h2
      simp only [if_true]
      cases hl : lookK kvs k with
      | none => rfl
      | some z => rw [hl] at h; simp at h
    · simp [h2]
theorem lookK_merge_none (k : κ) : ∀ (ps acc : List (κ × D)), (∀ p ∈ ps, p.1 ≠ k) → lookK (mergeD acc ps) k = lookK acc k
  | [], acc, _ => rfl
  | p :: ps, acc, h => by
    show lookK (mergeD (putD acc p.1 p.2) ps) k = _
    rw [lookK_merge_none k ps _ fun q hq => h q (List.mem_cons_of_mem _ hq), lookK_put, if_neg (h p List.mem_cons_self)]
theorem lookK_merge_some (k : κ) (v : D) : ∀ (ps acc : List (κ × D)), (∀ p ∈ ps, p.1 = k → p.2 = v) → (lookK acc k = some v ∨ ∃ p ∈ ps, p.1 = k) → lookK (mergeD acc ps) k = some v
  | [], acc, _, h => h.elim (fun h => h) fun ⟨_, z, _⟩ => absurd z List.not_mem_nil
  | p :: ps, acc, h, h2 => by
    show lookK (mergeD (putD acc p.1 p.2) ps) k = _
    refine lookK_merge_some k v ps _ (fun q hq => h q (List.mem_cons_of_mem _ hq)) ?_
    rw [lookK_put]
    by_cases h3 : p.1 = k
    · rw [if_pos h3, h p List.mem_cons_self h3]
      exact .inl rfl
    · rw [if_neg h3]
      rcases h2 with h2 | ⟨q, hq, e⟩
      · exact .inl h2
      · rcases List.mem_cons.mp hq with rfl | hq
        · exact absurd e h3
        · exact .inr ⟨q, hq, e⟩
end
section
variable {S : Store} {l : Nat} {kvs : List (List Key × D)} {x y : Int}
theorem inT2 (n : Bool) (h : S[l]? = some (.dT kvs)) : inD n (.tup [.int x, .int y]) (.loc l) S = .ok (.bl (xor n (lookK kvs [.inl x, .inl y]).isSome)) S := by
  have h1 : pyS S (.tup [.int x, .int y]) = some (.tuple [.int x, .int y]) := rfl
  have h2 : pyS S (.loc l) = none := by simp [pyS, h]
  have h3 : dlook S (.loc l) (.tup [.int x, .int y]) = some (lookK kvs [.inl x, .inl y]) := by simp [dlook, h, obK, obT, keyOf, keysOf]
  simp only [inD, h1, h2, h3]
def ixE (S : Store) : Option D → Res D
  | some e => .ok e S
  | none => .stuck
@[simp] theorem ixE_some (e : D) : ixE S (some e) = .ok e S := (rfl)
end
end L3
namespace L3
open PySem PySem.Spec L2
/-! ### what is wanted, read from the front: one rule for each reading -/
abbrev XEv := Str → List (Str × D) → Store → Prop
def WfX (E : XEv) (r : Res Fl) (N : DSt → Store → Prop) (R : D → Store → Prop) (B C : DSt → Store → Prop) : Prop := match r with
  | .ok (.nx σ) S => N σ S
  | .ok (.rt d) S => R d S
  | .ok (.bk σ) S => B σ S
  | .ok (.ct σ) S => C σ S
  | .ok (.ex c fs _) S => E c fs S
  | _ => False
abbrev noE : XEv := fun _ _ _ => False
abbrev Wf (r : Res Fl) (N : DSt → Store → Prop) (R : D → Store → Prop) (B C : DSt → Store → Prop) : Prop := WfX noE r N R B C
/-- two ways -/
def Br (b : Bool) (p q : Prop) : Prop := if b = true then p else q
theorem br_t {p q : Prop} (h : p) : Br true p q := h
theorem br_f {p q : Prop} (h : q) : Br false p q := h
theorem br_T {b : Bool} {p q : Prop} (e : b = true) (h : p) : Br b p q := by subst e; exact h
theorem br_if {b : Bool} {p q : Prop} (h : b = true → p) (h' : b = false → q) : Br b p q := by cases b <;> simp_all [Br]
theorem br_dec {c : Prop} [i : Decidable c] {p q : Prop} (h : c → p) (h' : ¬ c → q) : Br (decide c) p q := by
  by_cases hc : c <;> simp_all [Br]
theorem br_not {b : Bool} {p q : Prop} (h : Br b q p) : Br (!b) p q := by cases b <;> simpa [Br] using h
theorem br_xt {b : Bool} {p q : Prop} (h : Br b q p) : Br (xor true b) p q := by cases b <;> simpa [Br] using h
theorem br_xf {b : Bool} {p q : Prop} (h : Br b p q) : Br (xor false b) p q := by cases b <;> simpa [Br] using h
section
variable {α β : Type} {σ σ' : DSt} {S : Store} {E : XEv} {N B C : DSt → Store → Prop} {R : D → Store → Prop} {a b c : DSt → Store → Res D} {ta tb : DSt → Store → Res Bool} {ms : DSt → Store → Res (List D)} {Q : D → Store → Prop} {QB : Bool → Store → Prop} {QL : List D → Store → Prop} {QS : Src → Store → Prop} {QG : DSt → Store → Prop}
theorem WfX.imp {r : Res Fl} {N' B' C' : DSt → Store → Prop} {R' : D → Store → Prop} (h : WfX E r N R B C) (h1 : ∀ σ S, N σ S → N' σ S) (h2 : ∀ d S, R d S → R' d S) (h3 : ∀ σ S, B σ S → B' σ S) (h4 : ∀ σ S, C σ S → C' σ S) : WfX E r N' R' B' C' := by
  cases r with
  | ok fl S => cases fl with
    | nx σ => exact h1 _ _ h
    | rt d => exact h2 _ _ h
    | bk σ => exact h3 _ _ h
    | ct σ => exact h4 _ _ h
    | ex _ _ _ => exact h
  | _ => exact h
/-! statements -/
theorem w_seq {a b : DSt → Store → Res Fl} (h : WfX E (a σ S) (fun σ S => WfX E (b σ S) N R B C) R B C) : WfX E (mSeq a b σ S) N R B C := by
  unfold mSeq thenS
  revert h
  cases a σ S with
  | ok fl S1 => cases fl <;> exact fun h => h
  | _ => exact fun h => h
theorem w_skip (h : N σ S) : WfX E (mSkip σ S) N R B C := h
theorem w_nx (h : N σ S) : WfX E (.ok (.nx σ) S) N R B C := h
theorem w_rt {d : D} (h : R d S) : WfX E (.ok (.rt d) S) N R B C := h
theorem w_bk (h : B σ S) : WfX E (.ok (.bk σ) S) N R B C := h
theorem w_ct (h : C σ S) : WfX E (.ok (.ct σ) S) N R B C := h
theorem w_lift {r : Res α} {f : α → Store → Res Fl} (h : Ok r fun x S => WfX E (f x S) N R B C) : WfX E (liftE r σ f) N R B C := by
  obtain ⟨x, S1, rfl, h⟩ := h; exact h
theorem w_do (h : Ok (a σ S) fun _ S => N σ S) : WfX E (mDo a σ S) N R B C := w_lift h
theorem w_ret (h : Ok (a σ S) R) : WfX E (mRet a σ S) N R B C := w_lift h
theorem w_ifs {x y : DSt → Store → Res Fl} (h : Ok (ta σ S) fun t S => Br t (WfX E (x σ S) N R B C) (WfX E (y σ S) N R B C)) : WfX E (mIfS ta x y σ S) N R B C :=
  w_lift (h.imp fun t S1 h => by cases t <;> exact h)
theorem w_set {i : Nat} (h : Ok (a σ S) fun d S => ∀ σ', σ.set i (some d) = σ' → N σ' S) : WfX E (mSet i a σ S) N R B C := w_lift (h.imp fun t S1 h => h _ rfl)
theorem w_asg {g : D → DSt → Store → Res DSt} (h : Ok (a σ S) fun d S => Ok (g d σ S) N) : WfX E (mAsg a g σ S) N R B C := w_lift (h.imp fun t S1 h => by
  obtain ⟨x, S2, e, h⟩ := h
  rw [e]; exact h)
theorem w_par {i j : Nat} (h : Ok (ms σ S) fun ds S => ∃ x y, ds = [x, y] ∧ ∀ σ', (σ.set i (some x)).set j (some y) = σ' → N σ' S) : WfX E (mPar i j ms σ S) N R B C := w_lift (h.imp fun t S1 h => by
  obtain ⟨x, y, rfl, h⟩ := h
  exact h _ rfl)
theorem w_for {mi : DSt → Store → Res Src} {g : D → DSt → Store → Res DSt} {b : DSt → Store → Res Fl} (h : Ok (mi σ S) fun src S => WfX E (forGo src.guard g b src.items σ S) N R B C) : WfX E (mFor mi g b σ S) N R B C := w_lift h
/-! expressions -/
theorem k_ok {x : α} {Q : α → Store → Prop} (h : Q x S) : Ok (.ok x S) Q := ⟨_, _, rfl, h⟩
theorem k_eq {r : Res α} {x : α} {Q : α → Store → Prop} (e : r = .ok x S) (h : Q x S) : Ok r Q := ⟨_, _, e, h⟩
theorem k_bind {r : Res α} {f : α → Store → Res β} {Q : β → Store → Prop} (h : Ok r fun x S => Ok (f x S) Q) : Ok (r.bind f) Q := h.bind fun _ _ h => h
theorem k_bindG {r : Res α} {f : α → Store → Res β} {Q : β → Store → Prop} (h : Ok r fun x S => Ok (f x S) Q) : Ok (bindG r f) Q := h.bindG fun _ _ h => h
theorem k_if {p : Prop} [Decidable p] {r : Res α} {Q : α → Store → Prop} (hp : p) (h : Ok r Q) : Ok (if p then r else .stuck) Q := by rw [if_pos hp]; exact h
theorem k_var {i : Nat} {d : D} (e : σ[i]? = some (some d)) (h : Q d S) : Ok (mVar i σ S) Q := ⟨d, S, e_var' i e, h⟩
theorem k_C {d : D} (h : Q d S) : Ok (mC d σ S) Q := ⟨_, _, rfl, h⟩
theorem k_m2 {f : D → D → Store → Res D} (h : Ok (a σ S) fun x S => Ok (b σ S) fun y S => Ok (f x y S) Q) : Ok (m2 a b f σ S) Q := k_bind (h.imp fun _ _ h => k_bind h)
theorem k_m1 {f : D → Store → Res D} (h : Ok (a σ S) fun x S => Ok (f x S) Q) : Ok (m1 a f σ S) Q := k_bind h
theorem k_nil (h : QL [] S) : Ok (mNil σ S) QL := ⟨_, _, rfl, h⟩
theorem k_cons (h : Ok (a σ S) fun x S => Ok (ms σ S) fun xs S => QL (x :: xs) S) : Ok (mCons a ms σ S) QL := k_bind (h.imp fun _ _ h => k_bind (h.imp fun _ _ h => k_ok h))
theorem k_tup (h : Ok (ms σ S) fun ds S => ds.length ≤ 16777216 ∧ Q (.tup ds) S) : Ok (mTup ms σ S) Q := k_bind (h.imp fun ds S h => k_if (by rw [size_eq]; exact h.1) (k_ok h.2))
theorem k_lst (h : Ok (ms σ S) fun ds S => ds.length ≤ 16777216 ∧ Q (.lst ds) S) : Ok (mLst ms σ S) Q := k_bind (h.imp fun ds S h => k_if (by rw [size_eq]; exact h.1) (k_ok h.2))
theorem k_lstM (h : Ok (ms σ S) fun ds S => ds.length ≤ 16777216 ∧ Q (.loc S.length) (S ++ [.lst ds])) : Ok (mLstM ms σ S) Q := k_bind (h.imp fun ds S h => k_if (by rw [size_eq]; exact h.1) (k_ok h.2))
theorem k_andV (h : Ok (a σ S) fun x S => ∃ t, x = .bl t ∧ Br t (Ok (b σ S) Q) (Q (.bl false) S)) : Ok (mAndV a b σ S) Q := k_bind (h.imp fun x S h => by
  obtain ⟨t, rfl, h⟩ := h
  cases t
  · exact k_ok h
  · exact h)
theorem k_orV (h : Ok (a σ S) fun x S => ∃ t, x = .bl t ∧ Br t (Q (.bl true) S) (Ok (b σ S) Q)) : Ok (mOrV a b σ S) Q := k_bind (h.imp fun x S h => by
  obtain ⟨t, rfl, h⟩ := h
  cases t
  · exact h
  · exact k_ok h)
theorem k_notV (h : Ok (a σ S) fun x S => ∃ t, x = .bl t ∧ Q (.bl (!t)) S) : Ok (mNotV a σ S) Q := k_bind (h.imp fun x S h => by
  obtain ⟨t, rfl, h⟩ := h
  exact k_ok h)
theorem k_ifx (h : Ok (ta σ S) fun t S => Br t (Ok (a σ S) Q) (Ok (b σ S) Q)) : Ok (mIf ta a b σ S) Q := k_bind (h.imp fun t S h => by cases t <;> exact h)
theorem k_neg (h : Ok (a σ S) fun x S => ∃ i, x = .int i ∧ Q (.int (-i)) S) : Ok (mNeg a σ S) Q := k_bind (h.imp fun x S h => by
  obtain ⟨t, rfl, h⟩ := h
  exact k_ok h)
theorem k_ch {f g : D → D → Store → Res D} (h : Ok (a σ S) fun x S => Ok (b σ S) fun y S => Ok (f x y S) fun z S => ∃ t, z = .bl t ∧ Br t (Ok (c σ S) fun w S => Ok (g y w S) Q) (Q (.bl false) S)) : Ok (mCh a b c f g σ S) Q :=
  k_bind (h.imp fun x S h => k_bind (h.imp fun y S h => k_bind (h.imp fun z S h => by
    obtain ⟨t, rfl, h⟩ := h
    cases t
    · exact k_ok h
    · exact k_bind h)))
/-! tests -/
theorem k_mT (h : Ok (a σ S) fun x S => ∃ t, x = .bl t ∧ QB t S) : Ok (mT a σ S) QB := k_bind (h.imp fun x S h => by
  obtain ⟨t, rfl, h⟩ := h
  exact k_ok h)
theorem k_andT (h : Ok (ta σ S) fun t S => Br t (Ok (tb σ S) QB) (QB false S)) : Ok (mAndT ta tb σ S) QB := k_bind (h.imp fun t S h => by
  cases t
  · exact k_ok h
  · exact h)
theorem k_orT (h : Ok (ta σ S) fun t S => Br t (QB true S) (Ok (tb σ S) QB)) : Ok (mOrT ta tb σ S) QB := k_bind (h.imp fun t S h => by
  cases t
  · exact h
  · exact k_ok h)
theorem k_notT (h : Ok (ta σ S) fun t S => QB (!t) S) : Ok (mNotT ta σ S) QB := k_bind (h.imp fun t S h => k_ok h)
theorem bl_of {t : Bool} {p : Bool → Prop} (h : p t) : ∃ u, D.bl t = .bl u ∧ p u := ⟨t, rfl, h⟩
theorem int_of {t : Int} {p : Int → Prop} (h : p t) : ∃ u, D.int t = .int u ∧ p u := ⟨t, rfl, h⟩
/-! calls -/
theorem k_cb {g : List D → Store → Res D} (h : Ok (ms σ S) fun ds S => Ok (g ds S) Q) : Ok (mCB g ms σ S) Q := k_bind h
theorem k_call {n : Nat} {den : List D → Store → Res D} (h : Ok (ms σ S) fun ds S => ds.length = n ∧ Ok (den ds S) Q) : Ok (mCall n den ms σ S) Q := k_bind (h.imp fun ds S h => k_if h.1 (by
  obtain ⟨x, S1, e, q⟩ := h.2
  exact ⟨x, S1, by rw [e]; rfl, q⟩))
theorem k_bm {T : String} {g : D → List D → Store → Res D} (h : Ok (a σ S) fun d S => tyOk T S d = true ∧ Ok (ms σ S) fun ds S => Ok (g d ds S) Q) : Ok (mBM T g a ms σ S) Q := k_bind (h.imp fun d S h => k_if h.1 (k_bind h.2))
theorem k_get1 (h : Ok (a σ S) fun d S => isDl S d = true ∧ Ok (b σ S) fun k S => ∃ o, dlook S d k = some o ∧ Q (o.getD .non) S) : Ok (mGet1 a b σ S) Q := k_bind (h.imp fun d S h => k_if h.1 (k_bind (h.2.imp fun k S h => by
  obtain ⟨o, e, h⟩ := h
  rw [e]
  cases o <;> exact k_ok h)))
theorem k_get2 (h : Ok (a σ S) fun d S => isDl S d = true ∧ Ok (b σ S) fun k S => Ok (c σ S) fun x S => ∃ o, dlook S d k = some o ∧ Q (o.getD x) S) : Ok (mGet2 a b c σ S) Q := k_bind (h.imp fun d S h => k_if h.1 (k_bind (h.2.imp fun k S h => k_bind (h.imp fun x S h => by
  obtain ⟨o, e, h⟩ := h
  rw [e]
  cases o <;> exact k_ok h))))
theorem k_lc {mi : DSt → Store → Res Src} {g : D → DSt → Store → Res DSt} {vs : List Nat} (h : Ok (mi σ S) fun src S => ∀ σ', dwipe σ vs = σ' → Ok (lcGo src.guard g ta a σ' src.items S) fun ys S => Q (.lst ys) S) : Ok (mLc mi g ta a vs σ S) Q := by
  rw [e_lc]
  exact k_bind (h.imp fun src S h => k_bindG ((h _ rfl).imp fun ys S h => k_ok h))
theorem k_lcM {mi : DSt → Store → Res Src} {g : D → DSt → Store → Res DSt} {vs : List Nat} (h : Ok (mi σ S) fun src S => ∀ σ', dwipe σ vs = σ' → Ok (lcGo src.guard g ta a σ' src.items S) fun ys S => Q (.loc S.length) (S ++ [.lst ys])) : Ok (mLcM mi g ta a vs σ S) Q := by
  rw [e_lcM]
  exact k_bind (h.imp fun src S h => k_bindG ((h _ rfl).imp fun ys S h => k_ok h))
theorem k_sl {ml mh : DSt → Store → Res (Option Int)} (h : Ok (a σ S) fun d S => Ok (ml σ S) fun lo S => Ok (mh σ S) fun hi S => Ok (sliceD d lo hi S) Q) : Ok (mSl a ml mh σ S) Q := by
  rw [e_sl]
  exact k_bind (h.imp fun d S h => k_bind (h.imp fun l S h => k_bind h))
theorem k_nopart {QO : Option Int → Store → Prop} (h : QO none S) : Ok (mNoPart σ S) QO := k_ok h
theorem k_part {QO : Option Int → Store → Prop} (h : Ok (a σ S) fun d S => ∃ i, d = .int i ∧ QO (some i) S) : Ok (mPart a σ S) QO := k_bind (h.imp fun d S h => by
  obtain ⟨i, rfl, h⟩ := h
  exact k_ok h)
/-! targets -/
theorem k_gname {i : Nat} {d : D} (h : ∀ σ', σ.set i (some d) = σ' → QG σ' S) : Ok (gtName i d σ S) QG := ⟨_, _, rfl, h _ rfl⟩
theorem k_gnil (h : QG σ S) : Ok (gtNil [] σ S) QG := ⟨_, _, rfl, h⟩
theorem k_gcons {f : D → DSt → Store → Res DSt} {g : List D → DSt → Store → Res DSt} {d : D} {ds : List D} (h : Ok (f d σ S) fun σ S => Ok (g ds σ S) QG) : Ok (gtCons f g (d :: ds) σ S) QG := by
  rw [e_gcons]
  exact k_bindG h
theorem k_gtup {n : Nat} {g : List D → DSt → Store → Res DSt} {ds : List D} (hn : ds.length = n) (h : Ok (g ds σ S) QG) : Ok (gtTup n g (.tup ds) σ S) QG := by
  rw [e_gtup]
  exact k_if hn h
theorem k_gktp {n : Nat} {g : List D → DSt → Store → Res DSt} {ds : List D} (hn : ds.length = n) (h : Ok (g ds σ S) QG) : Ok (gtTup n g (.ktp ds) σ S) QG := by
  rw [e_gktp]
  exact k_if hn h
theorem k_gsub {f : D → D → D → Store → Res Unit} {d : D} (h : Ok (a σ S) fun o S => Ok (b σ S) fun i S => Ok (f o i d S) fun _ S => QG σ S) : Ok (gtSub a b f d σ S) QG := by
  rw [e_gsub]
  exact k_bindG (h.imp fun o S h => k_bindG (h.imp fun i S h => k_bindG (h.imp fun _ S h => k_ok h)))
/-! what is walked over -/
theorem k_seqi (h : Ok (a σ S) fun d S => ∃ s, seqSrc d S = some s ∧ QS s S) : Ok (mSeqI a σ S) QS := by
  rw [e_seqi]
  exact k_bind (h.imp fun d S h => by
    obtain ⟨s, e, h⟩ := h
    rw [e]; exact k_ok h)
theorem k_rng1 (h : Ok (ms σ S) fun ds S => ∃ (i : Int) (n : Nat), ds = [.int i] ∧ i = (n : Int) ∧ n ≤ 16777216 ∧ QS ⟨(List.range n).map fun k : Nat => D.int k, []⟩ S) : Ok (mRng1 ms σ S) QS := by
  rw [e_rng1]
  refine k_bind (h.imp fun ds S h => ?_)
  obtain ⟨i, n, rfl, rfl, h1, h2⟩ := h
  refine k_eq (rng1K_nat (by rw [size_eq]; exact h1)) ?_
  simpa [rangeD] using h2
theorem enumD_eq : ∀ (k : Nat) (ds : List D), enumD k ds = (ds.zipIdx k).map fun p : D × Nat => D.tup [.int p.2, p.1]
  | _, [] => rfl
  | k, d :: ds => by simp [enumD, enumD_eq (k + 1) ds]
theorem k_enum (h : Ok (ms σ S) fun ds S => ∃ d s, ds = [d] ∧ lstSrc d S = some s ∧ QS ⟨(s.items.zipIdx).map fun p : D × Nat => D.tup [.int p.2, p.1], s.guard⟩ S) : Ok (mEnum ms σ S) QS := by
  rw [e_enum]
  refine k_bind (h.imp fun ds S h => ?_)
  obtain ⟨d, s, rfl, e, h⟩ := h
  refine k_eq (x := ⟨enumD 0 s.items, s.guard⟩) (S := S) (by simp only [enumK, e]) ?_
  rw [enumD_eq]
  exact h
/-! loops -/
theorem den_ok {n : Nat} {m : DSt → Store → Res Fl} {ds : List D} {P : D → Store → Prop} (e : ds.map some ++ List.replicate (n - ds.length) none = σ) (h : Wf (m σ S) (fun _ S => P .non S) P (fun _ _ => False) (fun _ _ => False)) : Ok (denOf n m ds S) P := by
  subst e
  rw [den_eq]
  revert h
  cases m (ds.map some ++ List.replicate (n - ds.length) none) S with
  | ok fl S1 => cases fl with
    | nx σ => exact fun h => ⟨_, _, rfl, h⟩
    | rt d => exact fun h => ⟨_, _, rfl, h⟩
    | ex _ _ _ => exact fun h => h.elim
    | _ => exact fun h => h.elim
  | _ => exact fun h => h.elim
/-- a loop by what holds between its turns -/
theorem w_loop {gd : List (Nat × Ob)} {g : D → DSt → Store → Res DSt} {b : DSt → Store → Res Fl} {ds : List D} (I : Nat → DSt → Store → Prop) (h0 : I 0 σ S) (hg : ∀ j σ S, I j σ S → gOk gd S)
    (hs : ∀ j d σ S, ds[j]? = some d → I j σ S → Ok (g d σ S) fun σ S => Wf (b σ S) (I (j + 1)) R N (I (j + 1))) (he : ∀ σ S, I ds.length σ S → N σ S) : WfX E (forGo gd g b ds σ S) N R B C := by
  have h := forGo_ok (gd := gd) (g := g) (b := b) I N R ds 0 h0 hg (fun j d σ S hd hi => by
    rw [Nat.zero_add] at hi ⊢
    obtain ⟨σ1, S1, e, q⟩ := hs j d σ S hd hi
    rw [e, bindG_ok]
    revert q
    cases b σ1 S1 with
    | ok fl S2 => cases fl with
      | ex _ _ _ => exact fun q => q.elim
      | _ => exact fun q => ⟨_, _, rfl, q⟩
    | _ => exact fun q => q.elim) (fun σ S hi => he σ S (by rwa [Nat.zero_add] at hi))
  obtain ⟨fl, S1, e, q⟩ := h
  rw [e]
  cases fl with
  | nx _ => exact q
  | rt _ => exact q
  | _ => exact q.elim
/-- the same, the things one by one -/
theorem w_each {gd : List (Nat × Ob)} {γ : Type} {xs : List γ} {f : γ → D} {g : D → DSt → Store → Res DSt} {b : DSt → Store → Res Fl} (I : List γ → DSt → Store → Prop) (h0 : I [] σ S) (hg : ∀ l σ S, I l σ S → gOk gd S)
    (hs : ∀ l x r σ S, xs = l ++ x :: r → I l σ S → Ok (g (f x) σ S) fun σ S => Wf (b σ S) (I (l ++ [x])) R N (I (l ++ [x]))) (he : ∀ σ S, I xs σ S → N σ S) : WfX E (forGo gd g b (xs.map f) σ S) N R B C := by
  refine w_loop (fun j σ S => I (xs.take j) σ S) h0 (fun j => hg _) (fun j d σ S hd hi => ?_) (fun σ S h => he σ S (by simpa using h))
  obtain ⟨hj, e⟩ := List.getElem?_eq_some_iff.mp hd
  rw [List.length_map] at hj
  rw [List.getElem_map] at e
  subst e
  have e2 : xs.take (j + 1) = xs.take j ++ [xs[j]] := by rw [List.take_succ, List.getElem?_eq_getElem hj]; rfl
  rw [e2]
  refine hs (xs.take j) xs[j] (xs.drop (j + 1)) σ S ?_ hi
  rw [← List.drop_eq_getElem_cons hj, List.take_append_drop]
/-- a comprehension by what holds between its turns -/
theorem k_lcI {gd : List (Nat × Ob)} {g : D → DSt → Store → Res DSt} {ds : List D} (I : Nat → Store → List D → Prop) (h0 : I 0 S []) (hg : ∀ j S acc, I j S acc → gOk gd S)
    (hs : ∀ j d S acc, ds[j]? = some d → I j S acc → Ok (g d σ S) fun σ S => Ok (ta σ S) fun t S => Br t (Ok (a σ S) fun y S => I (j + 1) S (acc ++ [y])) (I (j + 1) S acc)) (he : ∀ ys S, I ds.length S ys → QL ys S) : Ok (lcGo gd g ta a σ ds S) QL := by
  refine (lcGo_ok (gd := gd) I ds 0 [] h0 hg (fun j d S acc hd hi => ?_)).imp fun ys S' h => he ys S' (by simpa using h)
  rw [Nat.zero_add] at hi ⊢
  refine k_bindG ((hs j d S acc hd hi).imp fun σ1 S1 h => k_bindG (h.imp fun t S2 h => ?_))
  cases t with
  | true => exact k_bindG (Ok.imp (show Ok (a σ1 S2) _ from h) fun y S3 h => k_ok h)
  | false =>
    have h : I (j + 1) S2 acc := h
    exact k_ok (by simpa using h)
/-- one that leaves all as it was -/
theorem k_lcP {gd : List (Nat × Ob)} {γ : Type} {xs : List γ} {f : γ → D} {g : D → DSt → Store → Res DSt} (p : γ → Bool) (h : γ → D) (hg : gOk gd S)
    (hs : ∀ x ∈ xs, Ok (g (f x) σ S) fun σ S' => Ok (ta σ S') fun t S' => t = p x ∧ Br (p x) (Ok (a σ S') fun y S' => y = h x ∧ S' = S) (S' = S)) (he : QL ((xs.filter p).map h) S) : Ok (lcGo gd g ta a σ (xs.map f) S) QL := by
  refine k_lcI (fun j S' acc => S' = S ∧ acc = ((xs.take j).filter p).map h) ⟨rfl, rfl⟩ (fun _ _ _ h => by rw [h.1]; exact hg) (fun j d S' acc hd hi => ?_) (fun ys S' h => by
    obtain ⟨rfl, rfl⟩ := h
    simpa using he)
  obtain ⟨rfl, rfl⟩ := hi
  obtain ⟨hj, e⟩ := List.getElem?_eq_some_iff.mp hd
  rw [List.length_map] at hj
  rw [List.getElem_map] at e
  subst e
  have e2 : xs.take (j + 1) = xs.take j ++ [xs[j]] := by rw [List.take_succ, List.getElem?_eq_getElem hj]; rfl
  refine (hs xs[j] (List.getElem_mem hj)).imp fun σ1 S1 h1 => h1.imp fun t S2 h2 => ?_
  obtain ⟨rfl, h2⟩ := h2
  cases hp : p xs[j] with
  | true =>
    rw [hp] at h2
    refine Ok.imp (show Ok (a σ1 S2) _ from h2) fun y S3 h3 => ?_
    obtain ⟨rfl, rfl⟩ := h3
    refine ⟨rfl, ?_⟩
    rw [e2, List.filter_append, List.map_append, List.filter_cons_of_pos hp]
    rfl
  | false =>
    rw [hp] at h2
    have : S2 = S' := h2
    refine ⟨this, ?_⟩
    rw [e2, List.filter_append, List.filter_cons_of_neg (by rw [hp]; exact Bool.false_ne_true), List.filter_nil, List.append_nil]
/-- without an if -/
theorem k_lcM1 {gd : List (Nat × Ob)} {γ : Type} {xs : List γ} {f : γ → D} {g : D → DSt → Store → Res DSt} (h : γ → D) (hg : gOk gd S)
    (hs : ∀ x ∈ xs, Ok (g (f x) σ S) fun σ S' => Ok (a σ S') fun y S' => y = h x ∧ S' = S) (he : QL (xs.map h) S) : Ok (lcGo gd g (fun _ S => .ok true S) a σ (xs.map f) S) QL := by
  refine k_lcP (fun _ => true) h hg (fun x hx => (hs x hx).imp fun σ1 S1 h1 => k_ok ⟨rfl, h1⟩) ?_
  rw [List.filter_eq_self.mpr (by simp)]
  exact he
end
/-! ### single steps at values -/
section
variable {S : Store} {Q : D → Store → Prop} {i j : Int} {ds es : List D} {d e : D} {x y : Str} {l k n : Nat} {la lb : List Nat}
theorem p_add (h : Q (.int (i + j)) S) : Ok (addD (.int i) (.int j) S) Q := k_eq e_add h
theorem p_addS (hl : la.length + lb.length ≤ 16777216) (h : Q (.str (tx (la ++ lb))) S) : Ok (addD (.str (tx la)) (.str (tx lb)) S) Q := k_eq (addTK hl) h
theorem p_addT (hl : ds.length + es.length ≤ 16777216) (h : Q (.tup (ds ++ es)) S) : Ok (addD (.tup ds) (.tup es) S) Q := by rw [e_addT]; exact k_if (by rw [size_eq]; exact hl) (k_ok h)
theorem p_addL (hl : ds.length + es.length ≤ 16777216) (h : Q (.lst (ds ++ es)) S) : Ok (addD (.lst ds) (.lst es) S) Q := by rw [e_addL]; exact k_if (by rw [size_eq]; exact hl) (k_ok h)
theorem p_addM (hl : ds.length + es.length ≤ 16777216) (h : Q (.loc S.length) (S ++ [.lst (ds ++ es)])) : Ok (addMD (.lst ds) (.lst es) S) Q := by
  have e : addMD (.lst ds) (.lst es) S = if ds.length + es.length ≤ sizeLine then .ok (.loc S.length) (S ++ [.lst (ds ++ es)]) else .stuck := rfl
  rw [e]; exact k_if (by rw [size_eq]; exact hl) (k_ok h)
theorem p_addLO (e1 : S[l]? = some (.lst ds)) (hl : ds.length + es.length ≤ 16777216) (h : Q (.lst (ds ++ es)) S) : Ok (addD (.loc l) (.lst es) S) Q := by
  have e : addD (.loc l) (.lst es) S = match exL S (.loc l), exL S (.lst es) with
    | some a, some b => if a.length + b.length ≤ sizeLine then .ok (.lst (a ++ b)) S else .stuck
    | _, _ => .stuck := rfl
  have h1 : exL S (.loc l) = some ds := by simp [exL, e1]
  have h2 : exL S (.lst es) = some es := rfl
  rw [e, h1, h2]
  exact k_if (by rw [size_eq]; exact hl) (k_ok h)
theorem p_sub (h : Q (.int (i - j)) S) : Ok (subD (.int i) (.int j) S) Q := k_eq e_sub h
theorem p_mulR (h1 : -(2 ^ 64) < j) (h2 : j < 2 ^ 64) (h : Q (.int (i * j)) S) : Ok (mulX (.int i) (.int j) S) Q := by rw [e_mul]; exact k_if (.inl (.inr ⟨h1, h2⟩)) (k_ok h)
theorem p_mulL (h1 : -(2 ^ 64) < i) (h2 : i < 2 ^ 64) (h : Q (.int (i * j)) S) : Ok (mulX (.int i) (.int j) S) Q := by rw [e_mul]; exact k_if (.inl (.inl ⟨h1, h2⟩)) (k_ok h)
theorem p_mulW (hc : CMul i j ∨ CMulW i j) (h : Q (.int (i * j)) S) : Ok (mulX (.int i) (.int j) S) Q := by rw [e_mul]; exact k_if hc (k_ok h)
theorem p_fdiv (h1 : 0 < j) (h2 : j < 18446744073709551616) (h : Q (.int (i / j)) S) : Ok (fdivD (.int i) (.int j) S) Q := by rw [e_fdiv]; exact k_if (divOk h1 h2) (k_ok h)
theorem p_mod (h1 : 0 < j) (h : Q (.int (i % j)) S) : Ok (modD (.int i) (.int j) S) Q := by rw [e_mod]; exact k_if h1 (k_ok h)
theorem p_lt (h : Q (.bl (decide (i < j))) S) : Ok (ltD (.int i) (.int j) S) Q := k_eq e_lt h
theorem p_ltS (h : Q (.bl (decide (la < lb))) S) : Ok (ltD (.str (tx la)) (.str (tx lb)) S) Q := ⟨_, _, rfl, h⟩
theorem p_cmp {p : Int → Int → Bool} (h : Q (.bl (p i j)) S) : Ok (cmpI p (.int i) (.int j) S) Q := ⟨_, _, rfl, h⟩
theorem p_eqI {b : Bool} (h : Q (.bl (xor b (decide (i = j)))) S) : Ok (eqD b (.int i) (.int j) S) Q := k_eq (e_eqI b) h
theorem p_isN {b : Bool} (h : Q (.bl (!b)) S) : Ok (isND b .non .non S) Q := by cases b <;> exact ⟨_, _, rfl, h⟩
theorem p_ixT (e : atI ds i = some d) (h : Q d S) : Ok (ixD (.tup ds) (.int i) S) Q := by rw [e_ix_tup, e]; exact k_ok h
theorem p_ixL (e : atI ds i = some d) (h : Q d S) : Ok (ixD (.lst ds) (.int i) S) Q := by rw [e_ix_lst, e]; exact k_ok h
theorem p_ixF (e : atI ds i = some d) (h : Q d S) : Ok (ixD (.frz ds) (.int i) S) Q := by rw [e_ix_frz, e]; exact k_ok h
theorem p_ixO (e1 : S[l]? = some (.lst ds)) (e : atI ds i = some d) (h : Q d S) : Ok (ixD (.loc l) (.int i) S) Q := by rw [e_ix_loc e1, e]; exact k_ok h
theorem p_ixTm {α : Type} {xs : List α} {f : α → D} {x : α} (e : xs[k]? = some x) (h : Q (f x) S) : Ok (ixD (.tup (xs.map f)) (.int (k : Nat)) S) Q := p_ixT (by rw [atI_nat, List.getElem?_map, e]; rfl) h
theorem p_ixLm {α : Type} {xs : List α} {f : α → D} {x : α} (e : xs[k]? = some x) (h : Q (f x) S) : Ok (ixD (.lst (xs.map f)) (.int (k : Nat)) S) Q := p_ixL (by rw [atI_nat, List.getElem?_map, e]; rfl) h
theorem p_ixFm {α : Type} {xs : List α} {f : α → D} {x : α} (e : xs[k]? = some x) (h : Q (f x) S) : Ok (ixD (.frz (xs.map f)) (.int (k : Nat)) S) Q := p_ixF (by rw [atI_nat, List.getElem?_map, e]; rfl) h
theorem p_ixS {c : Nat} (hl : la.length ≤ 16777216) (e : atI la i = some c) (h : Q (.str (tx [c])) S) : Ok (ixD (.str (tx la)) (.int i) S) Q := by
  rw [e_ix_str, if_pos (by rw [tx_len, size_eq]; exact hl), tx_cps, e]
  exact k_ok h
theorem p_slT {lo hi : Option Int} (h : Q (.tup (L3.cut ds lo hi)) S) : Ok (sliceD (.tup ds) lo hi S) Q := k_eq (e_sl_tup lo hi) h
theorem p_slL {lo hi : Option Int} (h : Q (.lst (L3.cut ds lo hi)) S) : Ok (sliceD (.lst ds) lo hi S) Q := k_eq (e_sl_lst lo hi) h
theorem p_slF {lo hi : Option Int} (h : Q (.lst (L3.cut ds lo hi)) S) : Ok (sliceD (.frz ds) lo hi S) Q := k_eq (e_sl_frz lo hi) h
theorem p_slS {lo hi : Option Int} (hl : la.length ≤ 16777216) (h : Q (.str (cutS (tx la) lo hi)) S) : Ok (sliceD (.str (tx la)) lo hi S) Q := by
  rw [e_sl_str]; exact k_if (by rw [tx_len, size_eq]; exact hl) (k_ok h)
theorem p_lenT (h : Q (.int ds.length) S) : Ok (lenD [.tup ds] S) Q := ⟨_, _, rfl, h⟩
theorem p_lenL (h : Q (.int ds.length) S) : Ok (lenD [.lst ds] S) Q := ⟨_, _, rfl, h⟩
theorem p_lenF (h : Q (.int ds.length) S) : Ok (lenD [.frz ds] S) Q := ⟨_, _, rfl, h⟩
theorem p_lenK (h : Q (.int ds.length) S) : Ok (lenD [.ktp ds] S) Q := ⟨_, _, rfl, h⟩
theorem p_lenS (hl : la.length ≤ 16777216) (h : Q (.int la.length) S) : Ok (lenD [.str (tx la)] S) Q := by
  rw [e_len_str]; exact k_if (by rw [tx_len, size_eq]; exact hl) (k_ok (by rw [tx_len]; exact h))
theorem p_lenO (e : S[l]? = some (.lst ds)) (h : Q (.int ds.length) S) : Ok (lenD [.loc l] S) Q := k_eq (e_len_loc e) h
theorem p_abs (h : Q (.int (if i < 0 then -i else i)) S) : Ok (absD [.int i] S) Q := ⟨_, _, rfl, h⟩
theorem p_max2 (h : Q (.int (if j > i then j else i)) S) : Ok (max2D [.int i, .int j] S) Q := ⟨_, _, rfl, h⟩
theorem p_min2 (h : Q (.int (if j < i then j else i)) S) : Ok (min2D [.int i, .int j] S) Q := ⟨_, _, rfl, h⟩
theorem p_int (h : Q (.int i) S) : Ok (intD [.int i] S) Q := ⟨_, _, rfl, h⟩
theorem p_intB {b : Bool} (h : Q (.int (if b = true then 1 else 0)) S) : Ok (intD [.bl b] S) Q := ⟨_, _, rfl, h⟩
theorem p_tupL (h : Q (.tup ds) S) : Ok (tupleD [.lst ds] S) Q := ⟨_, _, rfl, h⟩
theorem p_tupT (h : Q (.tup ds) S) : Ok (tupleD [.tup ds] S) Q := ⟨_, _, rfl, h⟩
theorem p_tupF (h : Q (.tup ds) S) : Ok (tupleD [.frz ds] S) Q := ⟨_, _, rfl, h⟩
theorem p_tupO (e : S[l]? = some (.lst ds)) (h : Q (.tup ds) S) : Ok (tupleD [.loc l] S) Q := k_eq (e_tuple_loc e) h
theorem p_listL (h : Q (.lst ds) S) : Ok (listD false [.lst ds] S) Q := ⟨_, _, rfl, h⟩
theorem p_listT (h : Q (.lst ds) S) : Ok (listD false [.tup ds] S) Q := ⟨_, _, rfl, h⟩
theorem p_listF (h : Q (.lst ds) S) : Ok (listD false [.frz ds] S) Q := ⟨_, _, rfl, h⟩
theorem p_app (e1 : S[l]? = some (.lst ds)) (hl : ds.length < 16777216) (h : ∀ S', S.set l (.lst (ds ++ [d])) = S' → Q .non S') : Ok (appendD (.loc l) [d] S) Q := k_eq (e_append e1 (by rw [size_eq]; exact hl)) (h _ rfl)
theorem p_extL (e1 : S[l]? = some (.lst ds)) (hl : ds.length + es.length ≤ 16777216) (h : ∀ S', S.set l (.lst (ds ++ es)) = S' → Q .non S') : Ok (extendD (.loc l) [.lst es] S) Q := by
  have : extendD (.loc l) [.lst es] S = if ds.length + es.length ≤ sizeLine then .ok .non (S.set l (.lst (ds ++ es))) else .stuck := by simp only [extendD, mutL, e1, exL]
  rw [this]
  exact k_if (by rw [size_eq]; exact hl) (k_ok (h _ rfl))
theorem p_setL (e1 : S[l]? = some (.lst ds)) (hk : ixN ds.length i = some k) {Q : Unit → Store → Prop} (h : ∀ S', S.set l (.lst (ds.set k d)) = S' → Q () S') : Ok (setD (.loc l) (.int i) d S) Q := k_eq (set_loc e1 hk) (h _ rfl)
theorem p_setT {kvs : List (List Key × D)} {ks : List D} {key : List Key} (e1 : S[l]? = some (.dT kvs)) (hk : keysOf ks = some key) (hl : kvs.length < 16777216) {Q : Unit → Store → Prop} (h : ∀ S', S.set l (.dT (putD kvs key d)) = S' → Q () S') : Ok (setD (.loc l) (.tup ks) d S) Q := by
  have : setD (.loc l) (.tup ks) d S = .ok () (S.set l (.dT (putD kvs key d))) := by
    simp only [setD, e1, hk]
    rw [if_pos (by rw [size_eq]; exact hl)]
  exact k_eq this (h _ rfl)
end
/-! ### stores and slots: what is seen of them -/
theorem st_get {S t : Store} {n k : Nat} (h : S.length = n) : (S ++ t)[n + k]? = t[k]? := by
  subst h
  rw [List.getElem?_append_right (by omega)]
  congr 1
  omega
theorem st_get0 {S t : Store} {n : Nat} (h : S.length = n) : (S ++ t)[n]? = t[0]? := st_get (k := 0) h
theorem st_set {S t : Store} {n k : Nat} {o : Ob} (h : S.length = n) : (S ++ t).set (n + k) o = S ++ t.set k o := by
  subst h
  rw [List.set_append_right _ _ (by omega)]
  congr 2
  omega
/-! ### texts by their signs -/
theorem pm_strT {X : Cx} {W : XW} {i : Str} {l : List Nat} {j pos} (e : i = tx l) : PM X W (.Constant (.str i) j pos) (mC (.str (tx l))) := e ▸ pm_str
end L3
namespace L3
open PySem PySem.Spec L2
/-! ### rows of whole numbers in order -/
def it (l : List Int) : D := .tup (l.map D.int)
def ile (a b : List Int) : Bool := decide (a ≤ b)
theorem ile_trans (a b c : List Int) (h : ile a b = true) (h' : ile b c = true) : ile a c = true := by
  simp only [ile, decide_eq_true_eq] at *
  exact List.le_trans h h'
theorem ile_total (a b : List Int) : (ile a b || ile b a) = true := by
  simp only [ile, Bool.or_eq_true, decide_eq_true_eq]
  exact List.le_total a b
section
variable {β : Type} (f : β → List Int)
def sortBy (xs : List β) : List β := xs.mergeSort fun a b => ile (f a) (f b)
theorem sortBy_perm (xs : List β) : (sortBy f xs).Perm xs := List.mergeSort_perm _ _
theorem sortBy_le (xs : List β) : (sortBy f xs).Pairwise fun a b => ile (f a) (f b) = true :=
  List.pairwise_mergeSort (le := fun a b => ile (f a) (f b)) (fun a b c => ile_trans (f a) (f b) (f c)) (fun a b => ile_total (f a) (f b)) xs
theorem sortBy_id {xs : List β} (h : xs.Pairwise fun a b => ile (f a) (f b) = true) : sortBy f xs = xs := List.mergeSort_of_pairwise h
theorem sortBy_mem {xs : List β} {x : β} : x ∈ sortBy f xs ↔ x ∈ xs := (sortBy_perm f xs).mem_iff
theorem sortBy_len (xs : List β) : (sortBy f xs).length = xs.length := (sortBy_perm f xs).length_eq
end
theorem toks_ints (xs ys : List Int) : PySem.W.rowLt (xs.map PyData.int) (ys.map PyData.int) = decide (xs < ys) := PySem.W.dataLt_ints xs ys
theorem enc_it (l : List Int) : encD (it l) = .tuple (l.map PyData.int) := by
  simp only [encD, it, toPy, toPys_ints]
  rfl
theorem dLe_it (a b : List Int) : dLe (it a) (it b) = ile a b := by
  have e : dLe (it a) (it b) = !PySem.W.dataLt (encD (it b)) (encD (it a)) := by
    unfold dLe
    rw [PySem.W.dataLe_eq]
    rfl
  rw [e, enc_it, enc_it, PySem.W.dataLt_tuple]
  show (!PySem.W.rowLt (b.map PyData.int) (a.map PyData.int)) = _
  rw [toks_ints]
  unfold ile
  by_cases h : b < a
  · have h' : ¬ a ≤ b := fun r => List.not_lt.mpr r h
    simp [h, h']
  · have h' : a ≤ b := List.not_lt.mp h
    simp [h, h']
theorem alike_ints : ∀ xs ys : List Int, PySem.W.alikeAll (xs.map PyData.int) (ys.map PyData.int) = true
  | [], _ => by simp [PySem.W.alikeAll]
  | _ :: _, [] => by simp [PySem.W.alikeAll]
  | x :: xs, y :: ys => by simp [PySem.W.alikeAll, PySem.W.alike, alike_ints xs ys]
theorem srt_it {xs : List (List Int)} (h : ∀ x ∈ xs, x ≠ []) : Srt (xs.map it) := by
  have hp : ∀ l : List Int, toPy (it l) = some (.tuple (l.map PyData.int)) := fun l => by simp only [it, toPy, toPys_ints]; rfl
  refine ⟨⟨_, toPys_map hp xs⟩, ?_, .inl fun d hd => ?_, fun d hd => ?_⟩
  · rw [List.map_map]
    exact PySem.W.AllAlike.of (enc := encD ∘ it) fun a b => by
      simp only [Function.comp, enc_it, PySem.W.alike]
      exact alike_ints a b
  · rw [List.map_map] at hd
    obtain ⟨l, hl, rfl⟩ := List.mem_map.mp hd
    simp only [Function.comp, enc_it]
    cases l with
    | nil => exact absurd rfl (h _ hl)
    | cons a r => exact ⟨_, _, rfl⟩
  · obtain ⟨l, hl, rfl⟩ := List.mem_map.mp hd
    rw [enc_it]
    simp [PyData.depth, depth_ints]
theorem sorted_it {β : Type} (f : β → List Int) {xs : List β} {S : Store} (h : ∀ x ∈ xs, f x ≠ []) (hl : xs.length ≤ 16777216) : sortedD [.lst (xs.map fun x => it (f x))] S = .ok (.lst ((sortBy f xs).map fun x => it (f x))) S := by
  have e : (xs.map fun x => it (f x)) = (xs.map f).map it := by rw [List.map_map]; rfl
  rw [sortedK (by rw [e]; exact srt_it fun x hx => by obtain ⟨y, hy, rfl⟩ := List.mem_map.mp hx; exact h y hy) (by simpa using hl)]
  unfold sortBy
  rw [List.map_mergeSort (f := fun x => it (f x)) (r := fun a b => ile (f a) (f b)) (s := dLe) (fun a _ b _ => (dLe_it (f a) (f b)).symm)]
/-! ### tiles, and dicts from places to numbers -/
abbrev Tl := Int × Int × Int
def tk (t : Tl) : List Int := [t.1, t.2.1, t.2.2]
abbrev tl (t : Tl) : D := .tup [.int t.1, .int t.2.1, .int t.2.2]
def sortT (xs : List Tl) : List Tl := sortBy tk xs
theorem sorted_tl {xs : List Tl} {S : Store} (hl : xs.length ≤ 16777216) : sortedD [.lst (xs.map tl)] S = .ok (.lst ((sortT xs).map tl)) S := sorted_it tk (fun _ _ => by simp [tk]) hl
theorem sortT_mem {xs : List Tl} {t : Tl} : t ∈ sortT xs ↔ t ∈ xs := sortBy_mem tk
theorem sortT_len (xs : List Tl) : (sortT xs).length = xs.length := sortBy_len tk xs
theorem sortT_idem (xs : List Tl) : sortT (sortT xs) = sortT xs := sortBy_id tk (sortBy_le tk xs)
abbrev Pl := Int × Int
def pk (q : Pl) : List Key := [.inl q.1, .inl q.2]
abbrev pl (q : Pl) : D := .tup [.int q.1, .int q.2]
theorem pk_inj {a b : Pl} (h : pk a = pk b) : a = b := by
  rcases a with ⟨x, y⟩
  rcases b with ⟨x', y'⟩
  simp [pk] at h
  simp [h]
/-- a dict from places to whole numbers -/
abbrev Mp := List (Pl × Int)
def mpD (m : Mp) : List (List Key × D) := m.map fun q => (pk q.1, .int q.2)
def Mp.get (m : Mp) (q : Pl) : Option Int := (m.find? fun e => decide (e.1 = q)).map (·.2)
def Mp.put (m : Mp) (q : Pl) (k : Int) : Mp := if m.any (fun e => decide (e.1 = q)) = true then m.map (fun e => if e.1 = q then (e.1, k) else e) else m ++ [(q, k)]
theorem mpD_look (q : Pl) : ∀ m : Mp, lookK (mpD m) (pk q) = (m.get q).map D.int
  | [] => rfl
  | e :: m => by
    show lookK ((pk e.1, D.int e.2) :: mpD m) (pk q) = _
    rw [lookK_cons, mpD_look q m]
    unfold Mp.get
    rw [List.find?_cons]
    by_cases h : e.1 = q
    · simp [h]
    · have h' : ¬ pk e.1 = pk q := fun z => h (pk_inj z)
      simp [h, h']
theorem mpD_put (m : Mp) (q : Pl) (k : Int) : putD (mpD m) (pk q) (.int k) = mpD (m.put q k) := by
  unfold putD Mp.put
  have e : ((mpD m).any fun kv => decide (kv.1 = pk q)) = m.any fun e => decide (e.1 = q) := by
    unfold mpD
    rw [List.any_map]
    congr 1
    funext e
    simp only [Function.comp]
    by_cases h : e.1 = q
    · simp [h]
    · have h' : ¬ pk e.1 = pk q := fun z => h (pk_inj z)
      simp [h, h']
  rw [e]
  split
  · unfold mpD
    rw [List.map_map, List.map_map]
    refine List.map_congr_left fun e _ => ?_
    simp only [Function.comp]
    by_cases h : e.1 = q
    · simp [h]
    · have h' : ¬ pk e.1 = pk q := fun z => h (pk_inj z)
      simp [h, h']
  · simp [mpD]
theorem mpD_len (m : Mp) : (mpD m).length = m.length := by simp [mpD]
theorem Mp.put_len (m : Mp) (q : Pl) (k : Int) : (m.put q k).length ≤ m.length + 1 := by
  unfold Mp.put; split <;> simp
theorem Mp.put_keys (m : Mp) (q : Pl) (k : Int) : (m.put q k).map Prod.fst = if q ∈ m.map Prod.fst then m.map Prod.fst else m.map Prod.fst ++ [q] := by
  unfold Mp.put
  have e : (m.any (fun e => decide (e.1 = q)) = true) ↔ q ∈ m.map Prod.fst := by
    simp only [List.any_eq_true, decide_eq_true_eq, List.mem_map]
  by_cases h : q ∈ m.map Prod.fst
  · rw [if_pos (e.mpr h), if_pos h, List.map_map]
    refine List.map_congr_left fun e _ => ?_
    simp only [Function.comp]
    split <;> rfl
  · rw [if_neg (fun z => h (e.mp z)), if_neg h]
    simp
theorem Mp.put_nodup {m : Mp} (h : (m.map Prod.fst).Nodup) (q : Pl) (k : Int) : ((m.put q k).map Prod.fst).Nodup := by
  rw [Mp.put_keys]
  split
  · exact h
  · rename_i hq
    rw [List.nodup_append]
    exact ⟨h, by simp, fun a ha b hb => by rw [List.mem_singleton.mp hb]; exact fun z => hq (z ▸ ha)⟩
theorem Mp.put_all {m : Mp} {P : Pl × Int → Prop} (h : ∀ e ∈ m, P e) {q : Pl} {k : Int} (hn : P (q, k)) : ∀ e ∈ m.put q k, P e := fun e he => by
  unfold Mp.put at he
  split at he
  · obtain ⟨e', he', rfl⟩ := List.mem_map.mp he
    split
    · rename_i h1; rw [h1]; exact hn
    · exact h _ he'
  · rcases List.mem_append.mp he with he | he
    · exact h _ he
    · rw [List.mem_singleton.mp he]; exact hn
/-! ### texts -/
section
variable {S : Store} {Q : D → Store → Prop} {l : List Nat} {ls : List (List Nat)}
theorem p_mulS {n : Nat} (hl : n ≤ 16777216) {c : Nat} (h : Q (.str (tx (List.replicate n c))) S) : Ok (mulX (.str (tx [c])) (.int (n : Nat)) S) Q := k_eq (mulCK hl) h
open Classical in
theorem p_eqP {b : Bool} {d e : D} (h1 : D.pl 64 d = true) (h2 : D.pl 64 e = true) (h : Q (.bl (xor b (decide (d = e)))) S) : Ok (eqD b d e S) Q := k_eq (eqP h1 h2) h
end
theorem p_eqB {S : Store} {Q : D → Store → Prop} {b x y : Bool} (h : Q (.bl (xor b (decide (x = y)))) S) : Ok (eqD b (.bl x) (.bl y) S) Q := by
  refine k_eq (S := S) (x := .bl (xor b (decide (x = y)))) ?_ h
  rw [e_eqO, pyS_bl, pyS_bl, eqO_some (by simp [SeqAt.shaped, PyData.canLay0, PyData.depth]) (by simp [SeqAt.shaped, PyData.canLay0, PyData.depth])]

  cases x <;> cases y <;> simp [PyData.eqv]
theorem sorted_loc {S : Store} {l : Nat} {es : List D} (h : S[l]? = some (.lst es)) : sortedD [.loc l] S = sortedD [.lst es] S := by
  have h1 : rdL S (.loc l) = some es := by simp [rdL, exL, h]
  have h2 : rdL S (.lst es) = some es := rfl
  simp only [sortedD, h1, h2]
theorem p_sortL {S : Store} {Q : D → Store → Prop} {l : Nat} {es : List D} (h : S[l]? = some (.lst es)) (k : Ok (sortedD [.lst es] S) Q) : Ok (sortedD [.loc l] S) Q := by rw [sorted_loc h]; exact k
theorem p_isi {S : Store} {Q : D → Store → Prop} {T : String} {d : D} {b : Bool} (e : isiD T d S = .ok (.bl b) S) (h : Q (.bl b) S) : Ok (isiD T d S) Q := k_eq e h
theorem pl_tl (k : Nat) (t : Tl) : D.pl (k + 1) (tl t) = true := by simp [tl]
theorem sc_map {α : Type} {f : α → D} {n : Nat} {xs : List α} (h : ∀ x, (f x).sc n = true) : D.scs n (xs.map f) = true := by
  induction xs with
  | nil => rfl
  | cons x xs ih => rw [List.map_cons]; simp only [D.scs, h x, ih]; rfl
end L3
namespace L3
open PySem PySem.Spec L2
/-! ### objects and their methods; repr -/
section
variable {σ : DSt} {S : Store} {E : XEv} {N B C : DSt → Store → Prop} {R Q : D → Store → Prop} {mo mv : DSt → Store → Res D} {ms : DSt → Store → Res (List D)} {cs : List Str} {f c m : Str} {n : Nat} {den : List D → Store → Res D}
theorem w_fldS (h : Ok (mv σ S) fun d S1 => Ok (mo σ S1) fun o S2 => ∃ l c fs, o = .loc l ∧ S2[l]? = some (.ins c fs) ∧ c ∈ cs ∧ fs.length < 1000 ∧ ∀ S', S2.set l (.ins c (putFD f d fs)) = S' → N σ S') : WfX E (mFldS cs f mv mo σ S) N R B C := by
  unfold mFldS
  refine w_lift (h.imp fun d S1 h => w_lift (h.imp fun o S2 h => ?_))
  obtain ⟨l, c, fs, rfl, h1, h2, h3, h4⟩ := h
  simp only [setFD, h1]
  rw [if_pos ⟨h2, h3⟩]
  exact h4 _ rfl
theorem k_fldC (h : Ok (mo σ S) fun o S1 => ∃ l c fs d, o = .loc l ∧ S1[l]? = some (.ins c fs) ∧ c ∈ cs ∧ fs.lookup f = some d ∧ Q d S1) : Ok (mFldC cs f mo σ S) Q := by
  refine k_bind (h.imp fun o S1 h => ?_)
  obtain ⟨l, c, fs, d, rfl, h1, h2, h3, h4⟩ := h
  simp only [insOf, h1, if_pos h2, h3]
  exact k_ok h4
theorem k_meth (h : Ok (mo σ S) fun o S1 => ∃ l fs, o = .loc l ∧ S1[l]? = some (.ins c fs) ∧ fs.lookup m = none ∧ Ok (ms σ S1) fun ds S2 => ds.length + 1 = n ∧ Ok (den (.loc l :: ds) S2) Q) : Ok (mMeth n c m den mo ms σ S) Q := by
  refine k_bind (h.imp fun o S1 h => ?_)
  obtain ⟨l, fs, rfl, h1, h2, h3⟩ := h
  simp only [insOf, h1]
  rw [if_pos ⟨trivial, h2⟩]
  refine k_bind (h3.imp fun ds S2 h => ?_)
  rw [if_pos h.1]
  obtain ⟨x, S3, e, q⟩ := h.2
  exact ⟨x, S3, by rw [e]; rfl, q⟩
theorem k_make (h : Ok (ms σ S) fun ds S1 => ds.length + 1 = n ∧ Ok (den (.loc S1.length :: ds) (S1 ++ [.ins c []])) fun d S2 => d = .non ∧ Q (.loc S1.length) S2) : Ok (mMake n c den ms σ S) Q := by
  refine k_bind (h.imp fun ds S1 h => ?_)
  rw [if_pos h.1]
  obtain ⟨d, S2, e, rfl, q⟩ := h.2
  rw [e]
  exact k_ok q
theorem intsOf_map : ∀ ns : List Int, intsOf (ns.map D.int) = some ns
  | [] => rfl
  | n :: ns => by simp [intsOf, intsOf_map ns]
theorem p_sum {ns : List Int} (h : Q (.int ns.sum) S) : Ok (sumD [.lst (ns.map D.int)] S) Q := by
  have e : sumD [.lst (ns.map D.int)] S = .ok (.int ns.sum) S := by
    have h1 : rdL S (.lst (ns.map D.int)) = some (ns.map D.int) := rfl
    simp only [sumD, h1, intsOf_map]
  exact k_eq e h
end
mutual
/-- data to be shown: small numbers, texts, tuples -/
def D.rp (k : Nat) : D → Bool
  | .non => true
  | .bl _ => true
  | .int i => decide (0 ≤ i ∧ i < 1000)
  | .str x => x.cps.all (· < 1114112)
  | .tup ds => match k with
    | 0 => false
    | k + 1 => D.rps k ds
  | .ktp ds => match k with
    | 0 => false
    | k + 1 => D.rps k ds
  | _ => false
def D.rps (k : Nat) : List D → Bool
  | [] => true
  | d :: ds => D.rp k d && D.rps k ds
end
section
variable {S : Store} {Q : D → Store → Prop} {ds : List D} {d : D} {i : Int} {k : Nat}
theorem p_tupX (h : Q (.ktp ds) S) : Ok (tupleXD [.lst ds] S) Q := ⟨_, _, rfl, h⟩
theorem p_dictX {ps : List (Key × D)} (e : pairsK ds = some ps) (h : Q (.loc S.length) (S ++ [.dK (mergeD [] ps)])) : Ok (dictXD [.ktp ds] S) Q :=
  k_eq (by simp only [dictXD, e] <;> rfl) h
theorem p_ixP (e : atI ds i = some d) (h : Q d S) : Ok (ixD (.ktp ds) (.int i) S) Q := by
  have h1 : seqOf S (.ktp ds) = some ds := rfl
  exact k_eq (by simp only [ixD, h1, e] <;> rfl) h
theorem p_ixPm {α : Type} {xs : List α} {f : α → D} {x : α} (e : xs[k]? = some x) (h : Q (f x) S) : Ok (ixD (.ktp (xs.map f)) (.int (k : Nat)) S) Q := p_ixP (by rw [atI_nat, List.getElem?_map, e]; rfl) h
end
end L3
namespace L3
open PySem PySem.Spec L2
theorem k_enumA {σ : DSt} {S : Store} {ms : DSt → Store → Res (List D)} {QS : Src → Store → Prop} (h : Ok (ms σ S) fun ds S => ∃ d s, ds = [d] ∧ enumSrc d S = some s ∧ QS ⟨(s.items.zipIdx).map fun p : D × Nat => D.tup [.int p.2, p.1], s.guard⟩ S) : Ok (mEnumA ms σ S) QS := by
  unfold mEnumA
  refine k_bind (h.imp fun ds S h => ?_)
  obtain ⟨d, s, rfl, e, h⟩ := h
  refine k_eq (x := ⟨enumD 0 s.items, s.guard⟩) (S := S) (by simp only [e]) ?_
  rw [enumD_eq]
  exact h
theorem p_isB {S : Store} {Q : D → Store → Prop} {n a b : Bool} (h : Q (.bl (xor n (decide (a = b)))) S) : Ok (isBD n (.bl a) (.bl b) S) Q := ⟨_, _, rfl, h⟩
theorem p_isNl {S : Store} {Q : D → Store → Prop} {b : Bool} {i : Nat} (h : Q (.bl b) S) : Ok (isND b (.loc i) .non S) Q := ⟨_, _, rfl, h⟩
theorem p_isNt {S : Store} {Q : D → Store → Prop} {b : Bool} {ds : List D} (h : Q (.bl b) S) : Ok (isND b (.tup ds) .non S) Q := ⟨_, _, rfl, h⟩
theorem k_en {S : Store} {d : D} {s : Src} {P : Src → Prop} (e : enumSrc d S = some s) (h : P s) : ∃ d' s', [d] = [d'] ∧ enumSrc d' S = some s' ∧ P s' := ⟨_, _, rfl, e, h⟩
theorem p_all {S : Store} {Q : D → Store → Prop} {bs : List Bool} (h : Q (.bl (bs.all id)) S) : Ok (onBls (fun bs => .bl (bs.all id)) [.lst (bs.map D.bl)] S) Q := k_eq (blsK _ _) h
theorem all_true {α : Type} (xs : List α) : ((xs.map fun _ => true).all id) = true := by rw [List.all_map]; simp
theorem wf_id {r : Res Fl} {E : XEv} {N B C : DSt → Store → Prop} {R : D → Store → Prop} (h : WfX E r N R B C) : WfX E r N R B C := h
theorem w_raise {c : Str} {σ : DSt} {S : Store} {E : XEv} {N B C : DSt → Store → Prop} {R : D → Store → Prop} (h : E c [] S) : WfX E (mRaise c σ S) N R B C := h
theorem br_id {b : Bool} {p q : Prop} (h : Br b p q) : Br b p q := h
end L3
namespace L3
open PySem PySem.Spec L2
theorem w_par3 {σ : DSt} {S : Store} {E : XEv} {N B C : DSt → Store → Prop} {R : D → Store → Prop} {ms : DSt → Store → Res (List D)} {i j l : Nat} (h : Ok (ms σ S) fun ds S => ∃ x y z, ds = [x, y, z] ∧ ∀ σ', ((σ.set i (some x)).set j (some y)).set l (some z) = σ' → N σ' S) : WfX E (mPar3 i j l ms σ S) N R B C := w_lift (h.imp fun t S1 h => by
  obtain ⟨x, y, z, rfl, h⟩ := h
  exact h _ rfl)
theorem par3_of {σ : DSt} {i j l : Nat} {x y z : D} {P : DSt → Prop} (h : ∀ σ', ((σ.set i (some x)).set j (some y)).set l (some z) = σ' → P σ') : ∃ x' y' z', [x, y, z] = [x', y', z'] ∧ ∀ σ', ((σ.set i (some x')).set j (some y')).set l (some z') = σ' → P σ' := ⟨x, y, z, rfl, h⟩
end L3

namespace L3
open PySem PySem.Spec L2
/-! ### rules for exceptions that are kept -/
section
variable {l : List Str} {lf : List (Str × Str)} {i j : Nat} {mb : DSt → Store → Res Fl} {σ : DSt} {S : Store} {E : XEv} {N B C : DSt → Store → Prop} {R : D → Store → Prop} {Q : D → Store → Prop}
end
end L3
namespace L3
open PySem PySem.Spec L2
end L3
namespace L3
open PySem PySem.Spec L2
/-! ### the text -/
def topS (i : Nat) : Stmt := PySem.Challenge.pw_stickytiles_k14_rows_of_anything.main.body.getD i (.Pass ⟨0, 0, 0, 0⟩)
abbrev s_wall : Stmt := topS 0
abbrev s_is_whole : Stmt := topS 4
theorem sc_is_whole : FnScope ["thing"] ["thing"] (defScope s_is_whole) := ⟨rfl, rfl, rfl, by decide +kernel, rfl, by decide +kernel, by decide +kernel⟩
abbrev s_step_of : Stmt := topS 5
theorem sc_step_of : FnScope ["place", "side"] ["place", "side"] (defScope s_step_of) := ⟨rfl, rfl, rfl, by decide +kernel, rfl, by decide +kernel, by decide +kernel⟩
abbrev s_opposite : Stmt := topS 6
theorem sc_opposite : FnScope ["side"] ["side"] (defScope s_opposite) := ⟨rfl, rfl, rfl, by decide +kernel, rfl, by decide +kernel, by decide +kernel⟩
abbrev s_lying : Stmt := topS 8
abbrev N_lying : List Str := ["standing", "x", "y", "kind"]
theorem sc_lying : FnScope ["standing", "x", "y", "kind"] ["standing"] (defScope s_lying) := ⟨rfl, rfl, rfl, by decide +kernel, rfl, by decide +kernel, by decide +kernel⟩
abbrev s_law_begin : Stmt := topS 16
theorem sc_law_begin : FnScope ["_law_script", "_law_k", "_law_cell", "_law_far", "_law_own"] ["_law_script", "_law_k"] (defScope s_law_begin) := ⟨rfl, rfl, rfl, by decide +kernel, rfl, by decide +kernel, by decide +kernel⟩
abbrev s_law_draw : Stmt := topS 17
theorem sc_law_draw : FnScope ["_law_pot", "_law_many", "_law_digit", "_law_mixed"] ["_law_pot", "_law_many"] (defScope s_law_draw) := ⟨rfl, rfl, rfl, by decide +kernel, rfl, by decide +kernel, by decide +kernel⟩
abbrev s_law_lying : Stmt := topS 23
abbrev N_law_lying : List Str := ["_law_standing_here", "_law_x", "_law_y", "_law_kind_here"]
theorem sc_law_lying : FnScope ["_law_standing_here", "_law_x", "_law_y", "_law_kind_here"] ["_law_standing_here"] (defScope s_law_lying) := ⟨rfl, rfl, rfl, by decide +kernel, rfl, by decide +kernel, by decide +kernel⟩
abbrev s_law_step : Stmt := topS 24
theorem sc_law_step : FnScope ["_law_place", "_law_side", "_law_x", "_law_y"] ["_law_place", "_law_side"] (defScope s_law_step) := ⟨rfl, rfl, rfl, by decide +kernel, rfl, by decide +kernel, by decide +kernel⟩
abbrev s_Holder___init__ : Stmt := inClass (topS 9) 0
theorem sc_Holder___init__ : FnScope ["self", "bed"] ["self", "bed"] (defScope s_Holder___init__) := ⟨rfl, rfl, rfl, by decide +kernel, rfl, by decide +kernel, by decide +kernel⟩
abbrev s_Holder_is_on : Stmt := inClass (topS 9) 1
theorem sc_Holder_is_on : FnScope ["self", "place"] ["self", "place"] (defScope s_Holder_is_on) := ⟨rfl, rfl, rfl, by decide +kernel, rfl, by decide +kernel, by decide +kernel⟩
abbrev s_Holder_held_at : Stmt := inClass (topS 9) 3
abbrev N_Holder_held_at : List Str := ["self", "offers", "kind", "side"]
theorem sc_Holder_held_at : FnScope ["self", "offers", "kind", "side"] ["self", "offers", "kind"] (defScope s_Holder_held_at) := ⟨rfl, rfl, rfl, by decide +kernel, rfl, by decide +kernel, by decide +kernel⟩
abbrev s_is_tile : Stmt := topS 12
abbrev N_is_tile : List Str := ["thing", "part"]
theorem sc_is_tile : FnScope ["thing", "part"] ["thing"] (defScope s_is_tile) := ⟨rfl, rfl, rfl, by decide +kernel, rfl, by decide +kernel, by decide +kernel⟩
abbrev s_law_names : Stmt := topS 18
abbrev N_law_names : List Str := ["_law_pot", "_law_many", "_law_letters", "_law_first", "_law_step_here", "_law_k"]
theorem sc_law_names : FnScope ["_law_pot", "_law_many", "_law_letters", "_law_first", "_law_step_here", "_law_k"] ["_law_pot", "_law_many"] (defScope s_law_names) := ⟨rfl, rfl, rfl, by decide +kernel, rfl, by decide +kernel, by decide +kernel⟩
abbrev s_law_kind : Stmt := topS 19
abbrev N_law_kind : List Str := ["_law_pot", "_law_names_here", "_law_face", "_law_sides_here", "_law_side"]
theorem sc_law_kind : FnScope ["_law_pot", "_law_names_here", "_law_face", "_law_sides_here", "_law_side"] ["_law_pot", "_law_names_here"] (defScope s_law_kind) := ⟨rfl, rfl, rfl, by decide +kernel, rfl, by decide +kernel, by decide +kernel⟩
abbrev s_law_standing : Stmt := topS 21
abbrev N_law_standing : List Str := ["_law_pot", "_law_house_here", "_law_floor", "_law_most", "_law_there", "_law_k", "_law_place"]
theorem sc_law_standing : FnScope ["_law_pot", "_law_house_here", "_law_floor", "_law_most", "_law_there", "_law_k", "_law_place"] ["_law_pot", "_law_house_here", "_law_floor", "_law_most"] (defScope s_law_standing) := ⟨rfl, rfl, rfl, by decide +kernel, rfl, by decide +kernel, by decide +kernel⟩
abbrev s_law_sides : Stmt := topS 25
theorem sc_law_sides : FnScope ["_law_bed_here", "_law_there", "_law_place", "_law_kind_here", "_law_kinds", "_law_found", "_law_side", "_law_other", "_law_mine"] ["_law_bed_here", "_law_there", "_law_place", "_law_kind_here"] (defScope s_law_sides) := ⟨rfl, rfl, rfl, by decide +kernel, rfl, by decide +kernel, by decide +kernel⟩
abbrev s_law_empty : Stmt := topS 27
abbrev N_law_empty : List Str := ["_law_bed_here", "_law_there", "_law_found", "_law_x", "_law_y", "_law_beside", "_law_side"]
theorem sc_law_empty : FnScope ["_law_bed_here", "_law_there", "_law_found", "_law_x", "_law_y", "_law_beside", "_law_side"] ["_law_bed_here", "_law_there"] (defScope s_law_empty) := ⟨rfl, rfl, rfl, by decide +kernel, rfl, by decide +kernel, by decide +kernel⟩
abbrev s_law_nested : Stmt := topS 30
theorem sc_law_nested : FnScope ["_law_pot", "_law_thing", "_law_k"] ["_law_pot"] (defScope s_law_nested) := ⟨rfl, rfl, rfl, by decide +kernel, rfl, by decide +kernel, by decide +kernel⟩
abbrev s_Holder_offers : Stmt := inClass (topS 9) 2
theorem sc_Holder_offers : FnScope ["self", "there", "place", "found", "side", "other"] ["self", "there", "place"] (defScope s_Holder_offers) := ⟨rfl, rfl, rfl, by decide +kernel, rfl, by decide +kernel, by decide +kernel⟩
abbrev s_Holder_strength_by : Stmt := inClass (topS 9) 4
abbrev N_Holder_strength_by : List Str := ["self", "offers", "kind", "side"]
theorem sc_Holder_strength_by : FnScope ["self", "offers", "kind", "side"] ["self", "offers", "kind"] (defScope s_Holder_strength_by) := ⟨rfl, rfl, rfl, by decide +kernel, rfl, by decide +kernel, by decide +kernel⟩
abbrev s_Holder_holding_sides : Stmt := inClass (topS 9) 5
abbrev s_Holder_fitting : Stmt := inClass (topS 9) 7
abbrev s_Holder_all_growings : Stmt := inClass (topS 9) 9
abbrev s_are_tiles : Stmt := topS 13
abbrev N_are_tiles : List Str := ["thing", "tile"]
theorem sc_are_tiles : FnScope ["thing", "tile"] ["thing"] (defScope s_are_tiles) := ⟨rfl, rfl, rfl, by decide +kernel, rfl, by decide +kernel, by decide +kernel⟩
abbrev s_law_house : Stmt := topS 20
abbrev N_law_house : List Str := ["_law_pot", "_law_names_here", "_law_enough", "_law_sticks", "_law_kinds", "_law_name", "_law_k"]
theorem sc_law_house : FnScope ["_law_pot", "_law_names_here", "_law_enough", "_law_sticks", "_law_kinds", "_law_name", "_law_k"] ["_law_pot"] (defScope s_law_house) := ⟨rfl, rfl, rfl, by decide +kernel, rfl, by decide +kernel, by decide +kernel⟩
abbrev s_law_by : Stmt := topS 26
abbrev N_law_by : List Str := ["_law_bed_here", "_law_there", "_law_place", "_law_kind_here", "_law_sides_here", "_law_strengths", "_law_side"]
theorem sc_law_by : FnScope ["_law_bed_here", "_law_there", "_law_place", "_law_kind_here", "_law_sides_here", "_law_strengths", "_law_side"] ["_law_bed_here", "_law_there", "_law_place", "_law_kind_here"] (defScope s_law_by) := ⟨rfl, rfl, rfl, by decide +kernel, rfl, by decide +kernel, by decide +kernel⟩
abbrev s_law_odd_tiles : Stmt := topS 31
theorem sc_law_odd_tiles : FnScope ["_law_pot", "_law_tile", "_law_x", "_law_y", "_law_kind_here", "_law_some"] ["_law_pot", "_law_tile"] (defScope s_law_odd_tiles) := ⟨rfl, rfl, rfl, by decide +kernel, rfl, by decide +kernel, by decide +kernel⟩
abbrev s_Holder_strength : Stmt := inClass (topS 9) 6
theorem sc_Holder_strength : FnScope ["self", "there", "place", "kind"] ["self", "there", "place", "kind"] (defScope s_Holder_strength) := ⟨rfl, rfl, rfl, by decide +kernel, rfl, by decide +kernel, by decide +kernel⟩
abbrev s_law_bed : Stmt := topS 22
theorem sc_law_bed : FnScope ["_law_pot", "_law_house_here", "_law_floor"] ["_law_pot"] (defScope s_law_bed) := ⟨rfl, rfl, rfl, by decide +kernel, rfl, by decide +kernel, by decide +kernel⟩
abbrev s_law_may : Stmt := topS 28
theorem sc_law_may : FnScope ["_law_bed_here", "_law_there", "_law_found", "_law_place", "_law_kind_here"] ["_law_bed_here", "_law_there"] (defScope s_law_may) := ⟨rfl, rfl, rfl, by decide +kernel, rfl, by decide +kernel, by decide +kernel⟩
abbrev s_Holder_fits : Stmt := inClass (topS 9) 8
theorem sc_Holder_fits : FnScope ["self", "there", "tile", "place"] ["self", "there", "tile"] (defScope s_Holder_fits) := ⟨rfl, rfl, rfl, by decide +kernel, rfl, by decide +kernel, by decide +kernel⟩
abbrev s_walk : Stmt := topS 11
theorem sc_walk : FnScope ["bed", "row", "holder", "there", "number", "tile"] ["bed", "row"] (defScope s_walk) := ⟨rfl, rfl, rfl, by decide +kernel, rfl, by decide +kernel, by decide +kernel⟩
abbrev s_law_walk : Stmt := topS 29
theorem sc_law_walk : FnScope ["_law_pot", "_law_bed_here", "_law_most", "_law_there", "_law_row", "_law_k", "_law_some", "_law_tile"] ["_law_pot", "_law_bed_here", "_law_most"] (defScope s_law_walk) := ⟨rfl, rfl, rfl, by decide +kernel, rfl, by decide +kernel, by decide +kernel⟩
abbrev s_is_row : Stmt := topS 14
theorem sc_is_row : FnScope ["bed", "thing"] ["bed", "thing"] (defScope s_is_row) := ⟨rfl, rfl, rfl, by decide +kernel, rfl, by decide +kernel, by decide +kernel⟩
abbrev s_law : Stmt := topS 32
theorem sc_law : FnScope ["_law_script", "_law_k", "_law_pot", "_law_bed_here", "_law_row", "_law_at", "_law_tile", "_law_odd", "_law_thing"] ["_law_script"] (defScope s_law) := ⟨rfl, rfl, rfl, by decide +kernel, rfl, by decide +kernel, by decide +kernel⟩
set_option genInjectivity false in
set_option genSizeOf false in
set_option genSizeOfSpec false in
/-- what the top has written -/
structure Txt (K : PySem.W.Frag) (mg : Str → Option Value) where
  f_wall : Addr
  e_wall : FuncData
  F_wall : Fun K "_wall" "_wall" s_wall f_wall e_wall
  g_wall : mg "_wall" = some (.ref f_wall)
  b_wall : Binds K e_wall ["k"] []
  f_is_whole : Addr
  e_is_whole : FuncData
  F_is_whole : Fun K "is_whole" "is_whole" s_is_whole f_is_whole e_is_whole
  g_is_whole : mg "is_whole" = some (.ref f_is_whole)
  b_is_whole : Binds K e_is_whole ["thing"] []
  f_step_of : Addr
  e_step_of : FuncData
  F_step_of : Fun K "step_of" "step_of" s_step_of f_step_of e_step_of
  g_step_of : mg "step_of" = some (.ref f_step_of)
  b_step_of : Binds K e_step_of ["place", "side"] []
  f_opposite : Addr
  e_opposite : FuncData
  F_opposite : Fun K "opposite" "opposite" s_opposite f_opposite e_opposite
  g_opposite : mg "opposite" = some (.ref f_opposite)
  b_opposite : Binds K e_opposite ["side"] []
  f_lying : Addr
  e_lying : FuncData
  F_lying : Fun K "lying" "lying" s_lying f_lying e_lying
  g_lying : mg "lying" = some (.ref f_lying)
  b_lying : Binds K e_lying ["standing"] []
  f_law_begin : Addr
  e_law_begin : FuncData
  F_law_begin : Fun K "_law_begin" "_law_begin" s_law_begin f_law_begin e_law_begin
  g_law_begin : mg "_law_begin" = some (.ref f_law_begin)
  b_law_begin : Binds K e_law_begin ["_law_script", "_law_k"] []
  f_law_draw : Addr
  e_law_draw : FuncData
  F_law_draw : Fun K "_law_draw" "_law_draw" s_law_draw f_law_draw e_law_draw
  g_law_draw : mg "_law_draw" = some (.ref f_law_draw)
  b_law_draw : Binds K e_law_draw ["_law_pot", "_law_many"] []
  f_law_lying : Addr
  e_law_lying : FuncData
  F_law_lying : Fun K "_law_lying" "_law_lying" s_law_lying f_law_lying e_law_lying
  g_law_lying : mg "_law_lying" = some (.ref f_law_lying)
  b_law_lying : Binds K e_law_lying ["_law_standing_here"] []
  f_law_step : Addr
  e_law_step : FuncData
  F_law_step : Fun K "_law_step" "_law_step" s_law_step f_law_step e_law_step
  g_law_step : mg "_law_step" = some (.ref f_law_step)
  b_law_step : Binds K e_law_step ["_law_place", "_law_side"] []
  f_Holder___init__ : Addr
  e_Holder___init__ : FuncData
  F_Holder___init__ : Fun K "__init__" "Holder.__init__" s_Holder___init__ f_Holder___init__ e_Holder___init__
  b_Holder___init__ : Binds K e_Holder___init__ ["self", "bed"] []
  f_Holder_is_on : Addr
  e_Holder_is_on : FuncData
  F_Holder_is_on : Fun K "is_on" "Holder.is_on" s_Holder_is_on f_Holder_is_on e_Holder_is_on
  b_Holder_is_on : Binds K e_Holder_is_on ["self", "place"] []
  f_Holder_held_at : Addr
  e_Holder_held_at : FuncData
  F_Holder_held_at : Fun K "held_at" "Holder.held_at" s_Holder_held_at f_Holder_held_at e_Holder_held_at
  b_Holder_held_at : Binds K e_Holder_held_at ["self", "offers", "kind"] []
  f_is_tile : Addr
  e_is_tile : FuncData
  F_is_tile : Fun K "is_tile" "is_tile" s_is_tile f_is_tile e_is_tile
  g_is_tile : mg "is_tile" = some (.ref f_is_tile)
  b_is_tile : Binds K e_is_tile ["thing"] []
  f_law_names : Addr
  e_law_names : FuncData
  F_law_names : Fun K "_law_names" "_law_names" s_law_names f_law_names e_law_names
  g_law_names : mg "_law_names" = some (.ref f_law_names)
  b_law_names : Binds K e_law_names ["_law_pot", "_law_many"] []
  f_law_kind : Addr
  e_law_kind : FuncData
  F_law_kind : Fun K "_law_kind" "_law_kind" s_law_kind f_law_kind e_law_kind
  g_law_kind : mg "_law_kind" = some (.ref f_law_kind)
  b_law_kind : Binds K e_law_kind ["_law_pot", "_law_names_here"] []
  f_law_standing : Addr
  e_law_standing : FuncData
  F_law_standing : Fun K "_law_standing" "_law_standing" s_law_standing f_law_standing e_law_standing
  g_law_standing : mg "_law_standing" = some (.ref f_law_standing)
  b_law_standing : Binds K e_law_standing ["_law_pot", "_law_house_here", "_law_floor", "_law_most"] []
  f_law_sides : Addr
  e_law_sides : FuncData
  F_law_sides : Fun K "_law_sides" "_law_sides" s_law_sides f_law_sides e_law_sides
  g_law_sides : mg "_law_sides" = some (.ref f_law_sides)
  b_law_sides : Binds K e_law_sides ["_law_bed_here", "_law_there", "_law_place", "_law_kind_here"] []
  f_law_empty : Addr
  e_law_empty : FuncData
  F_law_empty : Fun K "_law_empty" "_law_empty" s_law_empty f_law_empty e_law_empty
  g_law_empty : mg "_law_empty" = some (.ref f_law_empty)
  b_law_empty : Binds K e_law_empty ["_law_bed_here", "_law_there"] []
  f_law_nested : Addr
  e_law_nested : FuncData
  F_law_nested : Fun K "_law_nested" "_law_nested" s_law_nested f_law_nested e_law_nested
  g_law_nested : mg "_law_nested" = some (.ref f_law_nested)
  b_law_nested : Binds K e_law_nested ["_law_pot"] []
  f_Holder_offers : Addr
  e_Holder_offers : FuncData
  F_Holder_offers : Fun K "offers" "Holder.offers" s_Holder_offers f_Holder_offers e_Holder_offers
  b_Holder_offers : Binds K e_Holder_offers ["self", "there", "place"] []
  f_Holder_strength_by : Addr
  e_Holder_strength_by : FuncData
  F_Holder_strength_by : Fun K "strength_by" "Holder.strength_by" s_Holder_strength_by f_Holder_strength_by e_Holder_strength_by
  b_Holder_strength_by : Binds K e_Holder_strength_by ["self", "offers", "kind"] []
  f_Holder_holding_sides : Addr
  e_Holder_holding_sides : FuncData
  F_Holder_holding_sides : Fun K "holding_sides" "Holder.holding_sides" s_Holder_holding_sides f_Holder_holding_sides e_Holder_holding_sides
  b_Holder_holding_sides : Binds K e_Holder_holding_sides ["self", "there", "place", "kind"] []
  f_Holder_fitting : Addr
  e_Holder_fitting : FuncData
  F_Holder_fitting : Fun K "fitting" "Holder.fitting" s_Holder_fitting f_Holder_fitting e_Holder_fitting
  b_Holder_fitting : Binds K e_Holder_fitting ["self", "there", "place"] []
  f_Holder_all_growings : Addr
  e_Holder_all_growings : FuncData
  F_Holder_all_growings : Fun K "all_growings" "Holder.all_growings" s_Holder_all_growings f_Holder_all_growings e_Holder_all_growings
  b_Holder_all_growings : Binds K e_Holder_all_growings ["self", "there"] []
  f_are_tiles : Addr
  e_are_tiles : FuncData
  F_are_tiles : Fun K "are_tiles" "are_tiles" s_are_tiles f_are_tiles e_are_tiles
  g_are_tiles : mg "are_tiles" = some (.ref f_are_tiles)
  b_are_tiles : Binds K e_are_tiles ["thing"] []
  f_law_house : Addr
  e_law_house : FuncData
  F_law_house : Fun K "_law_house" "_law_house" s_law_house f_law_house e_law_house
  g_law_house : mg "_law_house" = some (.ref f_law_house)
  b_law_house : Binds K e_law_house ["_law_pot"] []
  f_law_by : Addr
  e_law_by : FuncData
  F_law_by : Fun K "_law_by" "_law_by" s_law_by f_law_by e_law_by
  g_law_by : mg "_law_by" = some (.ref f_law_by)
  b_law_by : Binds K e_law_by ["_law_bed_here", "_law_there", "_law_place", "_law_kind_here"] []
  f_law_odd_tiles : Addr
  e_law_odd_tiles : FuncData
  F_law_odd_tiles : Fun K "_law_odd_tiles" "_law_odd_tiles" s_law_odd_tiles f_law_odd_tiles e_law_odd_tiles
  g_law_odd_tiles : mg "_law_odd_tiles" = some (.ref f_law_odd_tiles)
  b_law_odd_tiles : Binds K e_law_odd_tiles ["_law_pot", "_law_tile"] []
  f_Holder_strength : Addr
  e_Holder_strength : FuncData
  F_Holder_strength : Fun K "strength" "Holder.strength" s_Holder_strength f_Holder_strength e_Holder_strength
  b_Holder_strength : Binds K e_Holder_strength ["self", "there", "place", "kind"] []
  f_law_bed : Addr
  e_law_bed : FuncData
  F_law_bed : Fun K "_law_bed" "_law_bed" s_law_bed f_law_bed e_law_bed
  g_law_bed : mg "_law_bed" = some (.ref f_law_bed)
  b_law_bed : Binds K e_law_bed ["_law_pot"] []
  f_law_may : Addr
  e_law_may : FuncData
  F_law_may : Fun K "_law_may" "_law_may" s_law_may f_law_may e_law_may
  g_law_may : mg "_law_may" = some (.ref f_law_may)
  b_law_may : Binds K e_law_may ["_law_bed_here", "_law_there"] []
  f_Holder_fits : Addr
  e_Holder_fits : FuncData
  F_Holder_fits : Fun K "fits" "Holder.fits" s_Holder_fits f_Holder_fits e_Holder_fits
  b_Holder_fits : Binds K e_Holder_fits ["self", "there", "tile"] []
  f_walk : Addr
  e_walk : FuncData
  F_walk : Fun K "walk" "walk" s_walk f_walk e_walk
  g_walk : mg "walk" = some (.ref f_walk)
  b_walk : Binds K e_walk ["bed", "row"] []
  f_law_walk : Addr
  e_law_walk : FuncData
  F_law_walk : Fun K "_law_walk" "_law_walk" s_law_walk f_law_walk e_law_walk
  g_law_walk : mg "_law_walk" = some (.ref f_law_walk)
  b_law_walk : Binds K e_law_walk ["_law_pot", "_law_bed_here", "_law_most"] []
  f_is_row : Addr
  e_is_row : FuncData
  F_is_row : Fun K "is_row" "is_row" s_is_row f_is_row e_is_row
  g_is_row : mg "is_row" = some (.ref f_is_row)
  b_is_row : Binds K e_is_row ["bed", "thing"] []
  f_law : Addr
  e_law : FuncData
  F_law : Fun K "law" "law" s_law f_law e_law
  g_law : mg "law" = some (.ref f_law)
  b_law : Binds K e_law ["_law_script"] []
  n_all : mg "all" = none
  n_bool : mg "bool" = none
  n_dict : mg "dict" = none
  n_enumerate : mg "enumerate" = none
  n_int : mg "int" = none
  n_isinstance : mg "isinstance" = none
  n_len : mg "len" = none
  n_list : mg "list" = none
  n_min : mg "min" = none
  n_range : mg "range" = none
  n_sorted : mg "sorted" = none
  n_str : mg "str" = none
  n_sum : mg "sum" = none
  n_tuple : mg "tuple" = none
  c_SIDES : ∃ a, mg "SIDES" = some (.ref a) ∧ KRep K (.ktp [(.int 0), (.int 1), (.int 2), (.int 3)]) (.ref a)
  c_STEPS : ∃ a, mg "STEPS" = some (.ref a) ∧ KRep K (.ktp [(.ktp [(.int 0), (.int 1)]), (.ktp [(.int 1), (.int 0)]), (.ktp [(.int 0), (.int (-1))]), (.ktp [(.int (-1)), (.int 0)])]) (.ref a)
  C_Holder : Addr
  g_Holder : mg "Holder" = some (.ref C_Holder)
  cl_Holder : Cls K C_Holder
  mk_Holder : L2.Mk K C_Holder f_Holder___init__
  me_Holder_is_on : Meth K C_Holder "is_on" f_Holder_is_on
  me_Holder_held_at : Meth K C_Holder "held_at" f_Holder_held_at
  me_Holder_offers : Meth K C_Holder "offers" f_Holder_offers
  me_Holder_strength_by : Meth K C_Holder "strength_by" f_Holder_strength_by
  me_Holder_holding_sides : Meth K C_Holder "holding_sides" f_Holder_holding_sides
  me_Holder_fitting : Meth K C_Holder "fitting" f_Holder_fitting
  me_Holder_all_growings : Meth K C_Holder "all_growings" f_Holder_all_growings
  me_Holder_strength : Meth K C_Holder "strength" f_Holder_strength
  me_Holder_fits : Meth K C_Holder "fits" f_Holder_fits
  fld_enough : FldIn K mg "enough" ["Holder"]
  fld_high : FldIn K mg "high" ["Holder"]
  fld_kinds : FldIn K mg "kinds" ["Holder"]
  fld_strengths : FldIn K mg "strengths" ["Holder"]
  fld_wide : FldIn K mg "wide" ["Holder"]
section
variable {P : Program} {w : World} {K : PySem.W.Frag} {mg : Str → Option Value} {base : Heap}
theorem lt_0 : Str.ofString "" = tx [] := by decide +kernel
def lc_az : List Nat := [97, 98, 99, 100, 101, 102, 103, 104, 105, 106, 107, 108, 109, 110, 111, 112, 113, 114, 115, 116, 117, 118, 119, 120, 121, 122]
theorem lt_1 : Str.ofString "abcdefghijklmnopqrstuvwxyz" = tx lc_az := by decide +kernel
def lc_azd : List Nat := [97, 98, 99, 100, 101, 102, 103, 104, 105, 106, 107, 108, 109, 110, 111, 112, 113, 114, 115, 116, 117, 118, 119, 120, 121, 122, 48, 49, 50, 51, 52, 53, 54, 55, 56, 57]
theorem lt_2 : Str.ofString "abcdefghijklmnopqrstuvwxyz0123456789" = tx lc_azd := by decide +kernel
theorem lt_3 : Str.ofString "a" = tx [97] := by decide +kernel
theorem lt_4 : Str.ofString "xyz" = tx [120, 121, 122] := by decide +kernel
theorem lt_5 : Str.ofString "row" = tx [114, 111, 119] := by decide +kernel
noncomputable def m_is_whole : DSt → Store → Res Fl :=
  (mRet (mAndV (m1 (mVar 0) (isiD "int")) (mNotV (m1 (mVar 0) (isiD "bool")))))
noncomputable def d_is_whole : List D → Store → Res D := gcD (denOf 1 m_is_whole)
theorem ok_is_whole (T : Txt K mg) : FnOk P w K mg base CX0 1 T.f_is_whole T.e_is_whole ["thing"] (spD K mg 1 d_is_whole) :=
  fn_gc (fn_den T.F_is_whole sc_is_whole fun cdv A outer s H E hr =>
   ((pms_one (pms_ret (pm_and (pm_isi (T := "int") (by rfl) T.n_isinstance bb_isinstance (pm_var 0) (by rfl) T.n_int bb_int) (pm_one (pm_not (pm_isi (T := "bool") (by rfl) T.n_isinstance bb_isinstance (pm_var 0) (by rfl) T.n_bool bb_bool))))))))
noncomputable def m_step_of : DSt → Store → Res Fl :=
  (mRet (mTup (mCons (m2 (m2 (mVar 0) (mC (.int 0)) ixD) (m2 (m2 (mC (.ktp [(.ktp [(.int 0), (.int 1)]), (.ktp [(.int 1), (.int 0)]), (.ktp [(.int 0), (.int (-1))]), (.ktp [(.int (-1)), (.int 0)])])) (mVar 1) ixD) (mC (.int 0)) ixD) addD) (mCons (m2 (m2 (mVar 0) (mC (.int 1)) ixD) (m2 (m2 (mC (.ktp [(.ktp [(.int 0), (.int 1)]), (.ktp [(.int 1), (.int 0)]), (.ktp [(.int 0), (.int (-1))]), (.ktp [(.int (-1)), (.int 0)])])) (mVar 1) ixD) (mC (.int 1)) ixD) addD) mNil))))
noncomputable def d_step_of : List D → Store → Res D := gcD (denOf 2 m_step_of)
theorem ok_step_of (T : Txt K mg) : FnOk P w K mg base CX0 1 T.f_step_of T.e_step_of ["place", "side"] (spD K mg 2 d_step_of) :=
  fn_gc (fn_den T.F_step_of sc_step_of fun cdv A outer s H E hr =>
   ((pms_one (pms_ret (pm_tup (pma_cons (pm_op od_add (pm_ix (hu_of hr) (pm_var 0) pm_int (fun _ _ => rfl)) (pm_ix (hu_of hr) (pm_ix (hu_of hr) (pm_gktp (by rfl) T.c_STEPS) (pm_var 1) (fun _ _ => rfl)) pm_int (fun _ _ => rfl))) (pma_cons (pm_op od_add (pm_ix (hu_of hr) (pm_var 0) pm_int (fun _ _ => rfl)) (pm_ix (hu_of hr) (pm_ix (hu_of hr) (pm_gktp (by rfl) T.c_STEPS) (pm_var 1) (fun _ _ => rfl)) pm_int (fun _ _ => rfl))) pma_nil)))))))
noncomputable def m_opposite : DSt → Store → Res Fl :=
  (mRet (m2 (m2 (mVar 0) (mC (.int 2)) addD) (mCB lenD (mCons (mC (.ktp [(.int 0), (.int 1), (.int 2), (.int 3)])) mNil)) modD))
noncomputable def d_opposite : List D → Store → Res D := gcD (denOf 1 m_opposite)
theorem ok_opposite (T : Txt K mg) : FnOk P w K mg base CX0 1 T.f_opposite T.e_opposite ["side"] (spD K mg 1 d_opposite) :=
  fn_gc (fn_den T.F_opposite sc_opposite fun cdv A outer s H E hr =>
   ((pms_one (pms_ret (pm_op od_mod (pm_op od_add (pm_var 0) pm_int) (pm_callB cd_len (by rfl) T.n_len bb_len (pma_cons (pm_gktp (by rfl) T.c_SIDES) pma_nil)))))))
noncomputable def e1_lying : DSt → Store → Res D :=
  (mTup (mCons (mTup (mCons (mVar 1) (mCons (mVar 2) mNil))) (mCons (mVar 3) mNil)))
noncomputable def m_lying : DSt → Store → Res Fl :=
  (mRet (mCB (dictD true) (mCons (mLc (mSeqI (mVar 0)) (gtTup 3 (gtCons (gtName 1) (gtCons (gtName 2) (gtCons (gtName 3) gtNil)))) (fun _ S => .ok true S)
  e1_lying [1, 2, 3]) mNil)))
noncomputable def d_lying : List D → Store → Res D := gcO (denOf 4 m_lying)
theorem ok_lying (T : Txt K mg) : FnOk P w K mg base CX0 1 T.f_lying T.e_lying ["standing"] (spD K mg 1 d_lying) :=
  fn_gcO (fn_den T.F_lying sc_lying fun cdv A outer s H E hr =>
   ((pms_one (pms_ret (pm_callTy (cd_dict rfl (u8 hr) true) (by rfl) T.n_dict bb_dict (pma_cons (pm_lc (own := [("x", 1), ("y", 2), ("kind", 3)]) (is := [1, 2, 3]) rfl sc_lying.nd (pmi_seq (pm_var 0)) (blkOk_by (by show blkC N_lying (defScope s_lying) _ _ = true; decide +kernel)) (fun _ _ _ _ _ => (pmx_tup rfl (pmxs_cons (pmx_name (i := 1) sc_lying.nd rfl (Or.inl rfl)) (pmxs_cons (pmx_name (i := 2) sc_lying.nd rfl (Or.inl rfl)) (pmxs_cons (pmx_name (i := 3) sc_lying.nd rfl (Or.inl rfl)) pmxs_nil))))) (fun _ _ _ _ _ => pmt_nil) (fun _ _ _ _ _ => (pm_tup (pma_cons (pm_tup (pma_cons (pm_var 1) (pma_cons (pm_var 2) pma_nil))) (pma_cons (pm_var 3) pma_nil)))) (by decide)) pma_nil))))))
noncomputable def m_law_begin : DSt → Store → Res Fl :=
  (mSeq (mSet 2 (mIf (mT (m2 (mVar 1) (mCB lenD (mCons (mVar 0) mNil)) ltD)) (m2 (mVar 0) (mVar 1) ixD) (mC (.int 0))))
  (mSeq (mSet 3 (m2 (m2 (m2 (m2 (m2 (mC (.int 10)) (mC (.int 60)) powD) (m2 (mC (.int 10)) (mC (.int 60)) powD) mulX) (m2 (mC (.int 10)) (mC (.int 60)) powD) mulX) (m2 (mC (.int 10)) (mC (.int 60)) powD) mulX) (m2 (mC (.int 10)) (mC (.int 60)) powD) mulX))
  (mSeq (mSet 4 (m2 (m2 (mVar 2) (mVar 3) modD) (mCB intD (mCons (m2 (mVar 2) (m2 (mC (.int 10)) (mC (.int 18)) powD) (cmpI fun i j => decide (j ≤ i))) mNil)) mulX))
  (mRet (mLstM (mCons (mVar 4) (mCons (m2 (m2 (m2 (mVar 2) (mC (.int 2305843009213693951)) modD) (m2 (mC (.int 7919)) (mVar 1) mulX) addD) (mC (.int 2305843009213693951)) modD) (mCons (mC (.int 0)) mNil))))))))
noncomputable def d_law_begin : List D → Store → Res D := denOf 5 m_law_begin
theorem ok_law_begin (T : Txt K mg) : FnOk P w K mg base CX0 1 T.f_law_begin T.e_law_begin ["_law_script", "_law_k"] (spD K mg 2 d_law_begin) :=
  fn_den T.F_law_begin sc_law_begin fun cdv A outer s H E hr =>
   ((pms_cons (pms_set (i := 2) sc_law_begin.nd rfl (Or.inl rfl) (pm_ifExp (pmt_cmp (od_lt hr.units0) (pm_var 1) (pm_callB cd_len (by rfl) T.n_len bb_len (pma_cons (pm_var 0) pma_nil)) (nomark _)) (pm_ix (hu_of hr) (pm_var 0) (pm_var 1) (fun _ _ => rfl)) pm_int))
  (pms_cons (pms_set (i := 3) sc_law_begin.nd rfl (Or.inl rfl) (pm_op od_mulX (pm_op od_mulX (pm_op od_mulX (pm_op od_mulX (pm_op od_pow pm_int pm_int) (pm_op od_pow pm_int pm_int)) (pm_op od_pow pm_int pm_int)) (pm_op od_pow pm_int pm_int)) (pm_op od_pow pm_int pm_int)))
  (pms_cons (pms_set (i := 4) sc_law_begin.nd rfl (Or.inl rfl) (pm_op od_mulX (pm_op od_mod (pm_var 2) (pm_var 3)) (pm_callTy cd_int (by rfl) T.n_int bb_int (pma_cons (pm_cmp od_ge (pm_var 2) (pm_op od_pow pm_int pm_int) (nomark _)) pma_nil))))
  (pms_one (pms_ret (pm_lstM (pma_cons (pm_var 4) (pma_cons (pm_op od_mod (pm_op od_add (pm_op od_mod (pm_var 2) pm_int) (pm_op od_mulX pm_int (pm_var 1))) pm_int) (pma_cons pm_int pma_nil))))))))))
noncomputable def m_law_draw : DSt → Store → Res Fl :=
  (mSeq (mIfS (mT (m2 (m2 (mVar 0) (mC (.int 0)) ixD) (mC (.int 0)) (cmpI fun i j => decide (j < i))))
  (mSeq (mSet 2 (m2 (m2 (mVar 0) (mC (.int 0)) ixD) (mVar 1) modD))
  (mSeq (mAsg (m2 (m2 (mVar 0) (mC (.int 0)) ixD) (mVar 1) fdivD) (gtSub (mVar 0) (mC (.int 0)) setD))
  (mRet (mVar 2))))
  mSkip)
  (mSeq (mAsg (m2 (m2 (mVar 0) (mC (.int 2)) ixD) (mC (.int 1)) addD) (gtSub (mVar 0) (mC (.int 2)) setD))
  (mSeq (mSet 3 (m2 (m2 (m2 (m2 (m2 (mVar 0) (mC (.int 1)) ixD) (m2 (m2 (mC (.int 104729)) (m2 (mVar 0) (mC (.int 2)) ixD) mulX) (m2 (mVar 0) (mC (.int 2)) ixD) mulX) addD) (m2 (mC (.int 31)) (m2 (mVar 0) (mC (.int 2)) ixD) mulX) addD) (mC (.int 48271)) mulX) (mC (.int 2305843009213693921)) modD))
  (mSeq (mSet 3 (m2 (m2 (mVar 3) (m2 (m2 (mVar 3) (mC (.int 1000003)) modD) (m2 (mC (.int 39373)) (m2 (mVar 0) (mC (.int 2)) ixD) mulX) addD) mulX) (mC (.int 2305843009213693907)) modD))
  (mRet (m2 (m2 (m2 (mVar 3) (mC (.int 65537)) fdivD) (m2 (mVar 3) (mC (.int 1000033)) fdivD) addD) (mVar 1) modD))))))
noncomputable def d_law_draw : List D → Store → Res D := gcD (denOf 4 m_law_draw)
theorem ok_law_draw (T : Txt K mg) : FnOk P w K mg base CX0 1 T.f_law_draw T.e_law_draw ["_law_pot", "_law_many"] (spD K mg 2 d_law_draw) :=
  fn_gc (fn_den T.F_law_draw sc_law_draw fun cdv A outer s H E hr =>
   ((pms_cons (pms_if (pmt_cmp od_gt (pm_ix (hu_of hr) (pm_var 0) pm_int (fun _ _ => rfl)) pm_int (nomark _))
  (pms_cons (pms_set (i := 2) sc_law_draw.nd rfl (Or.inl rfl) (pm_op od_mod (pm_ix (hu_of hr) (pm_var 0) pm_int (fun _ _ => rfl)) (pm_var 1)))
  (pms_cons (pms_asg (pm_op od_fdiv (pm_ix (hu_of hr) (pm_var 0) pm_int (fun _ _ => rfl)) (pm_var 1)) (pmg_sub (W := W0) (pm_var 0) pm_int (os_set (hu_of hr))))
  (pms_one (pms_ret (pm_var 2)))))
  pms_nil)
  (pms_cons (pms_asg (pm_op od_add (pm_ix (hu_of hr) (pm_var 0) pm_int (fun _ _ => rfl)) pm_int) (pmg_sub (W := W0) (pm_var 0) pm_int (os_set (hu_of hr))))
  (pms_cons (pms_set (i := 3) sc_law_draw.nd rfl (Or.inl rfl) (pm_op od_mod (pm_op od_mulX (pm_op od_add (pm_op od_add (pm_ix (hu_of hr) (pm_var 0) pm_int (fun _ _ => rfl)) (pm_op od_mulX (pm_op od_mulX pm_int (pm_ix (hu_of hr) (pm_var 0) pm_int (fun _ _ => rfl))) (pm_ix (hu_of hr) (pm_var 0) pm_int (fun _ _ => rfl)))) (pm_op od_mulX pm_int (pm_ix (hu_of hr) (pm_var 0) pm_int (fun _ _ => rfl)))) pm_int) pm_int))
  (pms_cons (pms_set (i := 3) sc_law_draw.nd rfl (Or.inl rfl) (pm_op od_mod (pm_op od_mulX (pm_var 3) (pm_op od_add (pm_op od_mod (pm_var 3) pm_int) (pm_op od_mulX pm_int (pm_ix (hu_of hr) (pm_var 0) pm_int (fun _ _ => rfl))))) pm_int))
  (pms_one (pms_ret (pm_op od_mod (pm_op od_add (pm_op od_fdiv (pm_var 3) pm_int) (pm_op od_fdiv (pm_var 3) pm_int)) (pm_var 1))))))))))
noncomputable def e1_law_lying : DSt → Store → Res D :=
  (mTup (mCons (mTup (mCons (mVar 1) (mCons (mVar 2) mNil))) (mCons (mVar 3) mNil)))
noncomputable def m_law_lying : DSt → Store → Res Fl :=
  (mRet (mCB (dictD true) (mCons (mLc (mSeqI (mVar 0)) (gtTup 3 (gtCons (gtName 1) (gtCons (gtName 2) (gtCons (gtName 3) gtNil)))) (fun _ S => .ok true S)
  e1_law_lying [1, 2, 3]) mNil)))
noncomputable def d_law_lying : List D → Store → Res D := gcO (denOf 4 m_law_lying)
theorem ok_law_lying (T : Txt K mg) : FnOk P w K mg base CX0 1 T.f_law_lying T.e_law_lying ["_law_standing_here"] (spD K mg 1 d_law_lying) :=
  fn_gcO (fn_den T.F_law_lying sc_law_lying fun cdv A outer s H E hr =>
   ((pms_one (pms_ret (pm_callTy (cd_dict rfl (u8 hr) true) (by rfl) T.n_dict bb_dict (pma_cons (pm_lc (own := [("_law_x", 1), ("_law_y", 2), ("_law_kind_here", 3)]) (is := [1, 2, 3]) rfl sc_law_lying.nd (pmi_seq (pm_var 0)) (blkOk_by (by show blkC N_law_lying (defScope s_law_lying) _ _ = true; decide +kernel)) (fun _ _ _ _ _ => (pmx_tup rfl (pmxs_cons (pmx_name (i := 1) sc_law_lying.nd rfl (Or.inl rfl)) (pmxs_cons (pmx_name (i := 2) sc_law_lying.nd rfl (Or.inl rfl)) (pmxs_cons (pmx_name (i := 3) sc_law_lying.nd rfl (Or.inl rfl)) pmxs_nil))))) (fun _ _ _ _ _ => pmt_nil) (fun _ _ _ _ _ => (pm_tup (pma_cons (pm_tup (pma_cons (pm_var 1) (pma_cons (pm_var 2) pma_nil))) (pma_cons (pm_var 3) pma_nil)))) (by decide)) pma_nil))))))
noncomputable def m_law_step : DSt → Store → Res Fl :=
  (mSeq (mAsg (mVar 0) (gtTup 2 (gtCons (gtName 2) (gtCons (gtName 3) gtNil))))
  (mRet (m2 (mLst (mCons (mTup (mCons (mVar 2) (mCons (m2 (mVar 3) (mC (.int 1)) addD) mNil))) (mCons (mTup (mCons (m2 (mVar 2) (mC (.int 1)) addD) (mCons (mVar 3) mNil))) (mCons (mTup (mCons (mVar 2) (mCons (m2 (mVar 3) (mC (.int 1)) subD) mNil))) (mCons (mTup (mCons (m2 (mVar 2) (mC (.int 1)) subD) (mCons (mVar 3) mNil))) mNil))))) (mVar 1) ixD)))
noncomputable def d_law_step : List D → Store → Res D := gcD (denOf 4 m_law_step)
theorem ok_law_step (T : Txt K mg) : FnOk P w K mg base CX0 1 T.f_law_step T.e_law_step ["_law_place", "_law_side"] (spD K mg 2 d_law_step) :=
  fn_gc (fn_den T.F_law_step sc_law_step fun cdv A outer s H E hr =>
   ((pms_cons (pms_asg (pm_var 0) (pmg_tup rfl (pmgs_cons (pmg_name (i := 2) sc_law_step.nd rfl (Or.inl rfl)) (pmgs_cons (pmg_name (i := 3) sc_law_step.nd rfl (Or.inl rfl)) pmgs_nil))))
  (pms_one (pms_ret (pm_ix (hu_of hr) (pm_lst (pma_cons (pm_tup (pma_cons (pm_var 2) (pma_cons (pm_op od_add (pm_var 3) pm_int) pma_nil))) (pma_cons (pm_tup (pma_cons (pm_op od_add (pm_var 2) pm_int) (pma_cons (pm_var 3) pma_nil))) (pma_cons (pm_tup (pma_cons (pm_var 2) (pma_cons (pm_op od_sub (pm_var 3) pm_int) pma_nil))) (pma_cons (pm_tup (pma_cons (pm_op od_sub (pm_var 2) pm_int) (pma_cons (pm_var 3) pma_nil))) pma_nil))))) (pm_var 1) (fun _ _ => rfl)))))))
noncomputable def m_Holder___init__ : DSt → Store → Res Fl :=
  (mSeq (mFldS ["Holder"] "enough" (m2 (m2 (mVar 1) (mC (.int 0)) ixD) (mC (.int 0)) ixD) (mVar 0))
  (mSeq (mFldS ["Holder"] "strengths" (mCB dictXD (mCons (m2 (m2 (mVar 1) (mC (.int 0)) ixD) (mC (.int 1)) ixD) mNil)) (mVar 0))
  (mSeq (mFldS ["Holder"] "kinds" (m2 (m2 (mVar 1) (mC (.int 0)) ixD) (mC (.int 2)) ixD) (mVar 0))
  (mSeq (mFldS ["Holder"] "wide" (m2 (m2 (mVar 1) (mC (.int 1)) ixD) (mC (.int 0)) ixD) (mVar 0))
  (mFldS ["Holder"] "high" (m2 (m2 (mVar 1) (mC (.int 1)) ixD) (mC (.int 1)) ixD) (mVar 0))))))
noncomputable def d_Holder___init__ : List D → Store → Res D := denOf 2 m_Holder___init__
theorem ok_Holder___init__ (T : Txt K mg) : FnOk P w K mg base CX0 1 T.f_Holder___init__ T.e_Holder___init__ ["self", "bed"] (spD K mg 2 d_Holder___init__) :=
  fn_den T.F_Holder___init__ sc_Holder___init__ fun cdv A outer s H E hr =>
   ((pms_cons (pms_fldS (pm_ix (hu_of hr) (pm_ix (hu_of hr) (pm_var 1) pm_int (fun _ _ => rfl)) pm_int (fun _ _ => rfl)) (pm_var 0) T.fld_enough)
  (pms_cons (pms_fldS (pm_callTy (cd_dictX rfl) (by rfl) T.n_dict bb_dict (pma_cons (pm_ix (hu_of hr) (pm_ix (hu_of hr) (pm_var 1) pm_int (fun _ _ => rfl)) pm_int (fun _ _ => rfl)) pma_nil)) (pm_var 0) T.fld_strengths)
  (pms_cons (pms_fldS (pm_ix (hu_of hr) (pm_ix (hu_of hr) (pm_var 1) pm_int (fun _ _ => rfl)) pm_int (fun _ _ => rfl)) (pm_var 0) T.fld_kinds)
  (pms_cons (pms_fldS (pm_ix (hu_of hr) (pm_ix (hu_of hr) (pm_var 1) pm_int (fun _ _ => rfl)) pm_int (fun _ _ => rfl)) (pm_var 0) T.fld_wide)
  (pms_one (pms_fldS (pm_ix (hu_of hr) (pm_ix (hu_of hr) (pm_var 1) pm_int (fun _ _ => rfl)) pm_int (fun _ _ => rfl)) (pm_var 0) T.fld_high)))))))
noncomputable def m_Holder_is_on : DSt → Store → Res Fl :=
  (mRet (mAndV (mCh (mC (.int 0)) (m2 (mVar 1) (mC (.int 0)) ixD) (mFldC ["Holder"] "wide" (mVar 0)) (cmpI fun i j => decide (i ≤ j)) ltD) (mCh (mC (.int 0)) (m2 (mVar 1) (mC (.int 1)) ixD) (mFldC ["Holder"] "high" (mVar 0)) (cmpI fun i j => decide (i ≤ j)) ltD)))
noncomputable def d_Holder_is_on : List D → Store → Res D := gcD (denOf 2 m_Holder_is_on)
theorem ok_Holder_is_on (T : Txt K mg) : FnOk P w K mg base CX0 1 T.f_Holder_is_on T.e_Holder_is_on ["self", "place"] (spD K mg 2 d_Holder_is_on) :=
  fn_gc (fn_den T.F_Holder_is_on sc_Holder_is_on fun cdv A outer s H E hr =>
   ((pms_one (pms_ret (pm_and (pm_chain od_le (od_lt hr.units0) pm_int (pm_ix (hu_of hr) (pm_var 1) pm_int (fun _ _ => rfl)) (pm_fld (pm_var 0) T.fld_wide)) (pm_one (pm_chain od_le (od_lt hr.units0) pm_int (pm_ix (hu_of hr) (pm_var 1) pm_int (fun _ _ => rfl)) (pm_fld (pm_var 0) T.fld_high))))))))
noncomputable def t1_Holder_held_at : DSt → Store → Res Bool :=
  (mAndT (mT (m2 (m2 (mVar 1) (mVar 3) ixD) (mC (.str (tx []))) (eqD true))) (mT (m2 (m2 (m2 (mFldC ["Holder"] "kinds" (mVar 0)) (mVar 2) ixD) (m2 (mC (.int 1)) (mVar 3) addD) ixD) (m2 (mVar 1) (mVar 3) ixD) (eqD false))))
noncomputable def e1_Holder_held_at : DSt → Store → Res D :=
  (mVar 3)
noncomputable def m_Holder_held_at : DSt → Store → Res Fl :=
  (mRet (mLc (mRng1 (mCons (mC (.int 4)) mNil)) (gtName 3) t1_Holder_held_at
  e1_Holder_held_at [3]))
noncomputable def d_Holder_held_at : List D → Store → Res D := gcD (denOf 4 m_Holder_held_at)
theorem ok_Holder_held_at (T : Txt K mg) : FnOk P w K mg base CX0 1 T.f_Holder_held_at T.e_Holder_held_at ["self", "offers", "kind"] (spD K mg 3 d_Holder_held_at) :=
  fn_gc (fn_den T.F_Holder_held_at sc_Holder_held_at fun cdv A outer s H E hr =>
   ((pms_one (pms_ret (pm_lc (own := [("side", 3)]) (is := [3]) rfl sc_Holder_held_at.nd (pmi_range1 (by rfl) T.n_range (pma_cons pm_int pma_nil)) (blkOk_by (by show blkC N_Holder_held_at (defScope s_Holder_held_at) _ _ = true; decide +kernel)) (fun _ _ _ _ _ => (pmx_name (i := 3) sc_Holder_held_at.nd rfl (Or.inl rfl))) (fun _ _ _ _ _ => pmt_one (PMW.pt (pmw_and (pmt_cmp (od_ne hr.units) (pm_ix (hu_of hr) (pm_var 1) (pm_var 3) (fun _ _ => rfl)) (pm_strT lt_0) (nomark _)) (pmw_and1 (pmt_cmp (od_eq hr.units) (pm_ix (hu_of hr) (pm_ix (hu_of hr) (pm_fld (pm_var 0) T.fld_kinds) (pm_var 2) (fun _ _ => rfl)) (pm_op od_add pm_int (pm_var 3)) (fun _ _ => rfl)) (pm_ix (hu_of hr) (pm_var 1) (pm_var 3) (fun _ _ => rfl)) (nomark _)))))) (fun _ _ _ _ _ => (pm_var 3)) (by decide))))))
noncomputable def e1_is_tile : DSt → Store → Res D :=
  (mCall 1 d_is_whole (mCons (mVar 1) mNil))
noncomputable def m_is_tile : DSt → Store → Res Fl :=
  (mRet (mAndV (m1 (mVar 0) (isiD "tuple")) (mAndV (m2 (mCB lenD (mCons (mVar 0) mNil)) (mC (.int 3)) (eqD false)) (mCB (onBls fun bs => .bl (bs.all id)) (mCons (mLc (mSeqI (mVar 0)) (gtName 1) (fun _ S => .ok true S)
  e1_is_tile [1]) mNil)))))
noncomputable def d_is_tile : List D → Store → Res D := gcD (denOf 2 m_is_tile)
theorem ok_is_tile (T : Txt K mg) : FnOk P w K mg base CX0 2 T.f_is_tile T.e_is_tile ["thing"] (spD K mg 1 d_is_tile) :=
  fn_gc (fn_den T.F_is_tile sc_is_tile fun cdv A outer s H E hr =>
   ((pms_one (pms_ret (pm_and (pm_isi (T := "tuple") (by rfl) T.n_isinstance bb_isinstance (pm_var 0) (by rfl) T.n_tuple bb_tuple) (pm_and (pm_cmp (od_eq hr.units) (pm_callB cd_len (by rfl) T.n_len bb_len (pma_cons (pm_var 0) pma_nil)) pm_int (nomark _)) (pm_one (pm_callB (cd_all rfl) (by rfl) T.n_all bb_all (pma_cons (pm_lc (own := [("part", 1)]) (is := [1]) rfl sc_is_tile.nd (pmi_seq (pm_var 0)) (blkOk_by (by show blkC N_is_tile (defScope s_is_tile) _ _ = true; decide +kernel)) (fun _ _ _ _ _ => (pmx_name (i := 1) sc_is_tile.nd rfl (Or.inl rfl))) (fun _ _ _ _ _ => pmt_nil) (fun _ _ _ _ _ => (pm_call (ok_is_whole T) (hr.mono (by decide)) (by rfl) T.g_is_whole T.F_is_whole.kp T.b_is_whole (pma_cons (pm_var 1) pma_nil))) (by decide)) pma_nil)))))))))
noncomputable def e1_law_names : DSt → Store → Res D :=
  (m2 (m2 (mVar 2) (mVar 3) ixD) (m2 (mVar 5) (mC (.int 1)) addD) mulX)
noncomputable def e2_law_names : DSt → Store → Res D :=
  (m2 (m2 (mVar 2) (m2 (m2 (mVar 3) (m2 (mVar 4) (mVar 5) mulX) addD) (mC (.int 26)) modD) ixD) (m2 (mC (.int 1)) (m2 (m2 (m2 (mVar 5) (mVar 5) mulX) (mVar 3) addD) (mC (.int 8)) modD) addD) mulX)
noncomputable def m_law_names : DSt → Store → Res Fl :=
  (mSeq (mSet 2 (mC (.str (tx lc_az))))
  (mSeq (mAsg (mTup (mCons (mCall 2 d_law_draw (mCons (mVar 0) (mCons (mC (.int 26)) mNil))) (mCons (m2 (mLst (mCons (mC (.int 1)) (mCons (mC (.int 3)) (mCons (mC (.int 5)) (mCons (mC (.int 7)) (mCons (mC (.int 9)) (mCons (mC (.int 11)) mNil))))))) (mCall 2 d_law_draw (mCons (mVar 0) (mCons (mC (.int 6)) mNil))) ixD) mNil))) (gtTup 2 (gtCons (gtName 3) (gtCons (gtName 4) gtNil))))
  (mSeq (mIfS (mT (m2 (mCall 2 d_law_draw (mCons (mVar 0) (mCons (mC (.int 3)) mNil))) (mC (.int 0)) (eqD false)))
  (mRet (mLc (mRng1 (mCons (mVar 1) mNil)) (gtName 5) (fun _ S => .ok true S)
  e1_law_names [5]))
  mSkip)
  (mRet (mCB sortedD (mCons (mLc (mRng1 (mCons (mVar 1) mNil)) (gtName 5) (fun _ S => .ok true S)
  e2_law_names [5]) mNil))))))
noncomputable def d_law_names : List D → Store → Res D := gcD (denOf 6 m_law_names)
theorem ok_law_names (T : Txt K mg) : FnOk P w K mg base CX0 2 T.f_law_names T.e_law_names ["_law_pot", "_law_many"] (spD K mg 2 d_law_names) :=
  fn_gc (fn_den T.F_law_names sc_law_names fun cdv A outer s H E hr =>
   ((pms_cons (pms_set (i := 2) sc_law_names.nd rfl (Or.inr rfl) (pm_strT lt_1))
  (pms_cons (pms_asg (pm_tup (pma_cons (pm_call (ok_law_draw T) (hr.mono (by decide)) (by rfl) T.g_law_draw T.F_law_draw.kp T.b_law_draw (pma_cons (pm_var 0) (pma_cons pm_int pma_nil))) (pma_cons (pm_ix (hu_of hr) (pm_lst (pma_cons pm_int (pma_cons pm_int (pma_cons pm_int (pma_cons pm_int (pma_cons pm_int (pma_cons pm_int pma_nil))))))) (pm_call (ok_law_draw T) (hr.mono (by decide)) (by rfl) T.g_law_draw T.F_law_draw.kp T.b_law_draw (pma_cons (pm_var 0) (pma_cons pm_int pma_nil))) (fun _ _ => rfl)) pma_nil))) (pmg_tup rfl (pmgs_cons (pmg_name (i := 3) sc_law_names.nd rfl (Or.inr rfl)) (pmgs_cons (pmg_name (i := 4) sc_law_names.nd rfl (Or.inr rfl)) pmgs_nil))))
  (pms_cons (pms_if (pmt_cmp (od_eq hr.units) (pm_call (ok_law_draw T) (hr.mono (by decide)) (by rfl) T.g_law_draw T.F_law_draw.kp T.b_law_draw (pma_cons (pm_var 0) (pma_cons pm_int pma_nil))) pm_int (nomark _))
  (pms_one (pms_ret (pm_lc (own := [("_law_k", 5)]) (is := [5]) rfl sc_law_names.nd (pmi_range1 (by rfl) T.n_range (pma_cons (pm_var 1) pma_nil)) (blkOk_by (by show blkC N_law_names (defScope s_law_names) _ _ = true; decide +kernel)) (fun _ _ _ _ _ => (pmx_name (i := 5) sc_law_names.nd rfl (Or.inl rfl))) (fun _ _ _ _ _ => pmt_nil) (fun _ _ _ _ _ => (pm_op od_mulX (pm_ix (hu_of hr) (pm_var 2) (pm_var 3) (fun _ _ => rfl)) (pm_op od_add (pm_var 5) pm_int))) (by decide))))
  pms_nil)
  (pms_one (pms_ret (pm_callB (cd_sorted hr.units) (by rfl) T.n_sorted bb_sorted (pma_cons (pm_lc (own := [("_law_k", 5)]) (is := [5]) rfl sc_law_names.nd (pmi_range1 (by rfl) T.n_range (pma_cons (pm_var 1) pma_nil)) (blkOk_by (by show blkC N_law_names (defScope s_law_names) _ _ = true; decide +kernel)) (fun _ _ _ _ _ => (pmx_name (i := 5) sc_law_names.nd rfl (Or.inl rfl))) (fun _ _ _ _ _ => pmt_nil) (fun _ _ _ _ _ => (pm_op od_mulX (pm_ix (hu_of hr) (pm_var 2) (pm_op od_mod (pm_op od_add (pm_var 3) (pm_op od_mulX (pm_var 4) (pm_var 5))) pm_int) (fun _ _ => rfl)) (pm_op od_add pm_int (pm_op od_mod (pm_op od_add (pm_op od_mulX (pm_var 5) (pm_var 5)) (pm_var 3)) pm_int)))) (by decide)) pma_nil)))))))))
noncomputable def e1_law_kind : DSt → Store → Res D :=
  (m2 (m2 (mLst (mCons (mC (.str (tx []))) mNil)) (mVar 1) addD) (mCall 2 d_law_draw (mCons (mVar 0) (mCons (m2 (mCB lenD (mCons (mVar 1) mNil)) (mC (.int 1)) addD) mNil))) ixD)
noncomputable def m_law_kind : DSt → Store → Res Fl :=
  (mSeq (mSet 2 (m2 (mLst (mCons (mC (.str (tx []))) (mCons (m2 (mC (.str (tx lc_azd))) (mCall 2 d_law_draw (mCons (mVar 0) (mCons (mC (.int 36)) mNil))) ixD) mNil))) (mCall 2 d_law_draw (mCons (mVar 0) (mCons (mC (.int 2)) mNil))) ixD))
  (mSeq (mSet 3 (mLc (mRng1 (mCons (mC (.int 4)) mNil)) (gtName 4) (fun _ S => .ok true S)
  e1_law_kind [4]))
  (mRet (mTup (mCons (mVar 2) (mCons (m2 (mVar 3) (mC (.int 0)) ixD) (mCons (m2 (mVar 3) (mC (.int 1)) ixD) (mCons (m2 (mVar 3) (mC (.int 2)) ixD) (mCons (m2 (mVar 3) (mC (.int 3)) ixD) mNil)))))))))
noncomputable def d_law_kind : List D → Store → Res D := gcD (denOf 5 m_law_kind)
theorem ok_law_kind (T : Txt K mg) : FnOk P w K mg base CX0 2 T.f_law_kind T.e_law_kind ["_law_pot", "_law_names_here"] (spD K mg 2 d_law_kind) :=
  fn_gc (fn_den T.F_law_kind sc_law_kind fun cdv A outer s H E hr =>
   ((pms_cons (pms_set (i := 2) sc_law_kind.nd rfl (Or.inl rfl) (pm_ix (hu_of hr) (pm_lst (pma_cons (pm_strT lt_0) (pma_cons (pm_ix (hu_of hr) (pm_strT lt_2) (pm_call (ok_law_draw T) (hr.mono (by decide)) (by rfl) T.g_law_draw T.F_law_draw.kp T.b_law_draw (pma_cons (pm_var 0) (pma_cons pm_int pma_nil))) (fun _ _ => rfl)) pma_nil))) (pm_call (ok_law_draw T) (hr.mono (by decide)) (by rfl) T.g_law_draw T.F_law_draw.kp T.b_law_draw (pma_cons (pm_var 0) (pma_cons pm_int pma_nil))) (fun _ _ => rfl)))
  (pms_cons (pms_setLc (i := 3) (own := [("_law_side", 4)]) (is := [4]) rfl sc_law_kind.nd rfl rfl (sw_true rfl rfl rfl (by decide +kernel)) (pmi_range1 (by rfl) T.n_range (pma_cons pm_int pma_nil)) (blkOk_by (by show blkC N_law_kind (defScope s_law_kind) _ _ = true; decide +kernel)) (fun _ _ _ _ _ => (pmx_name (i := 4) sc_law_kind.nd rfl (Or.inl rfl))) (fun _ _ _ _ _ => pmt_nil) (fun _ _ _ _ _ => (pm_ix (hu_of hr) (pm_op od_add (pm_lst (pma_cons (pm_strT lt_0) pma_nil)) (pm_var 1)) (pm_call (ok_law_draw T) (hr.mono (by decide)) (by rfl) T.g_law_draw T.F_law_draw.kp T.b_law_draw (pma_cons (pm_var 0) (pma_cons (pm_op od_add (pm_callB cd_len (by rfl) T.n_len bb_len (pma_cons (pm_var 1) pma_nil)) pm_int) pma_nil))) (fun _ _ => rfl))) (by decide))
  (pms_one (pms_ret (pm_tup (pma_cons (pm_var 2) (pma_cons (pm_ix (hu_of hr) (pm_var 3) pm_int (fun _ _ => rfl)) (pma_cons (pm_ix (hu_of hr) (pm_var 3) pm_int (fun _ _ => rfl)) (pma_cons (pm_ix (hu_of hr) (pm_var 3) pm_int (fun _ _ => rfl)) (pma_cons (pm_ix (hu_of hr) (pm_var 3) pm_int (fun _ _ => rfl)) pma_nil))))))))))))
noncomputable def b1_law_standing : DSt → Store → Res Fl :=
  (mSeq (mSet 6 (mTup (mCons (mCall 2 d_law_draw (mCons (mVar 0) (mCons (m2 (mVar 2) (mC (.int 0)) ixD) mNil))) (mCons (mCall 2 d_law_draw (mCons (mVar 0) (mCons (m2 (mVar 2) (mC (.int 1)) ixD) mNil))) mNil))))
  (mAsg (mCall 2 d_law_draw (mCons (mVar 0) (mCons (mCB lenD (mCons (m2 (mVar 1) (mC (.int 2)) ixD) mNil)) mNil))) (gtSub (mVar 4) (mVar 6) setD)))
noncomputable def e1_law_standing : DSt → Store → Res D :=
  (m2 (mVar 6) (mTup (mCons (m2 (mVar 4) (mVar 6) ixD) mNil)) addD)
noncomputable def m_law_standing : DSt → Store → Res Fl :=
  (mSeq (mSet 4 (fun _ S => .ok (.loc S.length) (S ++ [.dT []])))
  (mSeq (mFor (mRng1 (mCons (mCall 2 d_law_draw (mCons (mVar 0) (mCons (m2 (mVar 3) (mC (.int 1)) addD) mNil))) mNil)) (gtName 5)
  b1_law_standing)
  (mRet (mCB tupleD (mCons (mCB sortedD (mCons (lockE (mVar 4) (mLc (mAnyI (mVar 4)) (gtName 6) (fun _ S => .ok true S)
  e1_law_standing [6])) mNil)) mNil)))))
noncomputable def d_law_standing : List D → Store → Res D := gcD (denOf 7 m_law_standing)
theorem ok_law_standing (T : Txt K mg) : FnOk P w K mg base CX0 2 T.f_law_standing T.e_law_standing ["_law_pot", "_law_house_here", "_law_floor", "_law_most"] (spD K mg 4 d_law_standing) :=
  fn_gc (fn_den T.F_law_standing sc_law_standing fun cdv A outer s H E hr =>
   ((pms_cons (pms_set (i := 4) sc_law_standing.nd rfl (Or.inr rfl) pm_dictT)
  (pms_cons (pms_for PassesOwn.never rfl (pmi_range1 (by rfl) T.n_range (pma_cons (pm_call (ok_law_draw T) (hr.mono (by decide)) (by rfl) T.g_law_draw T.F_law_draw.kp T.b_law_draw (pma_cons (pm_var 0) (pma_cons (pm_op od_add (pm_var 3) pm_int) pma_nil))) pma_nil)) (pmg_name (i := 5) sc_law_standing.nd rfl (Or.inl rfl))
  (pms_cons (pms_set (i := 6) sc_law_standing.nd rfl (Or.inl rfl) (pm_tup (pma_cons (pm_call (ok_law_draw T) (hr.mono (by decide)) (by rfl) T.g_law_draw T.F_law_draw.kp T.b_law_draw (pma_cons (pm_var 0) (pma_cons (pm_ix (hu_of hr) (pm_var 2) pm_int (fun _ _ => rfl)) pma_nil))) (pma_cons (pm_call (ok_law_draw T) (hr.mono (by decide)) (by rfl) T.g_law_draw T.F_law_draw.kp T.b_law_draw (pma_cons (pm_var 0) (pma_cons (pm_ix (hu_of hr) (pm_var 2) pm_int (fun _ _ => rfl)) pma_nil))) pma_nil))))
  (pms_one (pms_asg (pm_call (ok_law_draw T) (hr.mono (by decide)) (by rfl) T.g_law_draw T.F_law_draw.kp T.b_law_draw (pma_cons (pm_var 0) (pma_cons (pm_callB cd_len (by rfl) T.n_len bb_len (pma_cons (pm_ix (hu_of hr) (pm_var 1) pm_int (fun _ _ => rfl)) pma_nil)) pma_nil))) (pmg_sub (W := W0) (pm_var 4) (pm_var 6) (os_set (hu_of hr)))))))
  (pms_one (pms_ret (pm_callTy cd_tuple (by rfl) T.n_tuple bb_tuple (pma_cons (pm_callB (cd_sorted hr.units) (by rfl) T.n_sorted bb_sorted (pma_cons (pm_lock (mVar 4) (pm_lc (own := [("_law_place", 6)]) (is := [6]) rfl sc_law_standing.nd (pmi_anyI (pm_var 4)) (blkOk_by (by show blkC N_law_standing (defScope s_law_standing) _ _ = true; decide +kernel)) (fun _ _ _ _ _ => (pmx_name (i := 6) sc_law_standing.nd rfl (Or.inl rfl))) (fun _ _ _ _ _ => pmt_nil) (fun _ _ _ _ _ => (pm_op od_add (pm_var 6) (pm_tup (pma_cons (pm_ix (hu_of hr) (pm_var 4) (pm_var 6) (fun _ _ => rfl)) pma_nil)))) (by decide))) pma_nil)) pma_nil))))))))
noncomputable def b1_law_sides : DSt → Store → Res Fl :=
  (mSeq (mSet 7 (mGet1 (mVar 1) (mCall 2 d_law_step (mCons (mVar 2) (mCons (mVar 6) mNil)))))
  (mSeq (mSet 8 (m2 (m2 (mVar 4) (mVar 3) ixD) (m2 (mVar 6) (mC (.int 1)) addD) ixD))
  (mIfS (mAndT (mT (m2 (mVar 7) (mC .non) (isND true))) (mAndT (mT (m2 (mVar 8) (mC (.str (tx []))) (eqD true))) (mT (m2 (m2 (m2 (mVar 4) (mVar 7) ixD) (m2 (m2 (m2 (mVar 6) (mC (.int 2)) addD) (mC (.int 4)) modD) (mC (.int 1)) addD) ixD) (mVar 8) (eqD false)))))
  (mDo (mBM "list" appendD (mVar 5) (mCons (mVar 6) mNil)))
  mSkip)))
noncomputable def m_law_sides : DSt → Store → Res Fl :=
  (mSeq (mPar 4 5 (mCons (m2 (m2 (mVar 0) (mC (.int 0)) ixD) (mC (.int 2)) ixD) (mCons (mLstM mNil) mNil)))
  (mSeq (mFor (mRng1 (mCons (mC (.int 4)) mNil)) (gtName 6)
  b1_law_sides)
  (mRet (mVar 5))))
noncomputable def d_law_sides : List D → Store → Res D := gcF (denOf 9 m_law_sides)
theorem ok_law_sides (T : Txt K mg) : FnOk P w K mg base CX0 2 T.f_law_sides T.e_law_sides ["_law_bed_here", "_law_there", "_law_place", "_law_kind_here"] (spD K mg 4 d_law_sides) :=
  fn_gcF (fn_den T.F_law_sides sc_law_sides fun cdv A outer s H E hr =>
   ((pms_cons (pms_par (i := 4) (j := 5) rfl sc_law_sides.nd rfl rfl (by decide) rfl rfl (pma_cons (pm_ix (hu_of hr) (pm_ix (hu_of hr) (pm_var 0) pm_int (fun _ _ => rfl)) pm_int (fun _ _ => rfl)) (pma_cons (pm_lstM pma_nil) pma_nil)) (by rfl))
  (pms_cons (pms_for PassesOwn.never rfl (pmi_range1 (by rfl) T.n_range (pma_cons pm_int pma_nil)) (pmg_name (i := 6) sc_law_sides.nd rfl (Or.inl rfl))
  (pms_cons (pms_set (i := 7) sc_law_sides.nd rfl (Or.inl rfl) (pm_get1 (hu_of hr) (pm_var 1) (pm_call (ok_law_step T) (hr.mono (by decide)) (by rfl) T.g_law_step T.F_law_step.kp T.b_law_step (pma_cons (pm_var 2) (pma_cons (pm_var 6) pma_nil))) ⟨rfl, rfl, rfl, rfl⟩))
  (pms_cons (pms_set (i := 8) sc_law_sides.nd rfl (Or.inl rfl) (pm_ix (hu_of hr) (pm_ix (hu_of hr) (pm_var 4) (pm_var 3) (fun _ _ => rfl)) (pm_op od_add (pm_var 6) pm_int) (fun _ _ => rfl)))
  (pms_one (pms_if (PMW.pt (pmw_and (pmt_cmp od_isnot (pm_var 7) pm_non (nomark _)) (pmw_and (pmt_cmp (od_ne hr.units) (pm_var 8) (pm_strT lt_0) (nomark _)) (pmw_and1 (pmt_cmp (od_eq hr.units) (pm_ix (hu_of hr) (pm_ix (hu_of hr) (pm_var 4) (pm_var 7) (fun _ _ => rfl)) (pm_op od_add (pm_op od_mod (pm_op od_add (pm_var 6) pm_int) pm_int) pm_int) (fun _ _ => rfl)) (pm_var 8) (nomark _))))))
  (pms_one (pms_expr (pm_bm md_append PySem.F.plainAttrs_list PySem.F.slot_list_append PySem.F.type_list_append (pm_var 5) (pma_cons (pm_var 6) pma_nil))))
  pms_nil)))))
  (pms_one (pms_ret (pm_var 5)))))))
noncomputable def t1_law_empty : DSt → Store → Res Bool :=
  (mT (m2 (mCall 2 d_law_step (mCons (mTup (mCons (mVar 3) (mCons (mVar 4) mNil))) (mCons (mVar 6) mNil))) (mVar 1) (inD false)))
noncomputable def e1_law_empty : DSt → Store → Res D :=
  (mVar 6)
noncomputable def b1_law_empty : DSt → Store → Res Fl :=
  (mSeq (mSet 5 (mLc (mRng1 (mCons (mC (.int 4)) mNil)) (gtName 6) t1_law_empty
  e1_law_empty [6]))
  (mIfS (mAndT (mT (m2 (mTup (mCons (mVar 3) (mCons (mVar 4) mNil))) (mVar 1) (inD true))) (mT (m2 (mVar 5) (mLst mNil) (eqD true))))
  (mDo (mBM "list" appendD (mVar 2) (mCons (mTup (mCons (mVar 3) (mCons (mVar 4) mNil))) mNil)))
  mSkip))
noncomputable def b2_law_empty : DSt → Store → Res Fl :=
  (mFor (mRng1 (mCons (m2 (m2 (mVar 0) (mC (.int 1)) ixD) (mC (.int 1)) ixD) mNil)) (gtName 4)
  b1_law_empty)
noncomputable def m_law_empty : DSt → Store → Res Fl :=
  (mSeq (mSet 2 (mLstM mNil))
  (mSeq (mFor (mRng1 (mCons (m2 (m2 (mVar 0) (mC (.int 1)) ixD) (mC (.int 0)) ixD) mNil)) (gtName 3)
  b2_law_empty)
  (mRet (mVar 2))))
noncomputable def d_law_empty : List D → Store → Res D := gcF (denOf 7 m_law_empty)
theorem ok_law_empty (T : Txt K mg) : FnOk P w K mg base CX0 2 T.f_law_empty T.e_law_empty ["_law_bed_here", "_law_there"] (spD K mg 2 d_law_empty) :=
  fn_gcF (fn_den T.F_law_empty sc_law_empty fun cdv A outer s H E hr =>
   ((pms_cons (pms_set (i := 2) sc_law_empty.nd rfl (Or.inl rfl) (pm_lstM pma_nil))
  (pms_cons (pms_for PassesOwn.never rfl (pmi_range1 (by rfl) T.n_range (pma_cons (pm_ix (hu_of hr) (pm_ix (hu_of hr) (pm_var 0) pm_int (fun _ _ => rfl)) pm_int (fun _ _ => rfl)) pma_nil)) (pmg_name (i := 3) sc_law_empty.nd rfl (Or.inr rfl))
  (pms_one (pms_for PassesOwn.never rfl (pmi_range1 (by rfl) T.n_range (pma_cons (pm_ix (hu_of hr) (pm_ix (hu_of hr) (pm_var 0) pm_int (fun _ _ => rfl)) pm_int (fun _ _ => rfl)) pma_nil)) (pmg_name (i := 4) sc_law_empty.nd rfl (Or.inr rfl))
  (pms_cons (pms_setLc (i := 5) (own := [("_law_side", 6)]) (is := [6]) rfl sc_law_empty.nd rfl rfl (sw_true rfl rfl rfl (by decide +kernel)) (pmi_range1 (by rfl) T.n_range (pma_cons pm_int pma_nil)) (blkOk_by (by show blkC N_law_empty (defScope s_law_empty) _ _ = true; decide +kernel)) (fun _ _ _ _ _ => (pmx_name (i := 6) sc_law_empty.nd rfl (Or.inl rfl))) (fun _ _ _ _ _ => pmt_one (pmt_cmp (od_in (u65 hr)) (pm_call (ok_law_step T) (hr.mono (by decide)) (by rfl) T.g_law_step T.F_law_step.kp T.b_law_step (pma_cons (pm_tup (pma_cons (pm_var 3) (pma_cons (pm_var 4) pma_nil))) (pma_cons (pm_var 6) pma_nil))) (pm_var 1) (by with_unfolding_all rfl))) (fun _ _ _ _ _ => (pm_var 6)) (by decide))
  (pms_one (pms_if (PMW.pt (pmw_and (pmt_cmp (od_notin (u65 hr)) (pm_tup (pma_cons (pm_var 3) (pma_cons (pm_var 4) pma_nil))) (pm_var 1) (by with_unfolding_all rfl)) (pmw_and1 (pmt_cmp (od_ne hr.units) (pm_var 5) (pm_lst pma_nil) (nomark _)))))
  (pms_one (pms_expr (pm_bm md_append PySem.F.plainAttrs_list PySem.F.slot_list_append PySem.F.type_list_append (pm_var 2) (pma_cons (pm_tup (pma_cons (pm_var 3) (pma_cons (pm_var 4) pma_nil))) pma_nil))))
  pms_nil))))))
  (pms_one (pms_ret (pm_var 2)))))))
noncomputable def b1_law_nested : DSt → Store → Res Fl :=
  (mSet 1 (m2 (mLst (mCons (mTup (mCons (mVar 1) mNil)) (mCons (mLst (mCons (mVar 1) mNil)) (mCons (mDispK [tx [97]] (mCons (mVar 1) mNil)) mNil)))) (mCall 2 d_law_draw (mCons (mVar 0) (mCons (mC (.int 3)) mNil))) ixD))
noncomputable def m_law_nested : DSt → Store → Res Fl :=
  (mSeq (mSet 1 (m2 (mLst (mCons (mTup mNil) (mCons (mLst mNil) (mCons (mC (.str (tx [97]))) (mCons (mC (.int 1)) (mCons (mC .non) mNil)))))) (mCall 2 d_law_draw (mCons (mVar 0) (mCons (mC (.int 5)) mNil))) ixD))
  (mSeq (mFor (mRng1 (mCons (m2 (mLst (mCons (mC (.int 1)) (mCons (mC (.int 3)) (mCons (mC (.int 58)) mNil)))) (mCall 2 d_law_draw (mCons (mVar 0) (mCons (mC (.int 3)) mNil))) ixD) mNil)) (gtName 2)
  b1_law_nested)
  (mRet (mVar 1))))
noncomputable def d_law_nested : List D → Store → Res D := denOf 3 m_law_nested
theorem ok_law_nested (T : Txt K mg) : FnOk P w K mg base CX0 2 T.f_law_nested T.e_law_nested ["_law_pot"] (spD K mg 1 d_law_nested) :=
  fn_den T.F_law_nested sc_law_nested fun cdv A outer s H E hr =>
   ((pms_cons (pms_set (i := 1) sc_law_nested.nd rfl (Or.inl rfl) (pm_ix (hu_of hr) (pm_lst (pma_cons (pm_tup pma_nil) (pma_cons (pm_lst pma_nil) (pma_cons (pm_strT lt_3) (pma_cons pm_int (pma_cons pm_non pma_nil)))))) (pm_call (ok_law_draw T) (hr.mono (by decide)) (by rfl) T.g_law_draw T.F_law_draw.kp T.b_law_draw (pma_cons (pm_var 0) (pma_cons pm_int pma_nil))) (fun _ _ => rfl)))
  (pms_cons (pms_for PassesOwn.never rfl (pmi_range1 (by rfl) T.n_range (pma_cons (pm_ix (hu_of hr) (pm_lst (pma_cons pm_int (pma_cons pm_int (pma_cons pm_int pma_nil)))) (pm_call (ok_law_draw T) (hr.mono (by decide)) (by rfl) T.g_law_draw T.F_law_draw.kp T.b_law_draw (pma_cons (pm_var 0) (pma_cons pm_int pma_nil))) (fun _ _ => rfl)) pma_nil)) (pmg_name (i := 2) sc_law_nested.nd rfl (Or.inl rfl))
  (pms_one (pms_set (i := 1) sc_law_nested.nd rfl (Or.inl rfl) (pm_ix (hu_of hr) (pm_lst (pma_cons (pm_tup (pma_cons (pm_var 1) pma_nil)) (pma_cons (pm_lst (pma_cons (pm_var 1) pma_nil)) (pma_cons (pm_dispK (pmd_cons (pm_strT lt_3) (pm_var 1) pmd_nil)) pma_nil)))) (pm_call (ok_law_draw T) (hr.mono (by decide)) (by rfl) T.g_law_draw T.F_law_draw.kp T.b_law_draw (pma_cons (pm_var 0) (pma_cons pm_int pma_nil))) (fun _ _ => rfl)))))
  (pms_one (pms_ret (pm_var 1))))))
noncomputable def b1_Holder_offers : DSt → Store → Res Fl :=
  (mSeq (mSet 5 (mGet1 (mVar 1) (mCall 2 d_step_of (mCons (mVar 2) (mCons (mVar 4) mNil)))))
  (mDo (mBM "list" appendD (mVar 3) (mCons (mIf (mT (m2 (mVar 5) (mC .non) (isND false))) (mC (.str (tx []))) (m2 (m2 (mFldC ["Holder"] "kinds" (mVar 0)) (mVar 5) ixD) (m2 (mC (.int 1)) (mCall 1 d_opposite (mCons (mVar 4) mNil)) addD) ixD)) mNil))))
noncomputable def m_Holder_offers : DSt → Store → Res Fl :=
  (mSeq (mSet 3 (mLstM mNil))
  (mSeq (mFor (mRng1 (mCons (mC (.int 4)) mNil)) (gtName 4)
  b1_Holder_offers)
  (mRet (mVar 3))))
noncomputable def d_Holder_offers : List D → Store → Res D := gcF (denOf 6 m_Holder_offers)
theorem ok_Holder_offers (T : Txt K mg) : FnOk P w K mg base CX0 2 T.f_Holder_offers T.e_Holder_offers ["self", "there", "place"] (spD K mg 3 d_Holder_offers) :=
  fn_gcF (fn_den T.F_Holder_offers sc_Holder_offers fun cdv A outer s H E hr =>
   ((pms_cons (pms_set (i := 3) sc_Holder_offers.nd rfl (Or.inl rfl) (pm_lstM pma_nil))
  (pms_cons (pms_for PassesOwn.never rfl (pmi_range1 (by rfl) T.n_range (pma_cons pm_int pma_nil)) (pmg_name (i := 4) sc_Holder_offers.nd rfl (Or.inl rfl))
  (pms_cons (pms_set (i := 5) sc_Holder_offers.nd rfl (Or.inl rfl) (pm_get1 (hu_of hr) (pm_var 1) (pm_call (ok_step_of T) (hr.mono (by decide)) (by rfl) T.g_step_of T.F_step_of.kp T.b_step_of (pma_cons (pm_var 2) (pma_cons (pm_var 4) pma_nil))) ⟨rfl, rfl, rfl, rfl⟩))
  (pms_one (pms_expr (pm_bm md_append PySem.F.plainAttrs_list PySem.F.slot_list_append PySem.F.type_list_append (pm_var 3) (pma_cons (pm_ifExp (pmt_cmp od_is (pm_var 5) pm_non (nomark _)) (pm_strT lt_0) (pm_ix (hu_of hr) (pm_ix (hu_of hr) (pm_fld (pm_var 0) T.fld_kinds) (pm_var 5) (fun _ _ => rfl)) (pm_op od_add pm_int (pm_call (ok_opposite T) (hr.mono (by decide)) (by rfl) T.g_opposite T.F_opposite.kp T.b_opposite (pma_cons (pm_var 4) pma_nil))) (fun _ _ => rfl))) pma_nil))))))
  (pms_one (pms_ret (pm_var 3)))))))
noncomputable def e1_Holder_strength_by : DSt → Store → Res D :=
  (m2 (mFldC ["Holder"] "strengths" (mVar 0)) (m2 (mVar 1) (mVar 3) ixD) ixD)
noncomputable def m_Holder_strength_by : DSt → Store → Res Fl :=
  (mRet (mCB sumD (mCons (mLc (mSeqI (mMeth 3 "Holder" "held_at" d_Holder_held_at (mVar 0) (mCons (mVar 1) (mCons (mVar 2) mNil)))) (gtName 3) (fun _ S => .ok true S)
  e1_Holder_strength_by [3]) mNil)))
noncomputable def d_Holder_strength_by : List D → Store → Res D := gcD (denOf 4 m_Holder_strength_by)
theorem ok_Holder_strength_by (T : Txt K mg) : FnOk P w K mg base CX0 2 T.f_Holder_strength_by T.e_Holder_strength_by ["self", "offers", "kind"] (spD K mg 3 d_Holder_strength_by) :=
  fn_gc (fn_den T.F_Holder_strength_by sc_Holder_strength_by fun cdv A outer s H E hr =>
   ((pms_one (pms_ret (pm_callB (cd_sum rfl) (by rfl) T.n_sum bb_sum (pma_cons (pm_lc (own := [("side", 3)]) (is := [3]) rfl sc_Holder_strength_by.nd (pmi_seq (pm_meth (pm_var 0) T.g_Holder T.cl_Holder T.me_Holder_held_at (ok_Holder_held_at T) (hr.mono (by decide)) T.b_Holder_held_at (pma_cons (pm_var 1) (pma_cons (pm_var 2) pma_nil)))) (blkOk_by (by show blkC N_Holder_strength_by (defScope s_Holder_strength_by) _ _ = true; decide +kernel)) (fun _ _ _ _ _ => (pmx_name (i := 3) sc_Holder_strength_by.nd rfl (Or.inl rfl))) (fun _ _ _ _ _ => pmt_nil) (fun _ _ _ _ _ => (pm_ix (hu_of hr) (pm_fld (pm_var 0) T.fld_strengths) (pm_ix (hu_of hr) (pm_var 1) (pm_var 3) (fun _ _ => rfl)) (fun _ _ => rfl))) (by decide)) pma_nil))))))
noncomputable def e1_are_tiles : DSt → Store → Res D :=
  (mCall 1 d_is_tile (mCons (mVar 1) mNil))
noncomputable def m_are_tiles : DSt → Store → Res Fl :=
  (mRet (mAndV (m1 (mVar 0) (isiAD "tuple")) (mCB (onBls fun bs => .bl (bs.all id)) (mCons (mLc (mSeqI (mVar 0)) (gtName 1) (fun _ S => .ok true S)
  e1_are_tiles [1]) mNil))))
noncomputable def d_are_tiles : List D → Store → Res D := gcD (denOf 2 m_are_tiles)
theorem ok_are_tiles (T : Txt K mg) : FnOk P w K mg base CX0 3 T.f_are_tiles T.e_are_tiles ["thing"] (spD K mg 1 d_are_tiles) :=
  fn_gc (fn_den T.F_are_tiles sc_are_tiles fun cdv A outer s H E hr =>
   ((pms_one (pms_ret (pm_and (pm_isiA (T := "tuple") (by rfl) T.n_isinstance bb_isinstance (pm_var 0) (by rfl) T.n_tuple bb_tuple) (pm_one (pm_callB (cd_all rfl) (by rfl) T.n_all bb_all (pma_cons (pm_lc (own := [("tile", 1)]) (is := [1]) rfl sc_are_tiles.nd (pmi_seq (pm_var 0)) (blkOk_by (by show blkC N_are_tiles (defScope s_are_tiles) _ _ = true; decide +kernel)) (fun _ _ _ _ _ => (pmx_name (i := 1) sc_are_tiles.nd rfl (Or.inl rfl))) (fun _ _ _ _ _ => pmt_nil) (fun _ _ _ _ _ => (pm_call (ok_is_tile T) (hr.mono (by decide)) (by rfl) T.g_is_tile T.F_is_tile.kp T.b_is_tile (pma_cons (pm_var 1) pma_nil))) (by decide)) pma_nil))))))))
noncomputable def e1_law_house : DSt → Store → Res D :=
  (mTup (mCons (mVar 5) (mCons (m2 (mLst (mCons (mC (.int 1)) (mCons (mC (.int 2)) (mCons (mC (.int 1)) (mCons (m2 (mC (.int 1)) (mCall 2 d_law_draw (mCons (mVar 0) (mCons (mC (.int 4)) mNil))) addD) mNil))))) (mCall 2 d_law_draw (mCons (mVar 0) (mCons (mC (.int 4)) mNil))) ixD) mNil)))
noncomputable def e2_law_house : DSt → Store → Res D :=
  (mCall 2 d_law_kind (mCons (mVar 0) (mCons (mVar 1) mNil)))
noncomputable def m_law_house : DSt → Store → Res Fl :=
  (mSeq (mSet 1 (mCall 2 d_law_names (mCons (mVar 0) (mCons (m2 (mC (.int 1)) (mCall 2 d_law_draw (mCons (mVar 0) (mCons (mC (.int 4)) mNil))) addD) mNil))))
  (mSeq (mSet 2 (m2 (mLst (mCons (mC (.int 1)) (mCons (mC (.int 1)) (mCons (mC (.int 2)) (mCons (mC (.int 2)) (mCons (mC (.int 1)) (mCons (mC (.int 3)) (mCons (mC (.int 4)) (mCons (mC (.int 2)) mNil))))))))) (mCall 2 d_law_draw (mCons (mVar 0) (mCons (mC (.int 8)) mNil))) ixD))
  (mSeq (mSet 3 (mCB tupleXD (mCons (mLc (mSeqI (mVar 1)) (gtName 5) (fun _ S => .ok true S)
  e1_law_house [5]) mNil)))
  (mSeq (mSet 4 (mLcM (mRng1 (mCons (m2 (mC (.int 1)) (mCall 2 d_law_draw (mCons (mVar 0) (mCons (m2 (mLst (mCons (mC (.int 3)) (mCons (mC (.int 5)) (mCons (mC (.int 5)) (mCons (mC (.int 12)) mNil))))) (mCall 2 d_law_draw (mCons (mVar 0) (mCons (mC (.int 4)) mNil))) ixD) mNil))) addD) mNil)) (gtName 6) (fun _ S => .ok true S)
  e2_law_house [6]))
  (mSeq (mIfS (mT (m2 (mCall 2 d_law_draw (mCons (mVar 0) (mCons (mC (.int 6)) mNil))) (mC (.int 0)) (eqD false)))
  (mDo (mBM "list" appendD (mVar 4) (mCons (m2 (mVar 4) (mCall 2 d_law_draw (mCons (mVar 0) (mCons (mCB lenD (mCons (mVar 4) mNil)) mNil))) ixD) mNil)))
  mSkip)
  (mRet (mTup (mCons (mVar 2) (mCons (mVar 3) (mCons (mCB tupleD (mCons (mVar 4) mNil)) mNil))))))))))
noncomputable def d_law_house : List D → Store → Res D := gcD (denOf 7 m_law_house)
theorem ok_law_house (T : Txt K mg) : FnOk P w K mg base CX0 3 T.f_law_house T.e_law_house ["_law_pot"] (spD K mg 1 d_law_house) :=
  fn_gc (fn_den T.F_law_house sc_law_house fun cdv A outer s H E hr =>
   ((pms_cons (pms_set (i := 1) sc_law_house.nd rfl (Or.inr rfl) (pm_call (ok_law_names T) (hr.mono (by decide)) (by rfl) T.g_law_names T.F_law_names.kp T.b_law_names (pma_cons (pm_var 0) (pma_cons (pm_op od_add pm_int (pm_call (ok_law_draw T) (hr.mono (by decide)) (by rfl) T.g_law_draw T.F_law_draw.kp T.b_law_draw (pma_cons (pm_var 0) (pma_cons pm_int pma_nil)))) pma_nil))))
  (pms_cons (pms_set (i := 2) sc_law_house.nd rfl (Or.inl rfl) (pm_ix (hu_of hr) (pm_lst (pma_cons pm_int (pma_cons pm_int (pma_cons pm_int (pma_cons pm_int (pma_cons pm_int (pma_cons pm_int (pma_cons pm_int (pma_cons pm_int pma_nil))))))))) (pm_call (ok_law_draw T) (hr.mono (by decide)) (by rfl) T.g_law_draw T.F_law_draw.kp T.b_law_draw (pma_cons (pm_var 0) (pma_cons pm_int pma_nil))) (fun _ _ => rfl)))
  (pms_cons (pms_set (i := 3) sc_law_house.nd rfl (Or.inl rfl) (pm_callTy cd_tupleX (by rfl) T.n_tuple bb_tuple (pma_cons (pm_lc (own := [("_law_name", 5)]) (is := [5]) rfl sc_law_house.nd (pmi_seq (pm_var 1)) (blkOk_by (by show blkC N_law_house (defScope s_law_house) _ _ = true; decide +kernel)) (fun _ _ _ _ _ => (pmx_name (i := 5) sc_law_house.nd rfl (Or.inl rfl))) (fun _ _ _ _ _ => pmt_nil) (fun _ _ _ _ _ => (pm_tup (pma_cons (pm_var 5) (pma_cons (pm_ix (hu_of hr) (pm_lst (pma_cons pm_int (pma_cons pm_int (pma_cons pm_int (pma_cons (pm_op od_add pm_int (pm_call (ok_law_draw T) (hr.mono (by decide)) (by rfl) T.g_law_draw T.F_law_draw.kp T.b_law_draw (pma_cons (pm_var 0) (pma_cons pm_int pma_nil)))) pma_nil))))) (pm_call (ok_law_draw T) (hr.mono (by decide)) (by rfl) T.g_law_draw T.F_law_draw.kp T.b_law_draw (pma_cons (pm_var 0) (pma_cons pm_int pma_nil))) (fun _ _ => rfl)) pma_nil)))) (by decide)) pma_nil)))
  (pms_cons (pms_setLcM (i := 4) (own := [("_law_k", 6)]) (is := [6]) rfl sc_law_house.nd rfl rfl (sw_true rfl rfl rfl (by decide +kernel)) (pmi_range1 (by rfl) T.n_range (pma_cons (pm_op od_add pm_int (pm_call (ok_law_draw T) (hr.mono (by decide)) (by rfl) T.g_law_draw T.F_law_draw.kp T.b_law_draw (pma_cons (pm_var 0) (pma_cons (pm_ix (hu_of hr) (pm_lst (pma_cons pm_int (pma_cons pm_int (pma_cons pm_int (pma_cons pm_int pma_nil))))) (pm_call (ok_law_draw T) (hr.mono (by decide)) (by rfl) T.g_law_draw T.F_law_draw.kp T.b_law_draw (pma_cons (pm_var 0) (pma_cons pm_int pma_nil))) (fun _ _ => rfl)) pma_nil)))) pma_nil)) (blkOk_by (by show blkC N_law_house (defScope s_law_house) _ _ = true; decide +kernel)) (fun _ _ _ _ _ => (pmx_name (i := 6) sc_law_house.nd rfl (Or.inl rfl))) (fun _ _ _ _ _ => pmt_nil) (fun _ _ _ _ _ => (pm_call (ok_law_kind T) (hr.mono (by decide)) (by rfl) T.g_law_kind T.F_law_kind.kp T.b_law_kind (pma_cons (pm_var 0) (pma_cons (pm_var 1) pma_nil)))) (by decide))
  (pms_cons (pms_if (pmt_cmp (od_eq hr.units) (pm_call (ok_law_draw T) (hr.mono (by decide)) (by rfl) T.g_law_draw T.F_law_draw.kp T.b_law_draw (pma_cons (pm_var 0) (pma_cons pm_int pma_nil))) pm_int (nomark _))
  (pms_one (pms_expr (pm_bm md_append PySem.F.plainAttrs_list PySem.F.slot_list_append PySem.F.type_list_append (pm_var 4) (pma_cons (pm_ix (hu_of hr) (pm_var 4) (pm_call (ok_law_draw T) (hr.mono (by decide)) (by rfl) T.g_law_draw T.F_law_draw.kp T.b_law_draw (pma_cons (pm_var 0) (pma_cons (pm_callB cd_len (by rfl) T.n_len bb_len (pma_cons (pm_var 4) pma_nil)) pma_nil))) (fun _ _ => rfl)) pma_nil))))
  pms_nil)
  (pms_one (pms_ret (pm_tup (pma_cons (pm_var 2) (pma_cons (pm_var 3) (pma_cons (pm_callTy cd_tuple (by rfl) T.n_tuple bb_tuple (pma_cons (pm_var 4) pma_nil)) pma_nil)))))))))))))
noncomputable def e1_law_by : DSt → Store → Res D :=
  (m2 (mVar 5) (m2 (m2 (m2 (m2 (mVar 0) (mC (.int 0)) ixD) (mC (.int 2)) ixD) (mVar 3) ixD) (m2 (mVar 6) (mC (.int 1)) addD) ixD) ixD)
noncomputable def m_law_by : DSt → Store → Res Fl :=
  (mSeq (mSet 4 (mCall 4 d_law_sides (mCons (mVar 0) (mCons (mVar 1) (mCons (mVar 2) (mCons (mVar 3) mNil))))))
  (mSeq (mIfS (mT (m2 (mVar 4) (mLst mNil) (eqD false)))
  (mRet (mC (.int 0)))
  mSkip)
  (mSeq (mSet 5 (mCB dictXD (mCons (m2 (m2 (mVar 0) (mC (.int 0)) ixD) (mC (.int 1)) ixD) mNil)))
  (mRet (mCB sumD (mCons (mLc (mSeqI (mVar 4)) (gtName 6) (fun _ S => .ok true S)
  e1_law_by [6]) mNil))))))
noncomputable def d_law_by : List D → Store → Res D := gcD (denOf 7 m_law_by)
theorem ok_law_by (T : Txt K mg) : FnOk P w K mg base CX0 3 T.f_law_by T.e_law_by ["_law_bed_here", "_law_there", "_law_place", "_law_kind_here"] (spD K mg 4 d_law_by) :=
  fn_gc (fn_den T.F_law_by sc_law_by fun cdv A outer s H E hr =>
   ((pms_cons (pms_set (i := 4) sc_law_by.nd rfl (Or.inl rfl) (pm_call (ok_law_sides T) (hr.mono (by decide)) (by rfl) T.g_law_sides T.F_law_sides.kp T.b_law_sides (pma_cons (pm_var 0) (pma_cons (pm_var 1) (pma_cons (pm_var 2) (pma_cons (pm_var 3) pma_nil))))))
  (pms_cons (pms_if (pmt_cmp (od_eq hr.units) (pm_var 4) (pm_lst pma_nil) (nomark _))
  (pms_one (pms_ret pm_int))
  pms_nil)
  (pms_cons (pms_set (i := 5) sc_law_by.nd rfl (Or.inr rfl) (pm_callTy (cd_dictX rfl) (by rfl) T.n_dict bb_dict (pma_cons (pm_ix (hu_of hr) (pm_ix (hu_of hr) (pm_var 0) pm_int (fun _ _ => rfl)) pm_int (fun _ _ => rfl)) pma_nil)))
  (pms_one (pms_ret (pm_callB (cd_sum rfl) (by rfl) T.n_sum bb_sum (pma_cons (pm_lc (own := [("_law_side", 6)]) (is := [6]) rfl sc_law_by.nd (pmi_seq (pm_var 4)) (blkOk_by (by show blkC N_law_by (defScope s_law_by) _ _ = true; decide +kernel)) (fun _ _ _ _ _ => (pmx_name (i := 6) sc_law_by.nd rfl (Or.inl rfl))) (fun _ _ _ _ _ => pmt_nil) (fun _ _ _ _ _ => (pm_ix (hu_of hr) (pm_var 5) (pm_ix (hu_of hr) (pm_ix (hu_of hr) (pm_ix (hu_of hr) (pm_ix (hu_of hr) (pm_var 0) pm_int (fun _ _ => rfl)) pm_int (fun _ _ => rfl)) (pm_var 3) (fun _ _ => rfl)) (pm_op od_add (pm_var 6) pm_int) (fun _ _ => rfl)) (fun _ _ => rfl))) (by decide)) pma_nil)))))))))
noncomputable def m_law_odd_tiles : DSt → Store → Res Fl :=
  (mSeq (mAsg (mVar 1) (gtTup 3 (gtCons (gtName 2) (gtCons (gtName 3) (gtCons (gtName 4) gtNil)))))
  (mSeq (mSet 5 (mLst (mCons (mLst (mCons (mVar 2) (mCons (mVar 3) (mCons (mVar 4) mNil)))) (mCons (mTup (mCons (mVar 2) (mCons (mVar 3) mNil))) (mCons (mTup (mCons (mVar 2) (mCons (mVar 3) (mCons (mVar 4) (mCons (mC (.int 0)) mNil))))) (mCons (mC (.str (tx [120, 121, 122]))) (mCons (mC .non) (mCons (mC (.bl true)) (mCons (mC (.int 7)) (mCons (fun _ S => .ok (.loc S.length) (S ++ [.dT []])) (mCons (mTup mNil) (mCons (mTup (mCons (mVar 2) (mCons (mVar 3) (mCons (mCB strD (mCons (mVar 4) mNil)) mNil)))) (mCons (mTup (mCons (mVar 2) (mCons (mC .non) (mCons (mVar 4) mNil)))) mNil)))))))))))))
  (mSeq (mSet 5 (m2 (mVar 5) (mLst (mCons (mTup (mCons (mTup (mCons (mVar 2) mNil)) (mCons (mVar 3) (mCons (mVar 4) mNil)))) (mCons (mTup (mCons (mC (.bl true)) (mCons (mVar 3) (mCons (mVar 4) mNil)))) (mCons (mTup (mCons (mVar 2) (mCons (mC (.bl false)) (mCons (mVar 4) mNil)))) (mCons (mTup (mCons (mVar 2) (mCons (mVar 3) (mCons (mC (.bl true)) mNil)))) (mCons (mTup (mCons (mVar 2) (mCons (mVar 3) (mCons (mLst (mCons (mVar 4) mNil)) mNil)))) (mCons (mCall 1 d_law_nested (mCons (mVar 0) mNil)) mNil))))))) addD))
  (mRet (m2 (mVar 5) (mLst (mCons (mDisp1I (mVar 2) (mVar 3)) (mCons (mTup (mCons (mVar 2) (mCons (mVar 3) (mCons (mTup (mCons (mVar 4) mNil)) mNil)))) (mCons (mTup (mCons (mTup (mCons (mVar 2) (mCons (mVar 3) mNil))) (mCons (mVar 4) mNil))) (mCons (mTup (mCons (mVar 2) (mCons (mVar 3) (mCons (fun _ S => .ok (.loc S.length) (S ++ [.dT []])) mNil)))) (mCons (mC (.str (tx []))) (mCons (mLst (mCons (mTup (mCons (mVar 2) (mCons (mVar 3) (mCons (mVar 4) mNil)))) mNil)) (mCons (mTup (mCons (mTup (mCons (mVar 2) (mCons (mVar 3) (mCons (mVar 4) mNil)))) mNil)) mNil)))))))) addD)))))
noncomputable def d_law_odd_tiles : List D → Store → Res D := denOf 6 m_law_odd_tiles
theorem ok_law_odd_tiles (T : Txt K mg) : FnOk P w K mg base CX0 3 T.f_law_odd_tiles T.e_law_odd_tiles ["_law_pot", "_law_tile"] (spD K mg 2 d_law_odd_tiles) :=
  fn_den T.F_law_odd_tiles sc_law_odd_tiles fun cdv A outer s H E hr =>
   ((pms_cons (pms_asg (pm_var 1) (pmg_tup rfl (pmgs_cons (pmg_name (i := 2) sc_law_odd_tiles.nd rfl (Or.inl rfl)) (pmgs_cons (pmg_name (i := 3) sc_law_odd_tiles.nd rfl (Or.inl rfl)) (pmgs_cons (pmg_name (i := 4) sc_law_odd_tiles.nd rfl (Or.inl rfl)) pmgs_nil)))))
  (pms_cons (pms_set (i := 5) sc_law_odd_tiles.nd rfl (Or.inl rfl) (pm_lst (pma_cons (pm_lst (pma_cons (pm_var 2) (pma_cons (pm_var 3) (pma_cons (pm_var 4) pma_nil)))) (pma_cons (pm_tup (pma_cons (pm_var 2) (pma_cons (pm_var 3) pma_nil))) (pma_cons (pm_tup (pma_cons (pm_var 2) (pma_cons (pm_var 3) (pma_cons (pm_var 4) (pma_cons pm_int pma_nil))))) (pma_cons (pm_strT lt_4) (pma_cons pm_non (pma_cons pm_bl (pma_cons pm_int (pma_cons pm_dictT (pma_cons (pm_tup pma_nil) (pma_cons (pm_tup (pma_cons (pm_var 2) (pma_cons (pm_var 3) (pma_cons (pm_callTy cd_str (by rfl) T.n_str bb_str (pma_cons (pm_var 4) pma_nil)) pma_nil)))) (pma_cons (pm_tup (pma_cons (pm_var 2) (pma_cons pm_non (pma_cons (pm_var 4) pma_nil)))) pma_nil)))))))))))))
  (pms_cons (pms_set (i := 5) sc_law_odd_tiles.nd rfl (Or.inl rfl) (pm_op od_add (pm_var 5) (pm_lst (pma_cons (pm_tup (pma_cons (pm_tup (pma_cons (pm_var 2) pma_nil)) (pma_cons (pm_var 3) (pma_cons (pm_var 4) pma_nil)))) (pma_cons (pm_tup (pma_cons pm_bl (pma_cons (pm_var 3) (pma_cons (pm_var 4) pma_nil)))) (pma_cons (pm_tup (pma_cons (pm_var 2) (pma_cons pm_bl (pma_cons (pm_var 4) pma_nil)))) (pma_cons (pm_tup (pma_cons (pm_var 2) (pma_cons (pm_var 3) (pma_cons pm_bl pma_nil)))) (pma_cons (pm_tup (pma_cons (pm_var 2) (pma_cons (pm_var 3) (pma_cons (pm_lst (pma_cons (pm_var 4) pma_nil)) pma_nil)))) (pma_cons (pm_call (ok_law_nested T) (hr.mono (by decide)) (by rfl) T.g_law_nested T.F_law_nested.kp T.b_law_nested (pma_cons (pm_var 0) pma_nil)) pma_nil)))))))))
  (pms_one (pms_ret (pm_op od_add (pm_var 5) (pm_lst (pma_cons (pm_disp1I (pm_var 2) (pm_var 3)) (pma_cons (pm_tup (pma_cons (pm_var 2) (pma_cons (pm_var 3) (pma_cons (pm_tup (pma_cons (pm_var 4) pma_nil)) pma_nil)))) (pma_cons (pm_tup (pma_cons (pm_tup (pma_cons (pm_var 2) (pma_cons (pm_var 3) pma_nil))) (pma_cons (pm_var 4) pma_nil))) (pma_cons (pm_tup (pma_cons (pm_var 2) (pma_cons (pm_var 3) (pma_cons pm_dictT pma_nil)))) (pma_cons (pm_strT lt_0) (pma_cons (pm_lst (pma_cons (pm_tup (pma_cons (pm_var 2) (pma_cons (pm_var 3) (pma_cons (pm_var 4) pma_nil)))) pma_nil)) (pma_cons (pm_tup (pma_cons (pm_tup (pma_cons (pm_var 2) (pma_cons (pm_var 3) (pma_cons (pm_var 4) pma_nil)))) pma_nil)) pma_nil)))))))))))))))
noncomputable def m_Holder_strength : DSt → Store → Res Fl :=
  (mRet (mMeth 3 "Holder" "strength_by" d_Holder_strength_by (mVar 0) (mCons (mMeth 3 "Holder" "offers" d_Holder_offers (mVar 0) (mCons (mVar 1) (mCons (mVar 2) mNil))) (mCons (mVar 3) mNil))))
noncomputable def d_Holder_strength : List D → Store → Res D := gcD (denOf 4 m_Holder_strength)
theorem ok_Holder_strength (T : Txt K mg) : FnOk P w K mg base CX0 3 T.f_Holder_strength T.e_Holder_strength ["self", "there", "place", "kind"] (spD K mg 4 d_Holder_strength) :=
  fn_gc (fn_den T.F_Holder_strength sc_Holder_strength fun cdv A outer s H E hr =>
   ((pms_one (pms_ret (pm_meth (pm_var 0) T.g_Holder T.cl_Holder T.me_Holder_strength_by (ok_Holder_strength_by T) (hr.mono (by decide)) T.b_Holder_strength_by (pma_cons (pm_meth (pm_var 0) T.g_Holder T.cl_Holder T.me_Holder_offers (ok_Holder_offers T) (hr.mono (by decide)) T.b_Holder_offers (pma_cons (pm_var 1) (pma_cons (pm_var 2) pma_nil))) (pma_cons (pm_var 3) pma_nil)))))))
noncomputable def m_law_bed : DSt → Store → Res Fl :=
  (mSeq (mSet 1 (mCall 1 d_law_house (mCons (mVar 0) mNil)))
  (mSeq (mSet 2 (mTup (mCons (m2 (mC (.int 1)) (mCall 2 d_law_draw (mCons (mVar 0) (mCons (mC (.int 5)) mNil))) addD) (mCons (m2 (mC (.int 1)) (mCall 2 d_law_draw (mCons (mVar 0) (mCons (m2 (mLst (mCons (mC (.int 5)) (mCons (mC (.int 5)) (mCons (mC (.int 5)) (mCons (mC (.int 12)) mNil))))) (mCall 2 d_law_draw (mCons (mVar 0) (mCons (mC (.int 4)) mNil))) ixD) mNil))) addD) mNil))))
  (mSeq (mIfS (mT (m2 (mCall 2 d_law_draw (mCons (mVar 0) (mCons (mC (.int 2)) mNil))) (mC (.int 0)) (eqD false)))
  (mSet 2 (m1 (mVar 2) revTD))
  mSkip)
  (mRet (mTup (mCons (mVar 1) (mCons (mVar 2) (mCons (mCall 4 d_law_standing (mCons (mVar 0) (mCons (mVar 1) (mCons (mVar 2) (mCons (m2 (mLst (mCons (mC (.int 1)) (mCons (mC (.int 2)) (mCons (mC (.int 6)) mNil)))) (mCall 2 d_law_draw (mCons (mVar 0) (mCons (mC (.int 3)) mNil))) ixD) mNil))))) mNil))))))))
noncomputable def d_law_bed : List D → Store → Res D := gcD (denOf 3 m_law_bed)
theorem ok_law_bed (T : Txt K mg) : FnOk P w K mg base CX0 4 T.f_law_bed T.e_law_bed ["_law_pot"] (spD K mg 1 d_law_bed) :=
  fn_gc (fn_den T.F_law_bed sc_law_bed fun cdv A outer s H E hr =>
   ((pms_cons (pms_set (i := 1) sc_law_bed.nd rfl (Or.inl rfl) (pm_call (ok_law_house T) (hr.mono (by decide)) (by rfl) T.g_law_house T.F_law_house.kp T.b_law_house (pma_cons (pm_var 0) pma_nil)))
  (pms_cons (pms_set (i := 2) sc_law_bed.nd rfl (Or.inl rfl) (pm_tup (pma_cons (pm_op od_add pm_int (pm_call (ok_law_draw T) (hr.mono (by decide)) (by rfl) T.g_law_draw T.F_law_draw.kp T.b_law_draw (pma_cons (pm_var 0) (pma_cons pm_int pma_nil)))) (pma_cons (pm_op od_add pm_int (pm_call (ok_law_draw T) (hr.mono (by decide)) (by rfl) T.g_law_draw T.F_law_draw.kp T.b_law_draw (pma_cons (pm_var 0) (pma_cons (pm_ix (hu_of hr) (pm_lst (pma_cons pm_int (pma_cons pm_int (pma_cons pm_int (pma_cons pm_int pma_nil))))) (pm_call (ok_law_draw T) (hr.mono (by decide)) (by rfl) T.g_law_draw T.F_law_draw.kp T.b_law_draw (pma_cons (pm_var 0) (pma_cons pm_int pma_nil))) (fun _ _ => rfl)) pma_nil)))) pma_nil))))
  (pms_cons (pms_if (pmt_cmp (od_eq hr.units) (pm_call (ok_law_draw T) (hr.mono (by decide)) (by rfl) T.g_law_draw T.F_law_draw.kp T.b_law_draw (pma_cons (pm_var 0) (pma_cons pm_int pma_nil))) pm_int (nomark _))
  (pms_one (pms_set (i := 2) sc_law_bed.nd rfl (Or.inl rfl) (pm_revT (pm_var 2))))
  pms_nil)
  (pms_one (pms_ret (pm_tup (pma_cons (pm_var 1) (pma_cons (pm_var 2) (pma_cons (pm_call (ok_law_standing T) (hr.mono (by decide)) (by rfl) T.g_law_standing T.F_law_standing.kp T.b_law_standing (pma_cons (pm_var 0) (pma_cons (pm_var 1) (pma_cons (pm_var 2) (pma_cons (pm_ix (hu_of hr) (pm_lst (pma_cons pm_int (pma_cons pm_int (pma_cons pm_int pma_nil)))) (pm_call (ok_law_draw T) (hr.mono (by decide)) (by rfl) T.g_law_draw T.F_law_draw.kp T.b_law_draw (pma_cons (pm_var 0) (pma_cons pm_int pma_nil))) (fun _ _ => rfl)) pma_nil))))) pma_nil)))))))))))
noncomputable def b1_law_may : DSt → Store → Res Fl :=
  (mIfS (mT (m2 (mCall 4 d_law_by (mCons (mVar 0) (mCons (mVar 1) (mCons (mVar 3) (mCons (mVar 4) mNil))))) (m2 (m2 (mVar 0) (mC (.int 0)) ixD) (mC (.int 0)) ixD) (cmpI fun i j => decide (j ≤ i))))
  (mDo (mBM "list" appendD (mVar 2) (mCons (m2 (mVar 3) (mTup (mCons (mVar 4) mNil)) addD) mNil)))
  mSkip)
noncomputable def b2_law_may : DSt → Store → Res Fl :=
  (mFor (mRng1 (mCons (mCB lenD (mCons (m2 (m2 (mVar 0) (mC (.int 0)) ixD) (mC (.int 2)) ixD) mNil)) mNil)) (gtName 4)
  b1_law_may)
noncomputable def m_law_may : DSt → Store → Res Fl :=
  (mSeq (mSet 2 (mLstM mNil))
  (mSeq (mFor (mSeqI (mCall 2 d_law_empty (mCons (mVar 0) (mCons (mVar 1) mNil)))) (gtName 3)
  b2_law_may)
  (mRet (mVar 2))))
noncomputable def d_law_may : List D → Store → Res D := gcF (denOf 5 m_law_may)
theorem ok_law_may (T : Txt K mg) : FnOk P w K mg base CX0 4 T.f_law_may T.e_law_may ["_law_bed_here", "_law_there"] (spD K mg 2 d_law_may) :=
  fn_gcF (fn_den T.F_law_may sc_law_may fun cdv A outer s H E hr =>
   ((pms_cons (pms_set (i := 2) sc_law_may.nd rfl (Or.inl rfl) (pm_lstM pma_nil))
  (pms_cons (pms_for PassesOwn.never rfl (pmi_seq (pm_call (ok_law_empty T) (hr.mono (by decide)) (by rfl) T.g_law_empty T.F_law_empty.kp T.b_law_empty (pma_cons (pm_var 0) (pma_cons (pm_var 1) pma_nil)))) (pmg_name (i := 3) sc_law_may.nd rfl (Or.inl rfl))
  (pms_one (pms_for PassesOwn.never rfl (pmi_range1 (by rfl) T.n_range (pma_cons (pm_callB cd_len (by rfl) T.n_len bb_len (pma_cons (pm_ix (hu_of hr) (pm_ix (hu_of hr) (pm_var 0) pm_int (fun _ _ => rfl)) pm_int (fun _ _ => rfl)) pma_nil)) pma_nil)) (pmg_name (i := 4) sc_law_may.nd rfl (Or.inl rfl))
  (pms_one (pms_if (pmt_cmp od_ge (pm_call (ok_law_by T) (hr.mono (by decide)) (by rfl) T.g_law_by T.F_law_by.kp T.b_law_by (pma_cons (pm_var 0) (pma_cons (pm_var 1) (pma_cons (pm_var 3) (pma_cons (pm_var 4) pma_nil))))) (pm_ix (hu_of hr) (pm_ix (hu_of hr) (pm_var 0) pm_int (fun _ _ => rfl)) pm_int (fun _ _ => rfl)) (nomark _))
  (pms_one (pms_expr (pm_bm md_append PySem.F.plainAttrs_list PySem.F.slot_list_append PySem.F.type_list_append (pm_var 2) (pma_cons (pm_op od_add (pm_var 3) (pm_tup (pma_cons (pm_var 4) pma_nil))) pma_nil))))
  pms_nil)))))
  (pms_one (pms_ret (pm_var 2)))))))
noncomputable def m_Holder_fits : DSt → Store → Res Fl :=
  (mSeq (mSet 3 (mTup (mCons (m2 (mVar 2) (mC (.int 0)) ixD) (mCons (m2 (mVar 2) (mC (.int 1)) ixD) mNil))))
  (mSeq (mIfS (mOrT (mNotT (mT (mMeth 2 "Holder" "is_on" d_Holder_is_on (mVar 0) (mCons (mVar 3) mNil)))) (mOrT (mT (m2 (mVar 3) (mVar 1) (inD false))) (mNotT (mT (mCh (mC (.int 0)) (m2 (mVar 2) (mC (.int 2)) ixD) (mCB lenD (mCons (mFldC ["Holder"] "kinds" (mVar 0)) mNil)) (cmpI fun i j => decide (i ≤ j)) ltD)))))
  (mRet (mC (.bl false)))
  mSkip)
  (mRet (m2 (mMeth 4 "Holder" "strength" d_Holder_strength (mVar 0) (mCons (mVar 1) (mCons (mVar 3) (mCons (m2 (mVar 2) (mC (.int 2)) ixD) mNil)))) (mFldC ["Holder"] "enough" (mVar 0)) (cmpI fun i j => decide (j ≤ i))))))
noncomputable def d_Holder_fits : List D → Store → Res D := gcD (denOf 4 m_Holder_fits)
theorem ok_Holder_fits (T : Txt K mg) : FnOk P w K mg base CX0 4 T.f_Holder_fits T.e_Holder_fits ["self", "there", "tile"] (spD K mg 3 d_Holder_fits) :=
  fn_gc (fn_den T.F_Holder_fits sc_Holder_fits fun cdv A outer s H E hr =>
   ((pms_cons (pms_set (i := 3) sc_Holder_fits.nd rfl (Or.inl rfl) (pm_tup (pma_cons (pm_ix (hu_of hr) (pm_var 2) pm_int (fun _ _ => rfl)) (pma_cons (pm_ix (hu_of hr) (pm_var 2) pm_int (fun _ _ => rfl)) pma_nil))))
  (pms_cons (pms_if (PMW.pt (pmw_or (pmt_not (pmt_val (pm_meth (pm_var 0) T.g_Holder T.cl_Holder T.me_Holder_is_on (ok_Holder_is_on T) (hr.mono (by decide)) T.b_Holder_is_on (pma_cons (pm_var 3) pma_nil)))) (pmw_or (pmt_cmp (od_in (u65 hr)) (pm_var 3) (pm_var 1) (by with_unfolding_all rfl)) (pmw_or1 (pmt_not (pmt_chain od_le (od_lt hr.units0) pm_int (pm_ix (hu_of hr) (pm_var 2) pm_int (fun _ _ => rfl)) (pm_callB cd_len (by rfl) T.n_len bb_len (pma_cons (pm_fld (pm_var 0) T.fld_kinds) pma_nil))))))))
  (pms_one (pms_ret pm_bl))
  pms_nil)
  (pms_one (pms_ret (pm_cmp od_ge (pm_meth (pm_var 0) T.g_Holder T.cl_Holder T.me_Holder_strength (ok_Holder_strength T) (hr.mono (by decide)) T.b_Holder_strength (pma_cons (pm_var 1) (pma_cons (pm_var 3) (pma_cons (pm_ix (hu_of hr) (pm_var 2) pm_int (fun _ _ => rfl)) pma_nil)))) (pm_fld (pm_var 0) T.fld_enough) (nomark _))))))))
noncomputable def b1_walk : DSt → Store → Res Fl :=
  (mSeq (mIfS (mNotT (mT (mMeth 3 "Holder" "fits" d_Holder_fits (mVar 2) (mCons (mVar 3) (mCons (mVar 5) mNil)))))
  (mRet (mTup (mCons (mC .non) (mCons (mVar 4) mNil))))
  mSkip)
  (mAsg (m2 (mVar 5) (mC (.int 2)) ixD) (gtSub (mVar 3) (mTup (mCons (m2 (mVar 5) (mC (.int 0)) ixD) (mCons (m2 (mVar 5) (mC (.int 1)) ixD) mNil))) setD)))
noncomputable def m_walk : DSt → Store → Res Fl :=
  (mSeq (mSet 2 (mMake 2 "Holder" d_Holder___init__ (mCons (mVar 0) mNil)))
  (mSeq (mSet 3 (mCall 1 d_lying (mCons (m2 (mVar 0) (mC (.int 2)) ixD) mNil)))
  (mSeq (mFor (mEnumA (mCons (mVar 1) mNil)) (gtTup 2 (gtCons (gtName 4) (gtCons (gtName 5) gtNil)))
  b1_walk)
  (mRet (mTup (mCons (mVar 3) (mCons (mC .non) mNil)))))))
noncomputable def d_walk : List D → Store → Res D := gcO (denOf 6 m_walk)
theorem ok_walk (T : Txt K mg) : FnOk P w K mg base CX0 5 T.f_walk T.e_walk ["bed", "row"] (spD K mg 2 d_walk) :=
  fn_gcO (fn_den T.F_walk sc_walk fun cdv A outer s H E hr =>
   ((pms_cons (pms_set (i := 2) sc_walk.nd rfl (Or.inl rfl) (pm_make T.mk_Holder (ok_Holder___init__ T) (hr.mono (by decide)) (by rfl) T.g_Holder T.b_Holder___init__ (pma_cons (pm_var 0) pma_nil)))
  (pms_cons (pms_set (i := 3) sc_walk.nd rfl (Or.inl rfl) (pm_call (ok_lying T) (hr.mono (by decide)) (by rfl) T.g_lying T.F_lying.kp T.b_lying (pma_cons (pm_ix (hu_of hr) (pm_var 0) pm_int (fun _ _ => rfl)) pma_nil)))
  (pms_cons (pms_for PassesOwn.never rfl (pmi_enumA (by rfl) T.n_enumerate (pma_cons (pm_var 1) pma_nil)) (pmg_tup rfl (pmgs_cons (pmg_name (i := 4) sc_walk.nd rfl (Or.inl rfl)) (pmgs_cons (pmg_name (i := 5) sc_walk.nd rfl (Or.inl rfl)) pmgs_nil)))
  (pms_cons (pms_if (pmt_not (pmt_val (pm_meth (pm_var 2) T.g_Holder T.cl_Holder T.me_Holder_fits (ok_Holder_fits T) (hr.mono (by decide)) T.b_Holder_fits (pma_cons (pm_var 3) (pma_cons (pm_var 5) pma_nil)))))
  (pms_one (pms_ret (pm_tup (pma_cons pm_non (pma_cons (pm_var 4) pma_nil)))))
  pms_nil)
  (pms_one (pms_asg (pm_ix (hu_of hr) (pm_var 5) pm_int (fun _ _ => rfl)) (pmg_sub (W := W0) (pm_var 3) (pm_tup (pma_cons (pm_ix (hu_of hr) (pm_var 5) pm_int (fun _ _ => rfl)) (pma_cons (pm_ix (hu_of hr) (pm_var 5) pm_int (fun _ _ => rfl)) pma_nil))) (os_set (hu_of hr)))))))
  (pms_one (pms_ret (pm_tup (pma_cons (pm_var 3) (pma_cons pm_non pma_nil))))))))))
noncomputable def b1_law_walk : DSt → Store → Res Fl :=
  (mSeq (mSet 6 (mCall 2 d_law_may (mCons (mVar 1) (mCons (mVar 3) mNil))))
  (mIfS (mT (m2 (mVar 6) (mLst mNil) (eqD true)))
  (mSeq (mSet 7 (m2 (mVar 6) (mCall 2 d_law_draw (mCons (mVar 0) (mCons (mCB lenD (mCons (mVar 6) mNil)) mNil))) ixD))
  (mSeq (mAsg (m2 (mVar 7) (mC (.int 2)) ixD) (gtSub (mVar 3) (mSl (mVar 7) mNoPart (mPart (mC (.int 2)))) setD))
  (mDo (mBM "list" appendD (mVar 4) (mCons (mVar 7) mNil)))))
  mSkip))
noncomputable def m_law_walk : DSt → Store → Res Fl :=
  (mSeq (mPar 3 4 (mCons (mCall 1 d_law_lying (mCons (m2 (mVar 1) (mC (.int 2)) ixD) mNil)) (mCons (mLstM mNil) mNil)))
  (mSeq (mFor (mRng1 (mCons (mVar 2) mNil)) (gtName 5)
  b1_law_walk)
  (mRet (mCB tupleD (mCons (mVar 4) mNil)))))
noncomputable def d_law_walk : List D → Store → Res D := gcD (denOf 8 m_law_walk)
theorem ok_law_walk (T : Txt K mg) : FnOk P w K mg base CX0 5 T.f_law_walk T.e_law_walk ["_law_pot", "_law_bed_here", "_law_most"] (spD K mg 3 d_law_walk) :=
  fn_gc (fn_den T.F_law_walk sc_law_walk fun cdv A outer s H E hr =>
   ((pms_cons (pms_par (i := 3) (j := 4) rfl sc_law_walk.nd rfl rfl (by decide) rfl rfl (pma_cons (pm_call (ok_law_lying T) (hr.mono (by decide)) (by rfl) T.g_law_lying T.F_law_lying.kp T.b_law_lying (pma_cons (pm_ix (hu_of hr) (pm_var 1) pm_int (fun _ _ => rfl)) pma_nil)) (pma_cons (pm_lstM pma_nil) pma_nil)) (by rfl))
  (pms_cons (pms_for PassesOwn.never rfl (pmi_range1 (by rfl) T.n_range (pma_cons (pm_var 2) pma_nil)) (pmg_name (i := 5) sc_law_walk.nd rfl (Or.inl rfl))
  (pms_cons (pms_set (i := 6) sc_law_walk.nd rfl (Or.inl rfl) (pm_call (ok_law_may T) (hr.mono (by decide)) (by rfl) T.g_law_may T.F_law_may.kp T.b_law_may (pma_cons (pm_var 1) (pma_cons (pm_var 3) pma_nil))))
  (pms_one (pms_if (pmt_cmp (od_ne hr.units) (pm_var 6) (pm_lst pma_nil) (nomark _))
  (pms_cons (pms_set (i := 7) sc_law_walk.nd rfl (Or.inl rfl) (pm_ix (hu_of hr) (pm_var 6) (pm_call (ok_law_draw T) (hr.mono (by decide)) (by rfl) T.g_law_draw T.F_law_draw.kp T.b_law_draw (pma_cons (pm_var 0) (pma_cons (pm_callB cd_len (by rfl) T.n_len bb_len (pma_cons (pm_var 6) pma_nil)) pma_nil))) (fun _ _ => rfl)))
  (pms_cons (pms_asg (pm_ix (hu_of hr) (pm_var 7) pm_int (fun _ _ => rfl)) (pmg_sub (W := W0) (pm_var 3) (pm_slice (pm_var 7) pmo_none (pmo_some pm_int)) (os_set (hu_of hr))))
  (pms_one (pms_expr (pm_bm md_append PySem.F.plainAttrs_list PySem.F.slot_list_append PySem.F.type_list_append (pm_var 4) (pma_cons (pm_var 7) pma_nil))))))
  pms_nil))))
  (pms_one (pms_ret (pm_callTy cd_tuple (by rfl) T.n_tuple bb_tuple (pma_cons (pm_var 4) pma_nil))))))))
noncomputable def m_is_row : DSt → Store → Res Fl :=
  (mRet (mAndV (mCall 1 d_are_tiles (mCons (mVar 1) mNil)) (m2 (m2 (mCall 2 d_walk (mCons (mVar 0) (mCons (mVar 1) mNil))) (mC (.int 0)) ixD) (mC .non) (isND true))))
noncomputable def d_is_row : List D → Store → Res D := gcD (denOf 2 m_is_row)
theorem ok_is_row (T : Txt K mg) : FnOk P w K mg base CX0 6 T.f_is_row T.e_is_row ["bed", "thing"] (spD K mg 2 d_is_row) :=
  fn_gc (fn_den T.F_is_row sc_is_row fun cdv A outer s H E hr =>
   ((pms_one (pms_ret (pm_and (pm_call (ok_are_tiles T) (hr.mono (by decide)) (by rfl) T.g_are_tiles T.F_are_tiles.kp T.b_are_tiles (pma_cons (pm_var 1) pma_nil)) (pm_one (pm_cmp od_isnot (pm_ix (hu_of hr) (pm_call (ok_walk T) (hr.mono (by decide)) (by rfl) T.g_walk T.F_walk.kp T.b_walk (pma_cons (pm_var 0) (pma_cons (pm_var 1) pma_nil))) pm_int (fun _ _ => rfl)) pm_non (nomark _))))))))
noncomputable def b1_law : DSt → Store → Res Fl :=
  (mIfS (mT (m2 (mCall 2 d_is_row (mCons (mVar 3) (mCons (mVar 8) mNil))) (mC (.bl false)) (isBD true)))
  (mRet (mC (.bl false)))
  mSkip)
noncomputable def b2_law : DSt → Store → Res Fl :=
  (mFor (mSeqI (mTup (mCons (m2 (m2 (mSl (mVar 4) mNoPart (mPart (mVar 5))) (mTup (mCons (mVar 7) mNil)) addD) (mSl (mVar 4) (mPart (m2 (mVar 5) (mC (.int 1)) addD)) mNoPart) addD) (mCons (m2 (m2 (mSl (mVar 4) mNoPart (mPart (mVar 5))) (mTup (mCons (mVar 7) mNil)) addD) (mSl (mVar 4) (mPart (mVar 5)) mNoPart) addD) (mCons (m2 (mTup (mCons (mVar 7) mNil)) (mVar 4) addD) (mCons (m2 (mVar 4) (mTup (mCons (mVar 7) mNil)) addD) mNil)))))) (gtName 8)
  b1_law)
noncomputable def b3_law : DSt → Store → Res Fl :=
  (mIfS (mAndT (mT (m2 (mVar 8) (mTup mNil) neAny)) (mT (m2 (mCall 2 d_is_row (mCons (mVar 3) (mCons (mVar 8) mNil))) (mC (.bl false)) (isBD true))))
  (mRet (mC (.bl false)))
  mSkip)
noncomputable def b4_law : DSt → Store → Res Fl :=
  (mSeq (mSet 2 (mCall 2 d_law_begin (mCons (mVar 0) (mCons (mVar 1) mNil))))
  (mSeq (mSet 3 (mCall 1 d_law_bed (mCons (mVar 2) mNil)))
  (mSeq (mSet 4 (mCall 3 d_law_walk (mCons (mVar 2) (mCons (mVar 3) (mCons (mC (.int 6)) mNil)))))
  (mSeq (mSet 5 (mCall 2 d_law_draw (mCons (mVar 2) (mCons (m2 (mCB lenD (mCons (mVar 4) mNil)) (mC (.int 1)) addD) mNil))))
  (mSeq (mSet 6 (m2 (m2 (mVar 4) (mTup (mCons (mTup (mCons (mC (.int 1)) (mCons (mC (.int 0)) (mCons (mC (.int 0)) mNil)))) mNil)) addD) (mVar 5) ixD))
  (mSeq (mFor (mSeqI (mCall 2 d_law_odd_tiles (mCons (mVar 2) (mCons (mVar 6) mNil)))) (gtName 7)
  b2_law)
  (mSeq (mFor (mSeqI (mLst (mCons (mCB (listD false) (mCons (mVar 4) mNil)) (mCons (mC .non) (mCons (mC (.bl true)) (mCons (mC (.int 0)) (mCons (mC (.str (tx []))) (mCons (mC (.str (tx [114, 111, 119]))) (mCons (fun _ S => .ok (.loc S.length) (S ++ [.dT []])) (mCons (mLst mNil) (mCons (mTup (mCons (mVar 4) mNil)) (mCons (mLst (mCons (mVar 4) mNil)) (mCons (mCall 1 d_law_nested (mCons (mVar 2) mNil)) (mCons (mDisp1N (mVar 4) (mVar 4)) mNil)))))))))))))) (gtName 8)
  b3_law)
  (mIfS (mT (m2 (mCall 2 d_is_row (mCons (mVar 3) (mCons (mVar 4) mNil))) (mC (.bl true)) (isBD true)))
  (mRet (mC (.bl false)))
  mSkip))))))))
noncomputable def m_law : DSt → Store → Res Fl :=
  (mSeq (mFor (mRng1 (mCons (m2 (mC (.int 1)) (mCB min2D (mCons (mC (.int 3)) (mCons (mCB lenD (mCons (mVar 0) mNil)) mNil))) addD) mNil)) (gtName 1)
  b4_law)
  (mRet (mC (.bl true))))
noncomputable def d_law : List D → Store → Res D := denOf 9 m_law
theorem ok_law (T : Txt K mg) : FnOk P w K mg base CX0 7 T.f_law T.e_law ["_law_script"] (spD K mg 1 d_law) :=
  fn_den T.F_law sc_law fun cdv A outer s H E hr =>
   ((pms_cons (pms_for PassesOwn.never rfl (pmi_range1 (by rfl) T.n_range (pma_cons (pm_op od_add pm_int (pm_callB (cd_min2 rfl) (by rfl) T.n_min bb_min (pma_cons pm_int (pma_cons (pm_callB cd_len (by rfl) T.n_len bb_len (pma_cons (pm_var 0) pma_nil)) pma_nil)))) pma_nil)) (pmg_name (i := 1) sc_law.nd rfl (Or.inl rfl))
  (pms_cons (pms_set (i := 2) sc_law.nd rfl (Or.inl rfl) (pm_call (ok_law_begin T) (hr.mono (by decide)) (by rfl) T.g_law_begin T.F_law_begin.kp T.b_law_begin (pma_cons (pm_var 0) (pma_cons (pm_var 1) pma_nil))))
  (pms_cons (pms_set (i := 3) sc_law.nd rfl (Or.inl rfl) (pm_call (ok_law_bed T) (hr.mono (by decide)) (by rfl) T.g_law_bed T.F_law_bed.kp T.b_law_bed (pma_cons (pm_var 2) pma_nil)))
  (pms_cons (pms_set (i := 4) sc_law.nd rfl (Or.inl rfl) (pm_call (ok_law_walk T) (hr.mono (by decide)) (by rfl) T.g_law_walk T.F_law_walk.kp T.b_law_walk (pma_cons (pm_var 2) (pma_cons (pm_var 3) (pma_cons pm_int pma_nil)))))
  (pms_cons (pms_set (i := 5) sc_law.nd rfl (Or.inl rfl) (pm_call (ok_law_draw T) (hr.mono (by decide)) (by rfl) T.g_law_draw T.F_law_draw.kp T.b_law_draw (pma_cons (pm_var 2) (pma_cons (pm_op od_add (pm_callB cd_len (by rfl) T.n_len bb_len (pma_cons (pm_var 4) pma_nil)) pm_int) pma_nil))))
  (pms_cons (pms_set (i := 6) sc_law.nd rfl (Or.inl rfl) (pm_ix (hu_of hr) (pm_op od_add (pm_var 4) (pm_tup (pma_cons (pm_tup (pma_cons pm_int (pma_cons pm_int (pma_cons pm_int pma_nil)))) pma_nil))) (pm_var 5) (fun _ _ => rfl)))
  (pms_cons (pms_for PassesOwn.never rfl (pmi_seq (pm_call (ok_law_odd_tiles T) (hr.mono (by decide)) (by rfl) T.g_law_odd_tiles T.F_law_odd_tiles.kp T.b_law_odd_tiles (pma_cons (pm_var 2) (pma_cons (pm_var 6) pma_nil)))) (pmg_name (i := 7) sc_law.nd rfl (Or.inl rfl))
  (pms_one (pms_for PassesOwn.never rfl (pmi_seq (pm_tup (pma_cons (pm_op od_add (pm_op od_add (pm_slice (pm_var 4) pmo_none (pmo_some (pm_var 5))) (pm_tup (pma_cons (pm_var 7) pma_nil))) (pm_slice (pm_var 4) (pmo_some (pm_op od_add (pm_var 5) pm_int)) pmo_none)) (pma_cons (pm_op od_add (pm_op od_add (pm_slice (pm_var 4) pmo_none (pmo_some (pm_var 5))) (pm_tup (pma_cons (pm_var 7) pma_nil))) (pm_slice (pm_var 4) (pmo_some (pm_var 5)) pmo_none)) (pma_cons (pm_op od_add (pm_tup (pma_cons (pm_var 7) pma_nil)) (pm_var 4)) (pma_cons (pm_op od_add (pm_var 4) (pm_tup (pma_cons (pm_var 7) pma_nil))) pma_nil)))))) (pmg_name (i := 8) sc_law.nd rfl (Or.inl rfl))
  (pms_one (pms_if (pmt_cmp od_isnotB (pm_call (ok_is_row T) (hr.mono (by decide)) (by rfl) T.g_is_row T.F_is_row.kp T.b_is_row (pma_cons (pm_var 3) (pma_cons (pm_var 8) pma_nil))) pm_bl (nomark _))
  (pms_one (pms_ret pm_bl))
  pms_nil)))))
  (pms_cons (pms_for PassesOwn.never rfl (pmi_seq (pm_lst (pma_cons (pm_callTy (cd_list rfl false) (by rfl) T.n_list bb_list (pma_cons (pm_var 4) pma_nil)) (pma_cons pm_non (pma_cons pm_bl (pma_cons pm_int (pma_cons (pm_strT lt_0) (pma_cons (pm_strT lt_5) (pma_cons pm_dictT (pma_cons (pm_lst pma_nil) (pma_cons (pm_tup (pma_cons (pm_var 4) pma_nil)) (pma_cons (pm_lst (pma_cons (pm_var 4) pma_nil)) (pma_cons (pm_call (ok_law_nested T) (hr.mono (by decide)) (by rfl) T.g_law_nested T.F_law_nested.kp T.b_law_nested (pma_cons (pm_var 2) pma_nil)) (pma_cons (pm_disp1N hr.units (pm_var 4) (pm_var 4)) pma_nil)))))))))))))) (pmg_name (i := 8) sc_law.nd rfl (Or.inl rfl))
  (pms_one (pms_if (PMW.pt (pmw_and (pmt_cmp (od_neAny hr.units) (pm_var 8) (pm_tup pma_nil) (nomark _)) (pmw_and1 (pmt_cmp od_isnotB (pm_call (ok_is_row T) (hr.mono (by decide)) (by rfl) T.g_is_row T.F_is_row.kp T.b_is_row (pma_cons (pm_var 3) (pma_cons (pm_var 8) pma_nil))) pm_bl (nomark _)))))
  (pms_one (pms_ret pm_bl))
  pms_nil)))
  (pms_one (pms_if (pmt_cmp od_isnotB (pm_call (ok_is_row T) (hr.mono (by decide)) (by rfl) T.g_is_row T.F_is_row.kp T.b_is_row (pma_cons (pm_var 3) (pma_cons (pm_var 4) pma_nil))) pm_bl (nomark _))
  (pms_one (pms_ret pm_bl))
  pms_nil))))))))))
  (pms_one (pms_ret pm_bl))))
end
theorem set_go {σ : DSt} {i : Nat} {x : Option D} {P : DSt → Prop} (h : ∀ σ', σ.set i x = σ' → P σ') : ∀ σ', σ.set i x = σ' → P σ' := h
theorem wipe_go {σ : DSt} {vs : List Nat} {P : DSt → Prop} (h : ∀ σ', dwipe σ vs = σ' → P σ') : ∀ σ', dwipe σ vs = σ' → P σ' := h
theorem setS_go {S t t' : Store} {n k : Nat} {o : Ob} {P : Store → Prop} (hl : S.length = n) (e : t.set k o = t') (h : P (S ++ t')) : ∀ S', (S ++ t).set (n + k) o = S' → P S' := fun S' q => by rw [st_set hl, e] at q; subst q; exact h
theorem setS_go0 {S t t' : Store} {n : Nat} {o : Ob} {P : Store → Prop} (hl : S.length = n) (e : t.set 0 o = t') (h : P (S ++ t')) : ∀ S', (S ++ t).set n o = S' → P S' := setS_go (k := 0) hl e h
theorem get_go {S t : Store} {n k : Nat} {o : Ob} (hl : S.length = n) (e : t[k]? = some o) : (S ++ t)[n + k]? = some o := (st_get hl).trans e
theorem get_go0 {S t : Store} {n : Nat} {o : Ob} (hl : S.length = n) (e : t[0]? = some o) : (S ++ t)[n]? = some o := (st_get0 hl).trans e
section
variable {α : Type} {σ : DSt} {S t : Store} {Q : D → Store → Prop} {QB : Bool → Store → Prop} {n : Nat} {ms : DSt → Store → Res (List D)}
theorem k_dict0 (hl : S.length = n) (h : Q (.loc n) (S ++ [.dT []])) : Ok ((fun _ S => .ok (.loc S.length) (S ++ [.dT []]) : DSt → Store → Res D) σ S) Q := by
  subst hl; exact k_ok h
theorem k_dict1 {k : Nat} {t' : Store} (hl : S.length = n) (hk : t.length = k) (ht : t ++ [.dT []] = t') (h : Q (.loc (n + k)) (S ++ t')) : Ok ((fun _ S => .ok (.loc S.length) (S ++ [.dT []]) : DSt → Store → Res D) σ (S ++ t)) Q := by
  subst hl hk ht
  refine k_ok ?_
  rw [List.length_append, List.append_assoc]; exact h
theorem Wf.mid {r : Res Fl} {E : XEv} {N : DSt → Store → Prop} {R : D → Store → Prop} {B C : DSt → Store → Prop} (I : DSt → Store → Prop) (h : WfX E r I R B C) (k : ∀ σ S, I σ S → N σ S) : WfX E r N R B C := h.imp k (fun _ _ h => h) (fun _ _ h => h) (fun _ _ h => h)
theorem par_of {σ : DSt} {i j : Nat} {x y : D} {P : DSt → Prop} (h : ∀ σ', (σ.set i (some x)).set j (some y) = σ' → P σ') : ∃ x' y', [x, y] = [x', y'] ∧ ∀ σ', (σ.set i (some x')).set j (some y') = σ' → P σ' := ⟨x, y, rfl, h⟩
theorem len_of {k : Nat} {p : Prop} {ds : List D} (e : ds.length ≤ k) (h : p) : ds.length ≤ k ∧ p := ⟨e, h⟩
theorem true_of {p : Prop} {b : Bool} (e : b = true) (h : p) : b = true ∧ p := ⟨e, h⟩
theorem lenE_of {k : Nat} {p : Prop} {ds : List D} (e : ds.length = k) (h : p) : ds.length = k ∧ p := ⟨e, h⟩
theorem src_of {s : Src} {P : Src → Prop} {d : D} (e : seqSrc d S = some s) (h : P s) : ∃ s, seqSrc d S = some s ∧ P s := ⟨_, e, h⟩
theorem src_str {l : List Nat} {P : Src → Prop} (e : l.length ≤ 16777216) (h : P ⟨l.map fun c => D.str (tx [c]), []⟩) : ∃ s, seqSrc (.str (tx l)) S = some s ∧ P s := ⟨_, by rw [seqSrc_str, if_pos (by rw [tx_len, size_eq]; exact e)]; rfl, h⟩
theorem rng_of {i : Int} {m : Nat} {P : Nat → Prop} (e : i = (m : Int)) (hl : m ≤ 16777216) (h : P m) : ∃ (i' : Int) (n' : Nat), [D.int i] = [D.int i'] ∧ i' = (n' : Int) ∧ n' ≤ 16777216 ∧ P n' := ⟨i, m, rfl, e, hl, h⟩
end
section
variable {α : Type} {xs : List α} {l : List Nat}
theorem cutL_to (n : Nat) : L3.cut xs none (some (n : Int)) = xs.take n := by
  unfold L3.cut
  rw [HT.sIx_none, HT.sIx_nat, List.drop_zero, Nat.sub_zero]
  rcases Nat.le_total n xs.length with h | h
  · rw [Nat.min_eq_left h]
  · rw [Nat.min_eq_right h, List.take_length, List.take_of_length_le h]
theorem cutL_from (n : Nat) : L3.cut xs (some (n : Int)) none = xs.drop n := by
  unfold L3.cut
  rw [HT.sIx_none, HT.sIx_nat]
  rcases Nat.le_total n xs.length with h | h
  · rw [Nat.min_eq_left h, List.take_of_length_le (by rw [List.length_drop]; omega)]
  · rw [Nat.min_eq_right h, List.drop_eq_nil_of_le h, List.drop_length]
    simp
theorem cutL_toO (n : Nat) : L3.cut xs none (some (no_index (OfNat.ofNat n : Int))) = xs.take n := cutL_to n
theorem cutL_fromO (n : Nat) : L3.cut xs (some (no_index (OfNat.ofNat n : Int))) none = xs.drop n := cutL_from n
theorem cutS_toO (n : Nat) : cutS (tx l) none (some (no_index (OfNat.ofNat n : Int))) = tx (l.take n) := cut_to l n
theorem cutS_fromO (n : Nat) : cutS (tx l) (some (no_index (OfNat.ofNat n : Int))) none = tx (l.drop n) := cut_from l n
theorem p_slT2 {S : Store} {Q : D → Store → Prop} {ds es : List D} {lo hi : Option Int} (e : L3.cut ds lo hi = es) (h : Q (.tup es) S) : Ok (sliceD (.tup ds) lo hi S) Q := p_slT (by rw [e]; exact h)
theorem p_slL2 {S : Store} {Q : D → Store → Prop} {ds es : List D} {lo hi : Option Int} (e : L3.cut ds lo hi = es) (h : Q (.lst es) S) : Ok (sliceD (.lst ds) lo hi S) Q := p_slL (by rw [e]; exact h)
theorem p_slF2 {S : Store} {Q : D → Store → Prop} {ds es : List D} {lo hi : Option Int} (e : L3.cut ds lo hi = es) (h : Q (.lst es) S) : Ok (sliceD (.frz ds) lo hi S) Q := p_slF (by rw [e]; exact h)
theorem p_slS2 {S : Store} {Q : D → Store → Prop} {m : Str} {lo hi : Option Int} (hl : l.length ≤ 16777216) (e : cutS (tx l) lo hi = m) (h : Q (.str m) S) : Ok (sliceD (.str (tx l)) lo hi S) Q := p_slS hl (by rw [e]; exact h)
end
theorem en_lst {S : Store} {ds : List D} {P : Src → Prop} (h : P ⟨ds, []⟩) : ∃ d s, [D.lst ds] = [d] ∧ lstSrc d S = some s ∧ P s := ⟨_, _, rfl, lstSrc_lst, h⟩
theorem en_frz {S : Store} {ds : List D} {P : Src → Prop} (h : P ⟨ds, []⟩) : ∃ d s, [D.frz ds] = [d] ∧ lstSrc d S = some s ∧ P s := ⟨_, _, rfl, lstSrc_frz, h⟩
theorem enum_map {α : Type} (f : α → D) (xs : List α) : ((xs.map f).zipIdx.map fun p : D × Nat => D.tup [.int p.2, p.1]) = xs.zipIdx.map fun p : α × Nat => D.tup [.int p.2, f p.1] := by
  rw [List.zipIdx_map, List.map_map]
  rfl
local macro_rules | `(tactic| walk_at "sz") => `(tactic| first | assumption | (simp only [List.length_cons, List.length_nil, List.length_map, List.length_append, List.length_range] <;> omega) | (simp <;> omega) | (simp; done))
local macro_rules | `(tactic| walk_at "st") => `(tactic| first | assumption | exact get_go (by assumption) rfl | exact get_go0 (by assumption) rfl | exact get_go rfl rfl | exact get_go0 rfl rfl)
local macro_rules | `(tactic| walk_at "lk") => `(tactic| (intro σ' e; simp only [List.set_cons_zero, List.set_cons_succ, dwipe] at e; subst e))
local macro_rules | `(tactic| walk_at "den") => `(tactic| ((with_reducible apply den_ok); (focus (simp only [List.map_cons, List.map_nil, List.length_cons, List.length_nil, Nat.reduceAdd, Nat.reduceSub, List.replicate, List.cons_append, List.nil_append]; exact rfl))))
local macro_rules | `(tactic| walk_at "s2") => `(tactic| first
  | ((with_reducible apply k_dict0); (focus assumption))
  | ((with_reducible apply k_dict1); (focus assumption); (focus exact rfl); (focus exact rfl))
  | fail)
local macro_rules | `(tactic| walk_at "s2") => `(tactic| first
  | with_reducible refine p_listL ?_
  | with_reducible refine p_listT ?_
  | with_reducible refine p_listF ?_
  | ((with_reducible apply p_app); (focus (walk_at "st")); (focus (walk_at "sz")))
  | ((with_reducible apply p_extL); (focus (walk_at "st")); (focus (walk_at "sz")))
  | ((with_reducible apply setS_go); (focus assumption); (focus (simp only [List.set_cons_zero, List.set_cons_succ]; exact rfl)))
  | ((with_reducible apply setS_go0); (focus assumption); (focus (simp only [List.set_cons_zero, List.set_cons_succ]; exact rfl)))
  | ((with_reducible refine true_of ?_ ?_); focus (first | exact rfl | exact tyOk_loc (by walk_at "st")))
  | fail)
local macro_rules | `(tactic| walk_at "s2") => `(tactic| first
  | with_reducible refine p_intB ?_
  | with_reducible refine p_tupL ?_
  | with_reducible refine p_tupT ?_
  | with_reducible refine p_tupX ?_
  | ((with_reducible apply p_ixPm); focus assumption)
  | ((with_reducible apply p_ixP); focus exact rfl)
  | with_reducible refine p_tupF ?_
  | ((with_reducible apply p_tupO); focus (walk_at "st"))
  | fail)
local macro_rules | `(tactic| walk_at "s2") => `(tactic| first
  | with_reducible refine p_lenF ?_
  | with_reducible refine p_lenK ?_
  | ((with_reducible refine p_lenS ?_ ?_); focus (walk_at "sz"))
  | ((with_reducible apply p_lenO); focus (walk_at "st"))
  | with_reducible refine p_abs ?_
  | with_reducible refine p_max2 ?_
  | with_reducible refine p_min2 ?_
  | with_reducible refine p_int ?_
  | fail)
local macro_rules | `(tactic| walk_at "s2") => `(tactic| first
  | ((with_reducible apply p_slL2); (focus (simp only [cutL_to, cutL_from, cutL_toO, cutL_fromO, List.take_succ_cons, List.take_zero, List.drop_succ_cons, List.drop_zero]; exact rfl)))
  | ((with_reducible apply p_slF2); (focus (simp only [cutL_to, cutL_from, cutL_toO, cutL_fromO, List.take_succ_cons, List.take_zero, List.drop_succ_cons, List.drop_zero]; exact rfl)))
  | with_reducible refine p_slT ?_
  | with_reducible refine p_slL ?_
  | ((with_reducible apply p_slS2); (focus (walk_at "sz")); (focus (simp only [cut_to, cut_from, cutS_toO, cutS_fromO]; exact rfl)))
  | ((with_reducible refine p_slS ?_ ?_); focus (walk_at "sz"))
  | with_reducible refine p_lenT ?_
  | with_reducible refine p_lenL ?_
  | fail)
local macro_rules | `(tactic| walk_at "s2") => `(tactic| first
  | ((with_reducible apply p_sortL); focus (walk_at "st"))
  | ((with_reducible apply p_ixT); focus exact rfl)
  | ((with_reducible apply p_ixL); focus exact rfl)
  | ((with_reducible apply p_ixTm); focus assumption)
  | ((with_reducible apply p_ixLm); focus assumption)
  | ((with_reducible apply p_ixFm); focus assumption)
  | ((with_reducible apply p_ixO); (focus (walk_at "st")); (focus exact rfl))
  | ((with_reducible apply p_slT2); (focus (simp only [cutL_to, cutL_from, cutL_toO, cutL_fromO, List.take_succ_cons, List.take_zero, List.drop_succ_cons, List.drop_zero]; exact rfl)))
  | fail)
local macro_rules | `(tactic| walk_at "s2") => `(tactic| first
  | with_reducible refine p_isN ?_
  | with_reducible refine p_isNi ?_
  | with_reducible refine p_isNs ?_
  | with_reducible refine p_isNl ?_
  | with_reducible refine p_isNt ?_
  | with_reducible refine p_isB ?_
  | with_reducible refine p_eqB ?_
  | ((with_reducible apply p_isi); focus (first | exact isi_tuple_tup | exact isi_tuple_ktp | exact isi_tuple_str | exact isi_tuple_int | exact isi_tuple_bl | exact isi_tuple_lst | exact isi_tuple_non | exact isi_str_tup | exact isi_str_str | exact isi_str_int | exact isi_str_bl | exact isi_str_lst | exact isi_str_non | exact isi_int_tup | exact isi_int_str | exact isi_int_int | exact isi_int_bl | exact isi_int_lst | exact isi_int_non | exact isi_bool_tup | exact isi_bool_str | exact isi_bool_int | exact isi_bool_bl | exact isi_bool_lst | exact isi_bool_non | exact isi_list_tup | exact isi_list_str | exact isi_list_int | exact isi_list_bl | exact isi_list_lst | exact isi_list_non | exact isi_dict_tup | exact isi_dict_str | exact isi_dict_int | exact isi_dict_bl | exact isi_dict_lst | exact isi_dict_non))
  | fail)
local macro_rules | `(tactic| walk_at "s2") => `(tactic| first
  | ((with_reducible refine p_mulR ?_ ?_ ?_); (focus omega); (focus omega))
  | ((with_reducible refine p_mulL ?_ ?_ ?_); (focus omega); (focus omega))
  | ((with_reducible refine p_fdiv ?_ ?_ ?_); (focus omega); (focus omega))
  | ((with_reducible refine p_mod ?_ ?_); focus omega)
  | with_reducible refine p_lt ?_
  | with_reducible refine p_ltS ?_
  | with_reducible refine p_cmp ?_
  | with_reducible refine p_eqI ?_
  | fail)
local macro_rules | `(tactic| walk_at "s2") => `(tactic| first
  | with_reducible refine k_ok ?_
  | with_reducible refine p_add ?_
  | ((with_reducible refine p_addS ?_ ?_); focus (walk_at "sz"))
  | ((with_reducible refine p_addT ?_ ?_); focus (walk_at "sz"))
  | ((with_reducible refine p_addL ?_ ?_); focus (walk_at "sz"))
  | ((with_reducible refine p_addM ?_ ?_); focus (walk_at "sz"))
  | ((with_reducible apply p_addLO); (focus (walk_at "st")); (focus (walk_at "sz")))
  | with_reducible refine p_sub ?_
  | fail)
local macro_rules | `(tactic| walk_at "s1b") => `(tactic| first
  | walk_at "s2"
  | fail)
local macro_rules | `(tactic| walk_at "s1b") => `(tactic| first
  | with_reducible refine en_frz ?_
  | ((with_reducible refine par_of ?_); walk_at "lk")
  | ((with_reducible refine par3_of ?_); walk_at "lk")
  | fail)
local macro_rules | `(tactic| walk_at "s1b") => `(tactic| first
  | with_reducible refine k_get2 ?_
  | with_reducible refine k_seqi ?_
  | ((with_reducible refine src_str ?_ ?_); focus (walk_at "sz"))
  | ((with_reducible apply src_of); focus (first | exact seqSrc_tup | exact seqSrc_lst | exact seqSrc_frz | exact seqSrc_ktp | exact seqSrc_loc (by walk_at "st")))
  | with_reducible refine k_rng1 ?_
  | with_reducible refine k_enum ?_
  | with_reducible refine k_enumA ?_
  | with_reducible refine en_lst ?_
  | fail)
local macro_rules | `(tactic| walk_at "s1b") => `(tactic| first
  | with_reducible refine k_ch ?_
  | with_reducible refine k_lc ?_
  | with_reducible refine k_lcM ?_
  | with_reducible refine k_sl ?_
  | with_reducible refine k_nopart ?_
  | with_reducible refine k_part ?_
  | with_reducible refine k_bm ?_
  | with_reducible refine k_get1 ?_
  | fail)
local macro_rules | `(tactic| walk_at "s1b") => `(tactic| first
  | with_reducible refine k_andT ?_
  | with_reducible refine k_orT ?_
  | with_reducible refine k_notT ?_
  | with_reducible refine k_andV ?_
  | with_reducible refine k_orV ?_
  | with_reducible refine k_notV ?_
  | with_reducible refine k_ifx ?_
  | with_reducible refine k_neg ?_
  | fail)
local macro_rules | `(tactic| walk_at "s1b") => `(tactic| first
  | ((with_reducible refine k_gtup ?_ ?_); focus exact rfl)
  | ((with_reducible refine k_gktp ?_ ?_); focus exact rfl)
  | with_reducible refine k_gsub ?_
  | with_reducible refine k_tup ?_
  | with_reducible refine k_lst ?_
  | with_reducible refine k_lstM ?_
  | ((with_reducible refine len_of ?_ ?_); focus (walk_at "sz"))
  | with_reducible refine k_m1 ?_
  | fail)
local macro_rules | `(tactic| walk_at "s1b") => `(tactic| first
  | with_reducible refine bl_of ?_
  | with_reducible refine int_of ?_
  | with_reducible refine k_call ?_
  | ((with_reducible refine lenE_of ?_ ?_); focus exact rfl)
  | with_reducible refine k_cb ?_
  | with_reducible refine k_gname ?_
  | with_reducible refine k_gnil ?_
  | with_reducible refine k_gcons ?_
  | fail)
local macro_rules | `(tactic| walk_at "s1b") => `(tactic| first
  | ((with_reducible apply k_var); focus exact rfl)
  | with_reducible refine k_cons ?_
  | with_reducible refine k_nil ?_
  | with_reducible refine k_C ?_
  | with_reducible refine k_m2 ?_
  | ((with_reducible refine set_go ?_); walk_at "lk")
  | ((with_reducible refine wipe_go ?_); walk_at "lk")
  | with_reducible refine k_mT ?_
  | fail)
local macro_rules | `(tactic| walk_at "s1") => `(tactic| first
  | ((fail_if_success (with_reducible refine wf_id ?_)); (fail_if_success (with_reducible refine br_id ?_)); walk_at "s1b")
  | fail)
local macro_rules | `(tactic| walk_at "s1") => `(tactic| first
  | with_reducible refine br_f ?_
  | with_reducible refine br_not ?_
  | with_reducible refine br_xt ?_
  | with_reducible refine br_xf ?_
  | fail)
local macro_rules | `(tactic| walk_at "s1") => `(tactic| first
  | with_reducible refine w_par ?_
  | with_reducible refine w_par3 ?_
  | with_reducible refine w_nx ?_
  | with_reducible refine w_rt ?_
  | with_reducible refine w_bk ?_
  | with_reducible refine w_ct ?_
  | with_reducible refine w_raise ?_
  | with_reducible refine br_t ?_
  | fail)
local macro_rules | `(tactic| walk_at "s1") => `(tactic| first
  | with_reducible refine w_seq ?_
  | with_reducible refine w_set ?_
  | with_reducible refine w_ifs ?_
  | with_reducible refine w_ret ?_
  | with_reducible refine w_do ?_
  | with_reducible refine w_skip ?_
  | with_reducible refine w_for ?_
  | with_reducible refine w_asg ?_
  | fail)
local macro_rules | `(tactic| walk_at "vs") => `(tactic| skip)
local macro_rules | `(tactic| walk_at "vs") => `(tactic| first | (walk_at "s1"; walk_at "vs") | fail)
local macro_rules | `(tactic| walk_at "vp") => `(tactic| skip)
local macro_rules | `(tactic| walk_at "vp") => `(tactic| first | ((fail_if_success (with_reducible refine w_ifs ?_)); walk_at "s1"; walk_at "vp") | fail)
/-! ### draws with a count -/
def Pot (S : Store) (p N : Nat) : Prop := ∃ a b c : Int, S[p]? = some (.lst [.int a, .int b, .int c]) ∧ 0 ≤ a ∧ 0 ≤ b ∧ 0 ≤ c ∧ c ≤ N
/-- the pot at p has been drawn from, at most N draws in all: all else stands -/
structure Fr (S : Store) (p N : Nat) (S' : Store) : Prop where
  len : S'.length = S.length
  oth : ∀ q, q ≠ p → S'[q]? = S[q]?
  pot : Pot S' p N
theorem Pot.mono {S : Store} {p N M : Nat} (h : Pot S p N) (hn : N ≤ M) : Pot S p M := by
  obtain ⟨a, b, c, e, h1, h2, h3, h4⟩ := h
  exact ⟨a, b, c, e, h1, h2, h3, by omega⟩
theorem Fr.mono {S S' : Store} {p N M : Nat} (h : Fr S p N S') (hn : N ≤ M) : Fr S p M S' := ⟨h.len, h.oth, h.pot.mono hn⟩
theorem Fr.refl {S : Store} {p N : Nat} (h : Pot S p N) : Fr S p N S := ⟨rfl, fun _ _ => rfl, h⟩
theorem Fr.trans {S S' S'' : Store} {p N M : Nat} (h : Fr S p N S') (h' : Fr S' p M S'') : Fr S p M S'' := ⟨h'.len.trans h.len, fun q n => (h'.oth q n).trans (h.oth q n), h'.pot⟩
theorem Pot.lt {S : Store} {p N : Nat} (h : Pot S p N) : p < S.length := by
  obtain ⟨a, b, c, e, _⟩ := h
  exact (List.getElem?_eq_some_iff.mp e).1
theorem Fr.of {S : Store} {p N M : Nat} {a b c : Int} (h : Pot S p N) (ha : 0 ≤ a) (hb : 0 ≤ b) (hc : 0 ≤ c) (hm : c ≤ M) : Fr S p M (S.set p (.lst [.int a, .int b, .int c])) :=
  ⟨List.length_set, fun q n => List.getElem?_set_ne (Ne.symm n), a, b, c, List.getElem?_set_self h.lt, ha, hb, hc, hm⟩
theorem Fr.kept {S S' : Store} {p N : Nat} (h : Fr S p N S') : ∀ i < S.length, S'[i]? = S[i]? ∨ ∃ o, S'[i]? = some o ∧ o.sc S.length = true := fun i hi => by
  by_cases hp : i = p
  · subst hp
    obtain ⟨a, b, c, e, _⟩ := h.pot
    exact .inr ⟨_, e, rfl⟩
  · exact .inl (h.oth i hp)
theorem Pot.app {S q : Store} {p N : Nat} (h : Pot S p N) : Pot (S ++ q) p N := by
  obtain ⟨a, b, c, e, r⟩ := id h
  exact ⟨a, b, c, by rw [List.getElem?_append_left h.lt]; exact e, r⟩
theorem Fr.split {S t S' : Store} {p N M : Nat} (h : Fr (S ++ t) p N S') (hp : Pot S p M) : ∃ S1, S' = S1 ++ t ∧ Fr S p N S1 := by
  have hlt := hp.lt
  refine ⟨S'.take S.length, ?_, ⟨?_, fun q hq => ?_, ?_⟩⟩
  · apply List.ext_getElem?
    intro i
    have hl := h.len
    rw [List.length_append] at hl
    by_cases hi : i < S.length
    · rw [List.getElem?_append_left (by rw [List.length_take]; omega), List.getElem?_take_of_lt hi]
    · rw [List.getElem?_append_right (by rw [List.length_take]; omega), h.oth i (by omega), List.getElem?_append_right (by omega), List.length_take]
      congr 1
      omega
  · rw [List.length_take, h.len, List.length_append]; omega
  · by_cases hi : q < S.length
    · rw [List.getElem?_take_of_lt hi, h.oth q hq, List.getElem?_append_left hi]
    · rw [List.getElem?_eq_none (by rw [List.length_take]; omega), List.getElem?_eq_none (by omega)]
  · obtain ⟨a, b, c, e, r⟩ := h.pot
    exact ⟨a, b, c, by rw [List.getElem?_take_of_lt hlt]; exact e, r⟩
theorem Ok.elim {α : Type} {r : Res α} {P : α → Store → Prop} (h : Ok r P) : ∃ a S, r = .ok a S ∧ P a S := h
section
variable {den : List D → Store → Res D} {ds : List D} {S : Store} {P : D → Store → Prop} {p N : Nat}
theorem gc_pure (h : Ok (den ds S) fun d S' => (∃ g, S' = S ++ g) ∧ d.sc S.length = true ∧ P d S) : Ok (gcD den ds S) P := by
  obtain ⟨d, S', e, ⟨g, rfl⟩, hs, hp⟩ := h
  exact k_eq (gcD_pure e hs) hp
theorem gc_fr (h : Ok (den ds S) fun d S' => ∃ S1 g, S' = S1 ++ g ∧ Fr S p N S1 ∧ d.sc S.length = true ∧ P d S1) : Ok (gcD den ds S) P := by
  obtain ⟨d, S', e, S1, g, rfl, hF, hs, hp⟩ := h
  exact k_eq (gcD_ok e hF.len hs hF.kept) hp
theorem gcF_pure (h : Ok (den ds S) fun d S' => ∃ g k es, d = .loc (S.length + k) ∧ S' = S ++ g ∧ g[k]? = some (.lst es) ∧ D.scs S.length es = true ∧ P (.lst es) S) : Ok (gcF den ds S) P := by
  obtain ⟨d, S', e, g, k, es, rfl, rfl, hg, hs, hp⟩ := h
  exact k_eq (gcF_loc e rfl hg hs fun _ _ => .inl rfl) hp
theorem gcO_pure (h : Ok (den ds S) fun d S' => ∃ g k o, d = .loc (S.length + k) ∧ S' = S ++ g ∧ g[k]? = some o ∧ o.sc S.length = true ∧ P (.loc S.length) (S ++ [o])) : Ok (gcO den ds S) P := by
  obtain ⟨d, S', e, g, k, o, rfl, rfl, hg, hs, hp⟩ := h
  exact k_eq (gcO_loc e rfl hg hs fun _ _ => .inl rfl) hp
end
theorem draw_ok {S : Store} {p N : Nat} (h : Pot S p N) (hN : N ≤ 1000000000) (n : Int) (hn : 0 < n) (h0 : n < 18446744073709551616) : ∃ (v : Nat) (S' : Store), (v : Int) < n ∧ Fr S p (N + 1) S' ∧ d_law_draw [.loc p, .int n] S = .ok (.int v) S' := by
  suffices hs : Ok (d_law_draw [.loc p, .int n] S) fun d S' => ∃ v : Nat, (v : Int) < n ∧ Fr S p (N + 1) S' ∧ d = .int v by
    obtain ⟨d, S', e, v, h1, h2, rfl⟩ := hs
    exact ⟨v, S', h1, h2, e⟩
  unfold d_law_draw
  refine gc_fr (p := p) (N := N + 1) ?_
  walk_at "den"
  unfold m_law_draw
  obtain ⟨a, b, c, e, ha, hb, hc, hcN⟩ := id h
  have nat : ∀ x : Int, ∃ v : Nat, (v : Int) < n ∧ x % n = v := fun x => by
    obtain ⟨v, hv⟩ := Int.eq_ofNat_of_zero_le (Int.emod_nonneg x (show n ≠ 0 by omega))
    exact ⟨v, by rw [← hv]; exact Int.emod_lt_of_pos x hn, hv⟩
  walk_at "vs"
  refine br_dec (fun h1 => ?_) (fun h1 => ?_)
  · obtain ⟨v, hv, hv2⟩ := nat a
    walk_at "vs"
    rw [hv2]
    walk_at "vs"
    refine p_setL (i := 0) (k := 0) e rfl ?_
    rintro _ rfl
    walk_at "vs"
    exact ⟨_, [], (List.append_nil _).symm, Fr.of h (Int.ediv_nonneg ha (by omega)) hb hc (by omega), rfl, v, hv, Fr.of h (Int.ediv_nonneg ha (by omega)) hb hc (by omega), rfl⟩
  · walk_at "vs"
    refine p_setL (i := 2) (k := 2) e rfl ?_
    rintro _ rfl
    have e2 : (S.set p (.lst ([D.int a, D.int b, D.int c].set 2 (.int (c + 1)))))[p]? = some (.lst [.int a, .int b, .int (c + 1)]) := List.getElem?_set_self h.lt
    have hF : Fr S p (N + 1) (S.set p (.lst [.int a, .int b, .int (c + 1)])) := Fr.of h ha hb (by omega) (by omega)
    walk_at "vs"
    obtain ⟨x, hx, hx0, hx1⟩ : ∃ x : Int, ((b + 104729 * (c + 1) * (c + 1) + 31 * (c + 1)) * 48271) % 2305843009213693921 = x ∧ 0 ≤ x ∧ x < 2305843009213693921 := ⟨_, rfl, Int.emod_nonneg _ (by omega), Int.emod_lt_of_pos _ (by omega)⟩
    rw [hx]
    walk_at "vs"
    obtain ⟨v, hv, hv2⟩ := nat (x * (x % 1000003 + 39373 * (c + 1)) % 2305843009213693907 / 65537 + x * (x % 1000003 + 39373 * (c + 1)) % 2305843009213693907 / 1000033)
    rw [hv2]
    exact ⟨_, [], (List.append_nil _).symm, hF, rfl, v, hv, hF, rfl⟩
section
variable {S0 S t : Store} {p n N : Nat} {Q : D → Store → Prop}
/-- a draw -/
theorem k_next (hF : Fr S0 p N S) (hl : S.length = n) {m : Int} (h : ∀ (v : Nat) (S' : Store), (v : Int) < m → Fr S0 p (N + 1) S' → S'.length = n → Q (.int v) (S' ++ t)) (hm : 0 < m ∧ m < 18446744073709551616 := by omega) (hN : N ≤ 1000000000 := by omega) : Ok (d_law_draw [.loc p, .int m] (S ++ t)) Q := by
  obtain ⟨v, S', hv, hF', e⟩ := draw_ok (hF.pot.app (q := t)) hN m hm.1 hm.2
  obtain ⟨S1, rfl, hF1⟩ := hF'.split hF.pot
  exact k_eq e (h v S1 hv (hF.trans hF1) (hF1.len.trans hl))
theorem k_next0 (hF : Fr S0 p N S) (hl : S.length = n) {m : Int} (h : ∀ (v : Nat) (S' : Store), (v : Int) < m → Fr S0 p (N + 1) S' → S'.length = n → Q (.int v) S') (hm : 0 < m ∧ m < 18446744073709551616 := by omega) (hN : N ≤ 1000000000 := by omega) : Ok (d_law_draw [.loc p, .int m] S) Q := by
  have := k_next (t := []) (Q := Q) hF hl (fun v S' h1 h2 h3 => by rw [List.append_nil]; exact h v S' h1 h2 h3) hm hN
  rwa [List.append_nil] at this
theorem k_lift0 {r : Store → Res D} {P : D → Prop} {M B : Nat} (hr : ∀ S N, N ≤ B → Pot S p N → Ok (r S) fun d S' => Fr S p (N + M) S' ∧ P d) (hF : Fr S0 p N S) (hl : S.length = n) (h : ∀ d S', P d → Fr S0 p (N + M) S' → S'.length = n → Q d S') (hN : N ≤ B := by omega) : Ok (r S) Q := by
  obtain ⟨d, S', e, hF', hp⟩ := hr _ N hN hF.pot
  exact k_eq e (h d S' hp (hF.trans hF') (hF'.len.trans hl))
end
/-- one of some numbers of a written list -/
def allN (lo hi : Nat) : List D → Bool
  | [] => true
  | .int i :: r => decide ((lo : Int) ≤ i ∧ i ≤ (hi : Int)) && allN lo hi r
  | _ => false
theorem allN_get {lo hi : Nat} : ∀ {ds : List D} {k : Nat}, allN lo hi ds = true → k < ds.length → ∃ v : Nat, ds[k]? = some (.int v) ∧ lo ≤ v ∧ v ≤ hi
  | [], _, _, hk => by simp at hk
  | .int i :: r, 0, h, _ => by
    simp only [allN, Bool.and_eq_true, decide_eq_true_eq] at h
    exact ⟨i.toNat, by rw [Int.toNat_of_nonneg (by omega)]; rfl, by omega, by omega⟩
  | .int i :: r, k + 1, h, hk => by
    simp only [allN, Bool.and_eq_true] at h
    obtain ⟨v, e, h1⟩ := allN_get (ds := r) (k := k) h.2 (by simpa using hk)
    exact ⟨v, by simpa using e, h1⟩
theorem p_pick {S : Store} {ds : List D} {k : Nat} {Q : D → Store → Prop} (lo hi : Nat) (hk : k < ds.length) (h : ∀ v : Nat, lo ≤ v → v ≤ hi → Q (.int v) S) (hc : allN lo hi ds = true := by rfl) : Ok (ixD (.lst ds) (.int (k : Nat)) S) Q := by
  obtain ⟨v, e, h1, h2⟩ := allN_get hc hk
  exact p_ixL (by rw [atI_nat]; exact e) (h v h1 h2)
def az : List Nat := [97, 98, 99, 100, 101, 102, 103, 104, 105, 106, 107, 108, 109, 110, 111, 112, 113, 114, 115, 116, 117, 118, 119, 120, 121, 122]
theorem az_get {i : Nat} (h : i < 26) : ∃ c, az[i]? = some c ∧ 97 ≤ c ∧ c ≤ 122 := by
  have : ∀ c ∈ az, 97 ≤ c ∧ c ≤ 122 := by decide
  exact ⟨az[i]'(by simpa [az] using h), List.getElem?_eq_getElem _, this _ (List.getElem_mem _)⟩
/-- a name's text -/
def Nm (l : List Nat) : Prop := (1 ≤ l.length ∧ l.length ≤ 8) ∧ ∀ c ∈ l, 97 ≤ c ∧ c ≤ 122
theorem Nm.u {l : List Nat} (h : Nm l) : ∀ c ∈ l, c < 1114112 := fun c hc => by have := h.2 c hc; omega
/-- sorted names -/
def sle (a b : List Nat) : Bool := decide (a ≤ b)
theorem dLe_sd (a b : List Nat) : dLe (sd a) (sd b) = sle a b := by
  have e : dLe (sd a) (sd b) = !PySem.W.dataLt (encD (sd b)) (encD (sd a)) := by
    unfold dLe
    rw [PySem.W.dataLe_eq]
    rfl
  rw [e, enc_sd, enc_sd, PySem.W.dataLt_str, PySem.W.not_lt_str]
  rfl
def sortS (xs : List (List Nat)) : List (List Nat) := xs.mergeSort sle
theorem sortS_perm (xs : List (List Nat)) : (sortS xs).Perm xs := List.mergeSort_perm _ _
theorem sortedS {S : Store} (xs : List (List Nat)) (hl : xs.length ≤ 16777216) : sortedD [.lst (xs.map sd)] S = .ok (.lst ((sortS xs).map sd)) S := by
  rw [sortedK (srt_sd xs) (by simpa using hl)]
  unfold sortS
  rw [List.map_mergeSort (f := sd) (r := sle) (s := dLe) (fun a _ b _ => (dLe_sd a b).symm)]
/-- the signs of faces -/
def abd : List Nat := [97, 98, 99, 100, 101, 102, 103, 104, 105, 106, 107, 108, 109, 110, 111, 112, 113, 114, 115, 116, 117, 118, 119, 120, 121, 122, 48, 49, 50, 51, 52, 53, 54, 55, 56, 57]
theorem abd_get {i : Nat} (h : i < 36) : ∃ c, abd[i]? = some c ∧ c ∈ abd :=
  ⟨abd[i]'(by simpa [abd] using h), List.getElem?_eq_getElem _, List.getElem_mem _⟩
theorem abd_u {c : Nat} (h : c ∈ abd) : c < 1114112 := by
  have : ∀ c ∈ abd, c < 1114112 := by decide
  exact this c h
/-- a kind: its face, its sides north, east, south, west -/
structure Kd where
  f : List Nat
  a : List Nat
  b : List Nat
  c : List Nat
  d : List Nat
abbrev kd (k : Kd) : D := .tup [sd k.f, sd k.a, sd k.b, sd k.c, sd k.d]
/-- of these names -/
def KdOk (xs : List (List Nat)) (k : Kd) : Prop := k.f.length ≤ 1 ∧ (∀ c ∈ k.f, c ∈ abd) ∧ ∀ x ∈ [k.a, k.b, k.c, k.d], x = [] ∨ x ∈ xs
abbrev stk (x : List Nat × Nat) : D := .tup [sd x.1, .int x.2]
structure Bed where
  en : Nat
  st : List (List Nat × Nat)
  ks : List Kd
  w : Nat
  h : Nat
  seed : List Tl
abbrev hsd (b : Bed) : D := .tup [.int b.en, .ktp (b.st.map stk), .tup (b.ks.map kd)]
abbrev fld (b : Bed) : D := .tup [.int b.w, .int b.h]
abbrev bedD (b : Bed) : D := .tup [hsd b, fld b, .tup (b.seed.map tl)]
structure HsOk (b : Bed) (m : Nat) : Prop where
  en1 : 1 ≤ b.en
  en4 : b.en ≤ 4
  stl : b.st.length ≤ 5
  nm : ∀ x ∈ b.st, Nm x.1
  sv : ∀ x ∈ b.st, 1 ≤ x.2 ∧ x.2 ≤ 4
  nd : (b.st.map Prod.fst).Nodup
  so : (b.st.map Prod.fst).Pairwise fun a b => sle a b = true
  kl : 1 ≤ b.ks.length
  km : b.ks.length ≤ m
  ko : ∀ k ∈ b.ks, KdOk (b.st.map Prod.fst) k
def KdU (k : Kd) : Prop := (∀ c ∈ k.f, c < 1114112) ∧ (∀ c ∈ k.a, c < 1114112) ∧ (∀ c ∈ k.b, c < 1114112) ∧ (∀ c ∈ k.c, c < 1114112) ∧ ∀ c ∈ k.d, c < 1114112
theorem KdOk.u {xs : List (List Nat)} {k : Kd} (h : KdOk xs k) (hx : ∀ x ∈ xs, Nm x) : KdU k := by
  have p : ∀ x ∈ [k.a, k.b, k.c, k.d], ∀ c ∈ x, c < 1114112 := fun x hm => by
    rcases h.2.2 x hm with e | e
    · subst e; exact fun _ h => (List.not_mem_nil h).elim
    · exact (hx x e).u
  exact ⟨fun c hc => abd_u (h.2.1 c hc), p _ (by simp), p _ (by simp), p _ (by simp), p _ (by simp)⟩
theorem map_getD {α : Type} {f : α → D} {xs : List α} {i : Nat} {y : D} (h : (xs.map f)[i]? = some y) : ∃ x, xs[i]? = some x ∧ y = f x := by
  rw [List.getElem?_map] at h
  cases e : xs[i]? with
  | none => rw [e] at h; cases h
  | some x => rw [e] at h; exact ⟨x, rfl, (Option.some.inj h).symm⟩
theorem no_guardL {I : Nat → Store → List D → Prop} : ∀ j S a, I j S a → gOk [] S := fun _ _ _ _ => fun _ h => (List.not_mem_nil h).elim
theorem no_guardE {α : Type} {I : List α → DSt → Store → Prop} : ∀ l σ S, I l σ S → gOk [] S := fun _ _ _ _ => fun _ h => (List.not_mem_nil h).elim
/-- a standing on the floor w × h of k kinds -/
def TlOk (w h k : Nat) (t : Tl) : Prop := (0 ≤ t.1 ∧ t.1 < w) ∧ (0 ≤ t.2.1 ∧ t.2.1 < h) ∧ (0 ≤ t.2.2 ∧ t.2.2 < k)
def tpl (t : Tl) : Pl := (t.1, t.2.1)
structure Stn (w h k : Nat) (ts : List Tl) : Prop where
  ok : ∀ t ∈ ts, TlOk w h k t
  so : sortT ts = ts
  nd : (ts.map tpl).Nodup
structure BedOk (b : Bed) (m : Nat) : Prop where
  hs : HsOk b m
  w1 : 1 ≤ b.w ∧ b.w ≤ 12
  h1 : 1 ≤ b.h ∧ b.h ≤ 12
  sd : Stn b.w b.h b.ks.length b.seed
theorem sc_hsd (n : Nat) (b : Bed) : (hsd b).sc n = true := by
  have h1 : D.scs n (b.st.map stk) = true := sc_map fun _ => rfl
  have h2 : D.scs n (b.ks.map kd) = true := sc_map fun _ => rfl
  simp only [D.sc, D.scs, h1, h2]
  rfl
theorem sc_bed (n : Nat) (b : Bed) : (bedD b).sc n = true := by
  have h1 : D.scs n (b.st.map stk) = true := sc_map fun _ => rfl
  have h2 : D.scs n (b.ks.map kd) = true := sc_map fun _ => rfl
  have h3 : D.scs n (b.seed.map tl) = true := sc_map fun _ => rfl
  simp only [D.sc, D.scs, h1, h2, h3]
  rfl
def P60 : Int := 10 ^ 60
def far : Int := P60 * P60 * P60 * P60 * P60
theorem far_pos : 0 < far := by unfold far P60; decide +kernel
theorem mw1 : CMulW P60 P60 := by unfold P60; decide +kernel
theorem mw2 : CMulW (P60 * P60) P60 := by unfold P60; decide +kernel
theorem mw3 : CMulW (P60 * P60 * P60) P60 := by unfold P60; decide +kernel
theorem mw4 : CMulW (P60 * P60 * P60 * P60) P60 := by unfold P60; decide +kernel
theorem pow60 (S : Store) : powD (.int 10) (.int 60) S = .ok (.int P60) S := by
  have h : CPowX 10 60 := by decide +kernel
  rw [e_pow, if_pos h]
  rfl
theorem pow18 (S : Store) : powD (.int 10) (.int 18) S = .ok (.int 1000000000000000000) S := by
  have h : CPowX 10 18 := by decide +kernel
  rw [e_pow, if_pos h]
  rfl
theorem begin_ok (ns : List Int) (k : Nat) (hl : ns.length ≤ 63) (hk : k ≤ 100) (S : Store) : Ok (d_law_begin [.frz (ns.map D.int), .int k] S) fun d S' => ∃ a b : Int, 0 ≤ a ∧ 0 ≤ b ∧ d = .loc S.length ∧ S' = S ++ [.lst [.int a, .int b, .int 0]] := by
  unfold d_law_begin
  walk_at "den"
  unfold m_law_begin
  refine w_seq ?_
  refine Wf.mid (fun σ S' => ∃ c : Int, σ = [some (.frz (ns.map D.int)), some (.int k), some (.int c), none, none] ∧ S' = S) ?_ ?_
  · walk_at "vs"
    refine br_dec (fun h => ?_) (fun h => ?_)
    · rw [List.length_map] at h
      obtain ⟨c, hc⟩ : ∃ c, ns[k]? = some c := ⟨_, List.getElem?_eq_getElem (by omega)⟩
      walk_at "vs"
      exact ⟨c, rfl, rfl⟩
    · walk_at "vs"
      exact ⟨0, rfl, rfl⟩
  rintro σ _ ⟨c, rfl, rfl⟩
  walk_at "vs"
  refine k_eq (pow60 _) ?_
  walk_at "vs"
  refine k_eq (pow60 _) ?_
  walk_at "vs"
  refine p_mulW (.inr mw1) ?_
  walk_at "vs"
  refine k_eq (pow60 _) ?_
  walk_at "vs"
  refine p_mulW (.inr mw2) ?_
  walk_at "vs"
  refine k_eq (pow60 _) ?_
  walk_at "vs"
  refine p_mulW (.inr mw3) ?_
  walk_at "vs"
  refine k_eq (pow60 _) ?_
  walk_at "vs"
  refine p_mulW (.inr mw4) ?_
  rw [show P60 * P60 * P60 * P60 * P60 = far from rfl]
  have hf := far_pos
  walk_at "vs"
  obtain ⟨A, hA, hA0⟩ : ∃ A : Int, c % far = A ∧ 0 ≤ A := ⟨_, rfl, Int.emod_nonneg _ (by omega)⟩
  rw [hA]
  walk_at "vs"
  refine k_eq (pow18 _) ?_
  walk_at "vs"
  refine ⟨_, _, Int.mul_nonneg hA0 ?_, Int.emod_nonneg _ (by omega), rfl, rfl⟩
  split <;> omega
theorem pot_new {ns : List Int} {k : Nat} {S : Store} {Q : D → Store → Prop} (hl : ns.length ≤ 63) (hk : k ≤ 100) (h : ∀ (p : Nat) (S' : Store), Pot S' p 0 → Q (.loc p) S') : Ok (d_law_begin [.frz (ns.map D.int), .int k] S) Q := by
  obtain ⟨d, S', e, a, b, h1, h2, rfl, rfl⟩ := begin_ok ns k hl hk S
  exact k_eq e (h _ _ ⟨a, b, 0, by simp, h1, h2, by omega, by omega⟩)
/-! ### comprehensions over a dict from places -/
open Classical in
theorem lockE_dct {md m : DSt → Store → Res D} {σ : DSt} {S : Store} {l : Nat} {o : Ob} (e : md σ S = .ok (.loc l) S) (h : S[l]? = some o) (hd : o.isDct = true) : lockE md m σ S = (match m σ (S.set l (.lck o)) with
    | .ok d S' => if S'[l]? = some (.lck o) then .ok d (S'.set l o) else .stuck
    | _ => .stuck) := by
  have : dctAt md σ S = some (l, o) := by
    unfold dctAt
    rw [e]
    simp only [if_pos, h, hd]
  unfold lockE
  simp only [this] <;> rfl
theorem set_back {S : Store} {l : Nat} {o o' : Ob} (h : S[l]? = some o) : (S.set l o').set l o = S := by
  rw [List.set_set]
  obtain ⟨h1, h2⟩ := List.getElem?_eq_some_iff.mp h
  rw [← h2, List.set_getElem_self]
theorem get_set {S : Store} {l : Nat} {o o' : Ob} (h : S[l]? = some o) : (S.set l o')[l]? = some o' := List.getElem?_set_self (List.getElem?_eq_some_iff.mp h).1
section
variable {σ : DSt} {S : Store} {Q : D → Store → Prop} {m : Mp} {l : Nat} {md : DSt → Store → Res D} {g : D → DSt → Store → Res DSt} {ta : DSt → Store → Res Bool} {a : DSt → Store → Res D} {vs : List Nat}
/-- the keys -/
theorem k_lcKeys (p : Pl × Int → Bool) (h : Pl × Int → D) (e : ∀ S', md σ S' = .ok (.loc l) S') (hS : S[l]? = some (.dT (mpD m))) (hl : m.length ≤ 16777216)
    (hs : ∀ x ∈ m, ∀ SL σ', dwipe σ vs = σ' → S.set l (.lck (.dT (mpD m))) = SL → SL[l]? = some (.lck (.dT (mpD m))) → Ok (g (pl x.1) σ' SL) fun σ S' => Ok (ta σ S') fun t S' => t = p x ∧ Br (p x) (Ok (a σ S') fun y S' => y = h x ∧ S' = SL) (S' = SL))
    (he : Q (.lst ((m.filter p).map h)) S) : Ok (lockE md (mLc (mAnyI md) g ta a vs) σ S) Q := by
  rw [lockE_dct (e S) hS rfl]
  have key : Ok (mLc (mAnyI md) g ta a vs σ (S.set l (.lck (.dT (mpD m))))) fun d S' => d = .lst ((m.filter p).map h) ∧ S' = S.set l (.lck (.dT (mpD m))) := by
    refine k_lc ?_
    have hi : anySrc (.loc l) (S.set l (.lck (.dT (mpD m)))) = some ⟨m.map fun q => pl q.1, [(l, .lck (.dT (mpD m)))]⟩ := by
      have h1 : seqSrc (.loc l) (S.set l (.lck (.dT (mpD m)))) = none := by simp [seqSrc, get_set hS]
      simp only [anySrc, h1, keySrc, get_set hS]
      rw [if_pos (by rw [mpD_len, size_eq]; exact hl)]
      simp only [mpD, List.map_map]
      rfl
    unfold mAnyI
    rw [e]
    simp only [Res.bind_ok, hi]
    refine k_ok ?_
    rintro σ' hσ
    refine k_lcP p h ?_ (fun x hx => hs x hx _ σ' hσ rfl (get_set hS)) ⟨rfl, rfl⟩
    simp [get_set hS]
  obtain ⟨d, S', e1, rfl, rfl⟩ := key
  rw [e1]
  simp only [get_set hS, if_pos]
  rw [set_back hS]
  exact k_ok he
theorem p_setM {q : Pl} {k : Int} {Q : Unit → Store → Prop} (hS : S[l]? = some (.dT (mpD m))) (hl : m.length < 16777216) (h : ∀ S', S.set l (.dT (mpD (m.put q k))) = S' → Q () S') : Ok (setD (.loc l) (.tup [.int q.1, .int q.2]) (.int k) S) Q := by
  refine p_setT (key := pk q) hS rfl (by rw [mpD_len]; exact hl) ?_
  rw [mpD_put]
  exact h
end
/-! ### beds drawn so -/
section
variable {S : Store} {Q : D → Store → Prop}
end
/-- names, kinds -/
structure HsB (b : Bed) : Prop where
  en : 1 ≤ b.en ∧ b.en ≤ 4
  sl : b.st.length ≤ 4
  nm : ∀ x ∈ b.st, Nm x.1
  sv : ∀ x ∈ b.st, 1 ≤ x.2 ∧ x.2 ≤ 4
  kl : 1 ≤ b.ks.length
  km : b.ks.length ≤ 13
  ko : ∀ k ∈ b.ks, KdOk (b.st.map Prod.fst) k
theorem nm_rep {c m : Nat} (h : 97 ≤ c ∧ c ≤ 122) (h1 : 1 ≤ m) (h2 : m ≤ 8) : Nm (List.replicate m c) := ⟨by rw [List.length_replicate]; omega, fun x hx => by rw [List.eq_of_mem_replicate hx]; exact h⟩
theorem names_ok {p m : Nat} (hm : 1 ≤ m ∧ m ≤ 4) : ∀ S N, N ≤ 900000000 → Pot S p N → Ok (d_law_names [.loc p, .int m] S) fun d S' => Fr S p (N + 3) S' ∧ ∃ xs : List (List Nat), xs.length = m ∧ (∀ x ∈ xs, Nm x) ∧ d = .lst (xs.map sd) := by
  intro S0 N hN h
  unfold d_law_names
  refine gc_fr (p := p) (N := N + 3) ?_
  walk_at "den"
  unfold m_law_names
  have hF := Fr.refl h
  obtain ⟨n, hl⟩ : ∃ n, S0.length = n := ⟨_, rfl⟩
  rw [show lc_az = az from rfl]
  walk_at "vs"
  refine k_next0 hF hl fun a S ha hF hl => ?_
  walk_at "vs"
  refine k_next0 hF hl fun q S hq hF hl => ?_
  refine p_pick 1 11 (by simp; omega) (fun st h1 h2 => ?_)
  walk_at "vs"
  refine k_next0 hF hl fun w S hw hF hl => ?_
  walk_at "vs"
  refine br_dec (fun h0 => ?_) (fun h0 => ?_)
  · walk_at "vs"
    refine rng_of (m := m) rfl (by omega) ?_
    walk_at "vs"
    obtain ⟨c, hc, hc2⟩ := az_get (i := a) (by omega)
    refine k_lcM1 (fun k : Nat => sd (List.replicate (k + 1) c)) (fun _ h => (List.not_mem_nil h).elim) (fun k hk => ?_) ?_
    · unfold e1_law_names
      walk_at "vs"
      refine p_ixS (c := c) (by decide) (by rw [atI_nat]; exact hc) ?_
      walk_at "vs"
      rw [show ((k : Int) + 1) = ((k + 1 : Nat) : Int) from rfl]
      refine p_mulS (by have := List.mem_range.mp hk; omega) ?_
      exact ⟨rfl, rfl⟩
    · rw [show ((List.range m).map fun k : Nat => sd (List.replicate (k + 1) c)) = ((List.range m).map fun k => List.replicate (k + 1) c).map sd by rw [List.map_map]; rfl]
      refine ⟨S, [], by simp, hF, sc_map fun _ => rfl, hF, _, by simp, fun x hx => ?_, rfl⟩
      obtain ⟨k, hk, rfl⟩ := List.mem_map.mp hx
      have := List.mem_range.mp hk
      exact nm_rep hc2 (by omega) (by omega)
  · walk_at "vs"
    refine rng_of (m := m) rfl (by omega) ?_
    walk_at "vs"
    refine k_lcI (fun k S' acc => ∃ xs : List (List Nat), S' = S ∧ acc = xs.map sd ∧ xs.length = k ∧ ∀ x ∈ xs, Nm x) ⟨[], rfl, rfl, rfl, fun _ h => (List.not_mem_nil h).elim⟩ no_guardL ?_ ?_
    · rintro j d S' acc hd ⟨xs, rfl, rfl, hxl, hxs⟩
      obtain ⟨k, hk, rfl⟩ := map_getD hd
      have hk4 : k < 4 := by
        have h1 := (List.getElem?_eq_some_iff.mp hk).1
        have h2 := (List.getElem?_eq_some_iff.mp hk).2
        rw [List.getElem_range] at h2
        rw [List.length_range] at h1
        omega
      unfold e2_law_names
      walk_at "vs"
      obtain ⟨v, hv, hv2⟩ : ∃ v : Nat, ((a : Int) + (st : Int) * (k : Int)) % 26 = (v : Int) ∧ v < 26 := by
        refine ⟨((a + st * k) % 26), by push_cast; rfl, Nat.mod_lt _ (by omega)⟩
      rw [hv]
      obtain ⟨c, hc, hc2⟩ := az_get hv2
      refine p_ixS (c := c) (by decide) (by rw [atI_nat]; exact hc) ?_
      walk_at "vs"
      obtain ⟨u, hu, hu2⟩ : ∃ u : Nat, (1 : Int) + ((k : Int) * (k : Int) + (a : Int)) % 8 = (u : Int) ∧ 1 ≤ u ∧ u ≤ 8 := by
        refine ⟨1 + ((k * k + a) % 8), by push_cast; rfl, by omega, ?_⟩
        have := Nat.mod_lt (k * k + a) (show 0 < 8 by omega)
        omega
      rw [hu]
      refine p_mulS (by omega) ?_
      refine ⟨xs ++ [List.replicate u c], rfl, by rw [List.map_append]; rfl, by simp [hxl], fun x hx => ?_⟩
      rcases List.mem_append.mp hx with h | h
      · exact hxs x h
      · rw [List.mem_singleton.mp h]; exact nm_rep hc2 hu2.1 hu2.2
    · rintro _ S' ⟨xs, rfl, rfl, hxl, hxs⟩
      rw [List.length_map, List.length_range] at hxl
      walk_at "vs"
      refine k_eq (sortedS xs (by omega)) ?_
      have hp := sortS_perm xs
      exact ⟨S', [], by simp, hF, sc_map fun _ => rfl, hF, _, by rw [hp.length_eq, hxl], fun x hx => hxs x (hp.mem_iff.mp hx), rfl⟩
theorem kind_ok {p : Nat} {ys : List (List Nat)} (hy : ys.length ≤ 4) : ∀ S N, N ≤ 900000000 → Pot S p N → Ok (d_law_kind [.loc p, .lst (ys.map sd)] S) fun d S' => Fr S p (N + 6) S' ∧ ∃ k : Kd, KdOk ys k ∧ d = kd k := by
  intro S0 N hN h
  unfold d_law_kind
  refine gc_fr (p := p) (N := N + 6) ?_
  walk_at "den"
  unfold m_law_kind
  have hF := Fr.refl h
  obtain ⟨n, hl⟩ : ∃ n, S0.length = n := ⟨_, rfl⟩
  rw [show lc_azd = abd from rfl]
  walk_at "vs"
  refine k_next0 hF hl fun a S ha hF hl => ?_
  walk_at "vs"
  obtain ⟨c, hc, hc2⟩ := abd_get (i := a) (by omega)
  refine p_ixS (c := c) (by decide) (by rw [atI_nat]; exact hc) ?_
  walk_at "vs"
  refine k_next0 hF hl fun q S hq hF hl => ?_
  obtain ⟨f, hf, hf1, hf2⟩ : ∃ f : List Nat, ([D.str (tx []), .str (tx [c])] : List D)[q]? = some (sd f) ∧ f.length ≤ 1 ∧ ∀ x ∈ f, x ∈ abd := by
    have : q = 0 ∨ q = 1 := by omega
    rcases this with rfl | rfl
    · exact ⟨[], rfl, by simp, by simp⟩
    · exact ⟨[c], rfl, by simp, by simpa using hc2⟩
  refine p_ixL (by rw [atI_nat]; exact hf) ?_
  walk_at "vs"
  refine rng_of (m := 4) rfl (by omega) ?_
  walk_at "vs"
  refine k_lcI (fun k S' acc => ∃ (S1 : Store) (zs : List (List Nat)), S' = S1 ∧ Fr S0 p (N + 2 + k) S1 ∧ S1.length = n ∧ acc = zs.map sd ∧ zs.length = k ∧ ∀ x ∈ zs, x = [] ∨ x ∈ ys) ⟨S, [], rfl, hF, hl, rfl, rfl, fun _ h => (List.not_mem_nil h).elim⟩ no_guardL ?_ ?_
  · rintro j d S' acc hd ⟨S, zs, rfl, hF, hl, rfl, hzl, hzs⟩
    have hj : j < 4 := by have := (List.getElem?_eq_some_iff.mp hd).1; simpa using this
    unfold e1_law_kind
    walk_at "vs"
    rw [List.length_map]
    refine k_next0 hF hl fun v S hv hF hl => ?_
    obtain ⟨z, hz, hz2⟩ : ∃ z : List Nat, ([D.str (tx [])] ++ ys.map sd)[v]? = some (sd z) ∧ (z = [] ∨ z ∈ ys) := by
      rcases v with _ | v
      · exact ⟨[], rfl, .inl rfl⟩
      · have hlt : v < ys.length := by omega
        exact ⟨ys[v], by simp [hlt], .inr (List.getElem_mem hlt)⟩
    refine p_ixL (by rw [atI_nat]; exact hz) ?_
    refine ⟨S, zs ++ [z], rfl, hF, hl, by simp, by simp [hzl], fun x hx => ?_⟩
    rcases List.mem_append.mp hx with h | h
    · exact hzs x h
    · rw [List.mem_singleton.mp h]; exact hz2
  · rintro _ S' ⟨S, zs, rfl, hF, hl, rfl, hzl, hzs⟩
    rw [List.length_map, List.length_range] at hzl hF
    obtain ⟨x1, x2, x3, x4, rfl⟩ : ∃ a b c d, zs = [a, b, c, d] := by
      rcases zs with _ | ⟨a, _ | ⟨b, _ | ⟨c, _ | ⟨d, _ | ⟨e, r⟩⟩⟩⟩⟩ <;> simp at hzl
      exact ⟨a, b, c, d, rfl⟩
    simp only [List.map_cons, List.map_nil]
    walk_at "vs"
    exact ⟨S', [], by simp, hF.mono (by omega), rfl, hF.mono (by omega), ⟨f, x1, x2, x3, x4⟩, ⟨hf1, hf2, hzs⟩, rfl⟩
theorem house_ok {p : Nat} : ∀ S N, N ≤ 800000000 → Pot S p N → Ok (d_law_house [.loc p] S) fun d S' => Fr S p (N + 200) S' ∧ ∃ b : Bed, HsB b ∧ d = hsd b := by
  intro S0 N hN h
  unfold d_law_house
  refine gc_fr (p := p) (N := N + 200) ?_
  walk_at "den"
  unfold m_law_house
  have hF := Fr.refl h
  obtain ⟨n, hl⟩ : ∃ n, S0.length = n := ⟨_, rfl⟩
  have h0l := hl
  have hlt := h.lt
  walk_at "vs"
  refine k_next0 hF hl fun a S ha hF hl => ?_
  walk_at "vs"
  rw [show ((1 : Int) + (a : Int)) = ((1 + a : Nat) : Int) by push_cast; rfl]
  refine k_lift0 (names_ok (m := 1 + a) (by omega)) hF hl ?_
  rintro _ S ⟨ys, hyl, hyn, rfl⟩ hF hl
  walk_at "vs"
  refine k_next0 hF hl fun q S hq hF hl => ?_
  refine p_pick 1 4 (by simp; omega) (fun en hen1 hen4 => ?_)
  walk_at "vs"
  refine k_lcI (fun k S' acc => ∃ st : List (List Nat × Nat), acc = st.map stk ∧ st.map Prod.fst = ys.take k ∧ (∀ x ∈ st, 1 ≤ x.2 ∧ x.2 ≤ 4) ∧ Fr S0 p (N + 5 + 2 * k) S' ∧ S'.length = n) ⟨[], rfl, rfl, fun _ h => (List.not_mem_nil h).elim, hF, hl⟩ no_guardL ?_ ?_
  · rintro j d S acc hd ⟨st, rfl, hst, hsv, hF, hl⟩
    obtain ⟨y, hy, rfl⟩ := map_getD hd
    have hj := (List.getElem?_eq_some_iff.mp hy).1
    unfold e1_law_house
    walk_at "vs"
    refine k_next0 hF hl fun v S hv hF hl => ?_
    walk_at "vs"
    refine k_next0 hF hl fun w S hw hF hl => ?_
    obtain ⟨z, hz, hz1⟩ : ∃ z : Nat, ([D.int 1, .int 2, .int 1, .int (1 + (v : Int))] : List D)[w]? = some (.int z) ∧ 1 ≤ z ∧ z ≤ 4 := by
      have : w = 0 ∨ w = 1 ∨ w = 2 ∨ w = 3 := by omega
      rcases this with rfl | rfl | rfl | rfl
      · exact ⟨1, rfl, by omega, by omega⟩
      · exact ⟨2, rfl, by omega, by omega⟩
      · exact ⟨1, rfl, by omega, by omega⟩
      · exact ⟨1 + v, rfl, by omega, by omega⟩
    refine p_ixL (by rw [atI_nat]; exact hz) ?_
    walk_at "vs"
    refine ⟨st ++ [(y, z)], by simp [stk], by rw [List.map_append, hst, List.take_succ, hy]; rfl, fun x hx => ?_, hF.mono (by omega), hl⟩
    rcases List.mem_append.mp hx with h | h
    · exact hsv x h
    · rw [List.mem_singleton.mp h]; exact hz1
  · rintro _ S ⟨st, rfl, hst, hsv, hF, hl⟩
    rw [List.length_map] at hF
    rw [List.length_map, List.take_length] at hst
    have hst4 : st.length ≤ 4 := by
      have := congrArg List.length hst
      rw [List.length_map] at this
      omega
    walk_at "vs"
    refine k_next0 hF hl fun q2 S hq2 hF hl => ?_
    refine p_pick 3 12 (by simp; omega) (fun mx hmx1 hmx2 => ?_)
    walk_at "vs"
    refine k_next0 hF hl fun c S hc hF hl => ?_
    walk_at "vs"
    refine rng_of (m := 1 + c) (by push_cast; rfl) (by omega) ?_
    walk_at "vs"
    refine k_lcI (fun k S' acc => ∃ (S1 : Store) (ks : List Kd), S' = S1 ∧ Fr S0 p (N + 20 + 6 * k) S1 ∧ S1.length = n ∧ acc = ks.map kd ∧ ks.length = k ∧ ∀ x ∈ ks, KdOk ys x) ⟨S, [], rfl, hF.mono (by omega), hl, rfl, rfl, fun _ h => (List.not_mem_nil h).elim⟩ no_guardL ?_ ?_
    · rintro j d S' acc hd ⟨S, ks, rfl, hF, hl, rfl, hkl, hks⟩
      have hj : j < 1 + c := by have := (List.getElem?_eq_some_iff.mp hd).1; simpa using this
      unfold e2_law_house
      walk_at "vs"
      refine k_lift0 (kind_ok (ys := ys) (by omega)) hF hl ?_
      rintro _ S ⟨k, hk, rfl⟩ hF hl
      refine ⟨S, ks ++ [k], rfl, hF.mono (by omega), hl, by simp, by simp [hkl], fun x hx => ?_⟩
      rcases List.mem_append.mp hx with h | h
      · exact hks x h
      · rw [List.mem_singleton.mp h]; exact hk
    · rintro _ S' ⟨S, ks, rfl, hF, hl, rfl, hkl, hks⟩
      rw [List.length_map, List.length_range] at hkl hF
      rw [hl]
      walk_at "vp"
      refine Wf.mid (fun σ S' => ∃ (S1 : Store) (ks : List Kd), S' = S1 ++ [.lst (ks.map kd)] ∧ Fr S0 p (N + 190) S1 ∧ S1.length = n ∧ (1 ≤ ks.length ∧ ks.length ≤ 13) ∧ (∀ x ∈ ks, KdOk ys x) ∧ σ = [some (.loc p), some (.lst (ys.map sd)), some (.int en), some (.ktp (st.map stk)), some (.loc n), none, none]) ?_ ?_
      · walk_at "vs"
        refine k_next hF hl fun o S ho hF hl => ?_
        walk_at "vs"
        refine br_dec (fun h0 => ?_) (fun h0 => ?_)
        · walk_at "vs"
          rw [List.length_map]
          refine k_next hF hl fun u S hu hF hl => ?_
          have hul : u < ks.length := by omega
          refine p_ixO (by walk_at "st") (d := kd ks[u]) (by rw [atI_nat, List.getElem?_map, List.getElem?_eq_getElem hul]; rfl) ?_
          walk_at "vs"
          refine ⟨S, ks ++ [ks[u]], by rw [List.map_append]; rfl, hF.mono (by omega), hl, by simp; omega, fun x hx => ?_, rfl⟩
          rcases List.mem_append.mp hx with h | h
          · exact hks x h
          · rw [List.mem_singleton.mp h]; exact hks _ (List.getElem_mem hul)
        · walk_at "vs"
          exact ⟨S, ks, rfl, hF.mono (by omega), hl, by omega, hks, rfl⟩
      · rintro σ S' ⟨S, ks, rfl, hF, hl, hkl, hks, rfl⟩
        walk_at "vs"
        refine ⟨S, _, rfl, hF.mono (by omega), ?_, hF.mono (by omega), ⟨en, st, ks, 0, 0, []⟩, ⟨⟨hen1, hen4⟩, hst4, fun x hx => ?_, hsv, hkl.1, hkl.2, ?_⟩, rfl⟩
        · exact sc_hsd _ ⟨en, st, ks, 0, 0, []⟩
        · have : x.1 ∈ ys := by rw [← hst]; exact List.mem_map_of_mem hx
          exact hyn x.1 this
        · simp only [hst]; exact hks
theorem p_ixLck {S : Store} {l : Nat} {mm : Mp} {q : Pl} {k : Int} {Q : D → Store → Prop} (e : S[l]? = some (.lck (.dT (mpD mm)))) (h : mm.get q = some k) (hq : Q (.int k) S) : Ok (ixD (.loc l) (.tup [.int q.1, .int q.2]) S) Q := by
  have h3 : dlook S (.loc l) (.tup [.int q.1, .int q.2]) = some (lookK (mpD mm) (pk q)) := by simp [dlook, e, obK, obT, keyOf, keysOf, pk]
  have h4 : seqOf S (.loc l) = none := by simp [seqOf, rdL, exL, rdT, e]
  rw [mpD_look, h] at h3
  exact k_eq (by simp only [ixD, h4, h3, Option.map_some] <;> rfl) hq
theorem mp_get {mm : Mp} (hn : (mm.map Prod.fst).Nodup) {e : Pl × Int} (he : e ∈ mm) : mm.get e.1 = some e.2 := by
  unfold Mp.get
  induction mm with
  | nil => exact absurd he List.not_mem_nil
  | cons a mm ih =>
    rw [List.map_cons, List.nodup_cons] at hn
    rw [List.find?_cons]
    rcases List.mem_cons.mp he with rfl | he'
    · simp
    · have hne : ¬ a.1 = e.1 := fun z => hn.1 (z ▸ List.mem_map_of_mem he')
      simp only [decide_eq_false hne]
      exact ih hn.2 he'
theorem standing_ok {p m : Nat} {b : Bed} (hm : m ≤ 1000) (hk : 1 ≤ b.ks.length ∧ b.ks.length ≤ 1000) (hw : 1 ≤ b.w ∧ b.w ≤ 12) (hh : 1 ≤ b.h ∧ b.h ≤ 12) : ∀ S N, N ≤ 800000000 → Pot S p N → Ok (d_law_standing [.loc p, hsd b, fld b, .int m] S) fun d S' => Fr S p (N + (1 + 3 * m)) S' ∧ ∃ ts : List Tl, Stn b.w b.h b.ks.length ts ∧ ts.length ≤ m ∧ d = .tup (ts.map tl) := by
  intro S0 N hN h
  unfold d_law_standing
  refine gc_fr (p := p) (N := N + (1 + 3 * m)) ?_
  walk_at "den"
  unfold m_law_standing
  have hF := Fr.refl h
  obtain ⟨n, hl⟩ : ∃ n, S0.length = n := ⟨_, rfl⟩
  have h0l := hl
  have hlt := h.lt
  walk_at "vs"
  rw [h0l]
  refine k_next hF hl fun q S hq hF hl => ?_
  walk_at "vs"
  refine rng_of (m := q) rfl (by omega) ?_
  refine w_each (fun l σ S' => ∃ (S1 : Store) (mm : Mp) (x5 x6 : Option D), S' = S1 ++ [.dT (mpD mm)] ∧ Fr S0 p (N + 1 + 3 * l.length) S1 ∧ S1.length = n ∧ mm.length ≤ l.length ∧ (mm.map Prod.fst).Nodup ∧ (∀ e ∈ mm, TlOk b.w b.h b.ks.length (e.1.1, e.1.2, e.2)) ∧
    σ = [some (.loc p), some (hsd b), some (fld b), some (.int m), some (.loc n), x5, x6]) ⟨S, [], none, none, rfl, hF, hl, by simp, List.nodup_nil, fun _ h => (List.not_mem_nil h).elim, rfl⟩ no_guardE ?_ ?_
  · rintro l k r σ S' e0 ⟨S, mm, x5, x6, rfl, hF, hl, hml, hmn, hmo, rfl⟩
    have hll : l.length < q := by
      have := congrArg List.length e0
      simp at this
      omega
    unfold b1_law_standing
    walk_at "vs"
    refine k_next hF hl fun x S hx hF hl => ?_
    walk_at "vs"
    refine k_next hF hl fun y S hy hF hl => ?_
    walk_at "vs"
    rw [List.length_map]
    refine k_next hF hl fun kk S hkk hF hl => ?_
    walk_at "vs"
    refine p_setM (q := ((x : Int), (y : Int))) (by walk_at "st") (by omega) ?_
    walk_at "vs"
    refine ⟨S, _, _, _, rfl, hF.mono (by rw [List.length_append, List.length_singleton]; omega), hl, ?_, Mp.put_nodup hmn _ _, Mp.put_all hmo ?_, rfl⟩
    · have := Mp.put_len mm ((x : Int), (y : Int)) (kk : Int)
      rw [List.length_append]; simp; omega
    · refine ⟨⟨by simp, by simpa using hx⟩, ⟨by simp, by simpa using hy⟩, ⟨by simp, by simpa using hkk⟩⟩
  · rintro σ S' ⟨S, mm, x5, x6, rfl, hF, hl, hml, hmn, hmo, rfl⟩
    rw [List.length_range] at hml hF
    walk_at "vs"
    refine k_lcKeys (fun _ => true) (fun e => tl (e.1.1, e.1.2, e.2)) (fun _ => rfl) (by walk_at "st") (by omega) (fun e he SL σ' h1 h2 h3 => ?_) ?_
    · simp only [dwipe, List.set_cons_zero, List.set_cons_succ] at h1
      subst h1
      unfold e1_law_standing
      walk_at "vs"
      refine p_ixLck (q := e.1) h3 (mp_get hmn he) ?_
      walk_at "vs"
      exact ⟨rfl, rfl⟩
    rw [List.filter_eq_self.mpr (by simp)]
    rw [show (mm.map fun e => tl (e.1.1, e.1.2, e.2)) = (mm.map fun e => ((e.1.1, e.1.2, e.2) : Tl)).map tl by rw [List.map_map]; rfl]
    walk_at "vs"
    refine k_eq (sorted_tl (by simp; omega)) ?_
    walk_at "vs"
    refine ⟨S, _, rfl, hF.mono (by omega), ?_, hF.mono (by omega), _, ⟨fun t ht => ?_, sortT_idem _, ?_⟩, ?_, rfl⟩
    · simp only [D.sc]
      exact sc_map fun _ => rfl
    · obtain ⟨e, he, rfl⟩ := List.mem_map.mp (sortT_mem.mp ht)
      exact hmo e he
    · have hp := (sortBy_perm tk (mm.map fun e => ((e.1.1, e.1.2, e.2) : Tl))).map tpl
      refine hp.nodup_iff.mpr ?_
      rw [List.map_map]
      exact hmn
    · rw [sortT_len]; simp; omega
theorem bed_ok {p : Nat} : ∀ S N, N ≤ 700000000 → Pot S p N → Ok (d_law_bed [.loc p] S) fun d S' => Fr S p (N + 250) S' ∧ ∃ b : Bed, HsB b ∧ (1 ≤ b.w ∧ b.w ≤ 12) ∧ (1 ≤ b.h ∧ b.h ≤ 12) ∧ Stn b.w b.h b.ks.length b.seed ∧ b.seed.length ≤ 6 ∧ d = bedD b := by
  intro S0 N hN h
  unfold d_law_bed
  refine gc_fr (p := p) (N := N + 250) ?_
  walk_at "den"
  unfold m_law_bed
  have hF := Fr.refl h
  obtain ⟨n, hl⟩ : ∃ n, S0.length = n := ⟨_, rfl⟩
  walk_at "vs"
  refine k_lift0 house_ok hF hl ?_
  rintro _ S ⟨b, hb, rfl⟩ hF hl
  walk_at "vs"
  refine k_next0 hF hl fun w S hw hF hl => ?_
  walk_at "vs"
  refine k_next0 hF hl fun q S hq hF hl => ?_
  refine p_pick 5 12 (by simp; omega) (fun mx h1 h2 => ?_)
  walk_at "vs"
  refine k_next0 hF hl fun c S hc hF hl => ?_
  walk_at "vp"
  refine Wf.mid (fun σ S' => ∃ w h : Nat, (1 ≤ w ∧ w ≤ 12 ∧ 1 ≤ h ∧ h ≤ 12) ∧ σ = [some (.loc p), some (hsd b), some (.tup [.int w, .int h])] ∧ Fr S0 p (N + 204) S' ∧ S'.length = n) ?_ ?_
  · walk_at "vs"
    refine k_next0 hF hl fun o S ho hF hl => ?_
    walk_at "vs"
    refine br_dec (fun h0 => ?_) (fun h0 => ?_)
    · walk_at "vs"
      refine k_eq (x := .tup [.int ((1 + c : Nat) : Int), .int ((1 + w : Nat) : Int)]) (S := S) rfl ?_
      walk_at "vs"
      exact ⟨1 + c, 1 + w, by omega, rfl, hF, hl⟩
    · walk_at "vs"
      exact ⟨1 + w, 1 + c, by omega, by push_cast; rfl, hF, hl⟩
  rintro σ S ⟨w, h, hwh, rfl, hF, hl⟩
  walk_at "vs"
  refine k_next0 hF hl fun q S hq hF hl => ?_
  refine p_pick 1 6 (by simp; omega) (fun mx h1 h2 => ?_)
  walk_at "vs"
  refine k_lift0 (standing_ok (b := ⟨b.en, b.st, b.ks, w, h, []⟩) (m := mx) (by omega) ⟨hb.kl, by have := hb.km; simp only; omega⟩ (by simp only; omega) (by simp only; omega)) hF hl ?_
  rintro _ S ⟨ts, hts, htl, rfl⟩ hF hl
  walk_at "vs"
  refine ⟨S, [], by simp, hF.mono (by omega), sc_bed _ ⟨b.en, b.st, b.ks, w, h, ts⟩, hF.mono (by omega), ⟨b.en, b.st, b.ks, w, h, ts⟩, ⟨hb.en, hb.sl, hb.nm, hb.sv, hb.kl, hb.km, hb.ko⟩, by simp only; omega, by simp only; omega, hts, by simp only; omega, rfl⟩
/-! ### dicts with names as keys; pairs of a name and a number in order -/
section
variable {S : Store} {l : Nat} {kvs ps : List (Key × D)} {k : Key} {i v d : D}
theorem p_ixK {Q : D → Store → Prop} (e : S[l]? = some (.dK kvs)) (hk : keyOf i = some k) (hl : lookK kvs k = some d) (h : Q d S) : Ok (ixD (.loc l) i S) Q := by
  have h3 : dlook S (.loc l) i = some (some d) := by simp [dlook, e, obK, hk, hl]
  have h4 : seqOf S (.loc l) = none := by simp [seqOf, rdL, exL, rdT, e]
  exact k_eq (by simp only [ixD, h4, h3] <;> rfl) h
end
theorem pairsK_sd {α : Type} {f : α → List Nat} {g : α → D} : ∀ xs : List α, pairsK (xs.map fun x => D.tup [sd (f x), g x]) = some (xs.map fun x => (Sum.inr (tx (f x)), g x))
  | [] => rfl
  | x :: xs => by
    have ih := pairsK_sd (f := f) (g := g) xs
    simp only [sd] at ih
    simp only [List.map_cons, pairsK, keyOf, sd, ih]
theorem putD_len {κ : Type} [DecidableEq κ] (kvs : List (κ × D)) (k : κ) (v : D) : (putD kvs k v).length ≤ kvs.length + 1 := by
  unfold putD; split <;> simp
theorem mergeD_len {κ : Type} [DecidableEq κ] : ∀ (ps acc : List (κ × D)), (mergeD acc ps).length ≤ acc.length + ps.length
  | [], acc => by simp [mergeD]
  | p :: ps, acc => by
    have h := mergeD_len ps (putD acc p.1 p.2)
    have h2 := putD_len acc p.1 p.2
    show (mergeD (putD acc p.1 p.2) ps).length ≤ _
    rw [List.length_cons]
    omega
theorem nd_at {α β : Type} {f : α → β} {xs : List α} (h : (xs.map f).Nodup) {i j : Nat} {a b : α} (ha : xs[i]? = some a) (hb : xs[j]? = some b) (e : f a = f b) : i = j := by
  obtain ⟨hi, rfl⟩ := List.getElem?_eq_some_iff.mp ha
  obtain ⟨hj, rfl⟩ := List.getElem?_eq_some_iff.mp hb
  have p := List.pairwise_iff_getElem.mp h
  rcases Nat.lt_trichotomy i j with z | z | z
  · exact absurd (by rw [List.getElem_map, List.getElem_map]; exact e) (p i j (by simpa using hi) (by simpa using hj) z)
  · exact z
  · exact absurd (by rw [List.getElem_map, List.getElem_map]; exact e.symm) (p j i (by simpa using hj) (by simpa using hi) z)
theorem pairsT_pl {α : Type} {f : α → Pl} {g : α → D} : ∀ xs : List α, pairsT (xs.map fun x => D.tup [pl (f x), g x]) = some (xs.map fun x => (pk (f x), g x))
  | [] => rfl
  | x :: xs => by
    have ih := pairsT_pl (f := f) (g := g) xs
    simp only [pl] at ih
    simp only [List.map_cons, pairsT, keysOf, keyOf, pl, pk, ih]
theorem p_dictT {S : Store} {ps : List (List Key × D)} {Q : D → Store → Prop} {es : List D} (e : pairsT es = some ps) (h : Q (.loc S.length) (S ++ [.dT (mergeD [] ps)])) : Ok (dictD true [.lst es] S) Q := by
  have : dictD true [.lst es] S = .ok (.loc S.length) (S ++ [.dT (mergeD [] ps)]) := by
    have h1 : rdL S (.lst es) = some es := rfl
    simp only [dictD, h1, e]
    rfl
  exact k_eq this h
theorem look_pl {α : Type} {f : α → Pl} {g : α → D} {xs : List α} (hn : (xs.map f).Nodup) (q : Pl) : lookK (mergeD [] (xs.map fun x => (pk (f x), g x))) (pk q) = (xs.find? fun x => decide (f x = q)).map g := by
  cases e : xs.find? fun x => decide (f x = q) with
  | none =>
    rw [lookK_merge_none]
    · rfl
    · intro p hp
      obtain ⟨x, hx, rfl⟩ := List.mem_map.mp hp
      have := List.find?_eq_none.mp e x hx
      rw [decide_eq_true_eq] at this
      exact fun z => this (pk_inj z)
  | some x =>
    have hx := List.mem_of_find?_eq_some e
    have hq : f x = q := by simpa using List.find?_some e
    refine lookK_merge_some _ _ _ _ (fun p hp e1 => ?_) (.inr ⟨_, List.mem_map_of_mem hx, by rw [hq]⟩)
    obtain ⟨y, hy, rfl⟩ := List.mem_map.mp hp
    have e2 : f y = f x := by rw [hq]; exact pk_inj e1
    obtain ⟨i, hi⟩ := List.getElem?_of_mem hy
    obtain ⟨j, hj⟩ := List.getElem?_of_mem hx
    have := nd_at hn hi hj e2
    subst this
    rw [hi] at hj
    cases hj
    rfl
theorem isDl_T {S : Store} {l : Nat} {kvs : List (List Key × D)} (h : S[l]? = some (.dT kvs)) : isDl S (.loc l) = true := by simp [isDl, h, obK, obT]
theorem dlook_T {S : Store} {l : Nat} {kvs : List (List Key × D)} {q : Pl} (h : S[l]? = some (.dT kvs)) : dlook S (.loc l) (.tup [.int q.1, .int q.2]) = some (lookK kvs (pk q)) := by simp [dlook, h, obK, obT, keyOf, keysOf, pk]
theorem strK {S : Store} (n : Nat) (h : n < 10 ^ 100) : strD [.int (n : Int)] S = .ok (sd (TL.numL n)) S := by
  have hl : (n : Int).natAbs.log2 < 1920 := by
    rw [Int.natAbs_natCast]
    rcases Nat.eq_zero_or_pos n with z | z
    · subst z; decide
    · refine (Nat.log2_lt (by omega)).mpr (Nat.lt_of_lt_of_le h ?_)
      decide +kernel
  have e : strD [.int (n : Int)] S = if (n : Int).natAbs.log2 < 1920 then .ok (.str (Str.ofString (toString (n : Int)))) S else .stuck := rfl
  rw [e, if_pos hl, SX.num_S]
  rfl
section
variable {S : Store} {Q : D → Store → Prop}
open Classical in
theorem p_eqSS0 {b : Bool} {x y : List Nat} (hx : ∀ c ∈ x, c < 1114112) (hy : ∀ c ∈ y, c < 1114112) (h : Q (.bl (xor b (decide (x = y)))) S) : Ok (eqD b (.str (tx x)) (.str (tx y)) S) Q := by
  refine p_eqP (pl_tx hx) (pl_tx hy) ?_
  have : decide (D.str (tx x) = D.str (tx y)) = decide (x = y) := by
    rw [Bool.eq_iff_iff, decide_eq_true_eq, decide_eq_true_eq]
    exact ⟨fun h => tx_inj (D.str.inj h), fun h => by rw [h]⟩
  rw [this]
  exact h
end
/-! ### the program's Holder -/
def lyK (ts : List Tl) : List (List Key × D) := mergeD [] (ts.map fun t => (pk (tpl t), D.int t.2.2))
def tAt (ts : List Tl) (q : Pl) : Option Tl := ts.find? fun t => decide (tpl t = q)
theorem lyK_look {ts : List Tl} (hn : (ts.map tpl).Nodup) (q : Pl) : lookK (lyK ts) (pk q) = (tAt ts q).map fun t => D.int t.2.2 := look_pl (g := fun t : Tl => D.int t.2.2) hn q
theorem lyK_len (ts : List Tl) : (lyK ts).length ≤ ts.length := by
  have := mergeD_len (ts.map fun t => (pk (tpl t), D.int t.2.2)) []
  rw [List.length_map, List.length_nil, Nat.zero_add] at this
  exact this
theorem sc_put {κ : Type} [DecidableEq κ] {n : Nat} : ∀ (ps acc : List (κ × D)), (∀ p ∈ acc, p.2.sc n = true) → (∀ p ∈ ps, p.2.sc n = true) → ∀ p ∈ mergeD acc ps, p.2.sc n = true
  | [], acc, h, _ => h
  | q :: ps, acc, h, h2 => by
    refine sc_put ps (putD acc q.1 q.2) (fun p hp => ?_) fun p hp => h2 p (List.mem_cons_of_mem _ hp)
    unfold putD at hp
    split at hp
    · obtain ⟨e, he, rfl⟩ := List.mem_map.mp hp
      split
      · exact h2 q List.mem_cons_self
      · exact h e he
    · rcases List.mem_append.mp hp with hp | hp
      · exact h p hp
      · rw [List.mem_singleton.mp hp]; exact h2 q List.mem_cons_self
theorem scK_all {κ : Type} {n : Nat} : ∀ {kvs : List (κ × D)}, (∀ p ∈ kvs, p.2.sc n = true) → scK n kvs = true
  | [], _ => rfl
  | (k, d) :: kvs, h => by
    have h1 := h _ List.mem_cons_self
    have h2 := scK_all fun p hp => h p (List.mem_cons_of_mem _ hp)
    simp only [scK] at h2 ⊢
    rw [List.all_cons, h1, h2] <;> rfl
theorem sc_ly (n : Nat) (ts : List Tl) : (Ob.dT (lyK ts)).sc n = true := by
  have h := sc_put (n := n) (ts.map fun t => (pk (tpl t), D.int t.2.2)) [] (fun _ h => (List.not_mem_nil h).elim) (fun p hp => by
    obtain ⟨t, _, rfl⟩ := List.mem_map.mp hp
    rfl)
  unfold Ob.sc
  exact scK_all h
theorem lying_ok (ts : List Tl) (S : Store) : Ok (d_lying [.tup (ts.map tl)] S) fun d S' => d = .loc S.length ∧ S' = S ++ [.dT (lyK ts)] := by
  unfold d_lying
  refine gcO_pure ?_
  walk_at "den"
  unfold m_lying
  walk_at "vs"
  refine k_lcM1 (fun t : Tl => .tup [pl (tpl t), .int t.2.2]) (fun _ h => (List.not_mem_nil h).elim) (fun t ht => ?_) ?_
  · unfold e1_lying
    walk_at "vs"
    exact ⟨rfl, rfl⟩
  walk_at "vs"
  refine p_dictT (pairsT_pl (f := tpl) (g := fun t => D.int t.2.2) _) ?_
  exact ⟨[_], 0, _, rfl, rfl, rfl, sc_ly _ _, rfl, rfl⟩

theorem law_lying_ok (ts : List Tl) (S : Store) : Ok (d_law_lying [.tup (ts.map tl)] S) fun d S' => d = .loc S.length ∧ S' = S ++ [.dT (lyK ts)] := by
  unfold d_law_lying
  refine gcO_pure ?_
  walk_at "den"
  unfold m_law_lying
  walk_at "vs"
  refine k_lcM1 (fun t : Tl => .tup [pl (tpl t), .int t.2.2]) (fun _ h => (List.not_mem_nil h).elim) (fun t ht => ?_) ?_
  · unfold e1_law_lying
    walk_at "vs"
    exact ⟨rfl, rfl⟩
  walk_at "vs"
  refine p_dictT (pairsT_pl (f := tpl) (g := fun t => D.int t.2.2) _) ?_
  exact ⟨[_], 0, _, rfl, rfl, rfl, sc_ly _ _, rfl, rfl⟩
def stK (b : Bed) : List (Key × D) := mergeD [] (b.st.map fun x => ((Sum.inr (tx x.1) : Key), D.int x.2))
def hFs (b : Bed) (l : Nat) : List (Str × D) := [("enough", .int b.en), ("strengths", .loc l), ("kinds", .tup (b.ks.map kd)), ("wide", .int b.w), ("high", .int b.h)]
theorem putFD_le {f : Str} {d : D} : ∀ {fs : List (Str × D)}, (putFD f d fs).length ≤ fs.length + 1
  | [] => by simp [putFD]
  | (g, x) :: fs => by
    have := putFD_le (f := f) (d := d) (fs := fs)
    unfold putFD
    split <;> simp <;> omega
theorem putFD_lt {f : Str} {d : D} {fs : List (Str × D)} {k : Nat} (h : fs.length < k) : (putFD f d fs).length < k + 1 := Nat.lt_of_le_of_lt putFD_le (by omega)
theorem init_ok (b : Bed) {S0 : Store} {n : Nat} (hl : S0.length = n) : Ok (d_Holder___init__ [.loc n, bedD b] (S0 ++ [.ins "Holder" []])) fun d S' => d = .non ∧ S' = S0 ++ [.ins "Holder" (hFs b (n + 1)), .dK (stK b)] := by
  unfold d_Holder___init__
  walk_at "den"
  unfold m_Holder___init__
  refine w_seq (w_fldS ?_)
  walk_at "vs"
  refine ⟨n, _, _, rfl, by walk_at "st", by simp, by simp, ?_⟩
  walk_at "vs"
  refine w_fldS ?_
  walk_at "vs"
  refine p_dictX (pairsK_sd (f := Prod.fst) (g := fun x : List Nat × Nat => D.int x.2) _) ?_
  rw [List.length_append, hl, List.append_assoc, List.singleton_append, List.length_singleton]
  walk_at "vs"
  refine ⟨n, _, _, rfl, by walk_at "st", by simp, by simp [putFD], ?_⟩
  walk_at "vs"
  refine w_fldS ?_
  walk_at "vs"
  refine ⟨n, _, _, rfl, by walk_at "st", by simp, putFD_lt (k := 999) (putFD_lt (k := 998) (by simp)), ?_⟩
  walk_at "vs"
  refine w_fldS ?_
  walk_at "vs"
  refine ⟨n, _, _, rfl, by walk_at "st", by simp, putFD_lt (k := 999) (putFD_lt (k := 998) (putFD_lt (k := 997) (by simp))), ?_⟩
  walk_at "vs"
  refine w_fldS ?_
  walk_at "vs"
  refine ⟨n, _, _, rfl, by walk_at "st", by simp, putFD_lt (k := 999) (putFD_lt (k := 998) (putFD_lt (k := 997) (putFD_lt (k := 996) (by simp)))), ?_⟩
  walk_at "vs"
  exact ⟨rfl, by rfl⟩
def stp (q : Pl) : Nat → Pl
  | 0 => (q.1, q.2 + 1)
  | 1 => (q.1 + 1, q.2)
  | 2 => (q.1, q.2 - 1)
  | _ => (q.1 - 1, q.2)
def sideK (k : Kd) : Nat → List Nat
  | 0 => k.a
  | 1 => k.b
  | 2 => k.c
  | _ => k.d
def kAt (b : Bed) (z : Int) : Kd := (b.ks[z.toNat]?).getD ⟨[], [], [], [], []⟩
def off (b : Bed) (ts : List Tl) (q : Pl) (s : Nat) : List Nat := ((tAt ts (stp q s)).map fun t => sideK (kAt b t.2.2) ((s + 2) % 4)).getD []
theorem step_ok {q : Pl} {s : Nat} (hs : s < 4) (S : Store) : Ok (d_step_of [pl q, .int s] S) fun d S' => d = pl (stp q s) ∧ S' = S := by
  unfold d_step_of
  refine gc_pure ?_
  walk_at "den"
  unfold m_step_of
  have : s = 0 ∨ s = 1 ∨ s = 2 ∨ s = 3 := by omega
  rcases this with rfl | rfl | rfl | rfl
  all_goals
    walk_at "vs"
    refine ⟨⟨[], (List.append_nil _).symm⟩, rfl, ?_, rfl⟩
    simp [stp] <;> omega
theorem law_step_ok {q : Pl} {s : Nat} (hs : s < 4) (S : Store) : Ok (d_law_step [pl q, .int s] S) fun d S' => d = pl (stp q s) ∧ S' = S := by
  unfold d_law_step
  refine gc_pure ?_
  walk_at "den"
  unfold m_law_step
  have : s = 0 ∨ s = 1 ∨ s = 2 ∨ s = 3 := by omega
  rcases this with rfl | rfl | rfl | rfl
  all_goals
    walk_at "vs"
    exact ⟨⟨[], (List.append_nil _).symm⟩, rfl, rfl, rfl⟩
theorem opp_ok {s : Nat} (hs : s < 4) (S : Store) : Ok (d_opposite [.int s] S) fun d S' => d = .int ((s + 2) % 4 : Nat) ∧ S' = S := by
  unfold d_opposite
  refine gc_pure ?_
  walk_at "den"
  unfold m_opposite
  walk_at "vs"
  refine p_mod (by simp) ?_
  exact ⟨⟨[], (List.append_nil _).symm⟩, rfl, by simp, rfl⟩
theorem hF_kinds (b : Bed) (l : Nat) : List.lookup (Str.ofString "kinds") (hFs b l) = some (.tup (b.ks.map kd)) := by rfl
theorem hF_str (b : Bed) (l : Nat) : List.lookup (Str.ofString "strengths") (hFs b l) = some (.loc l) := by rfl
theorem hF_m1 (b : Bed) (l : Nat) : List.lookup (Str.ofString "held_at") (hFs b l) = none := by rfl
theorem hF_m2 (b : Bed) (l : Nat) : List.lookup (Str.ofString "offers") (hFs b l) = none := by rfl
theorem hF_m3 (b : Bed) (l : Nat) : List.lookup (Str.ofString "strength_by") (hFs b l) = none := by rfl
theorem hF_m5 (b : Bed) (l : Nat) : List.lookup (Str.ofString "strength") (hFs b l) = none := by rfl
theorem p_isNi {S : Store} {Q : D → Store → Prop} {b : Bool} {i : Int} (h : Q (.bl b) S) : Ok (isND b (.int i) .non S) Q := ⟨_, _, rfl, h⟩
theorem p_isNs {S : Store} {Q : D → Store → Prop} {b : Bool} {i : Str} (h : Q (.bl b) S) : Ok (isND b (.str i) .non S) Q := ⟨_, _, rfl, h⟩
structure TsOk (b : Bed) (ts : List Tl) : Prop where
  nd : (ts.map tpl).Nodup
  ok : ∀ t ∈ ts, 0 ≤ t.2.2 ∧ t.2.2 < b.ks.length
  kl : b.ks.length ≤ 1000
  ku : ∀ k ∈ b.ks, KdU k
theorem TsOk.at {b : Bed} {ts : List Tl} (h : TsOk b ts) {q : Pl} {t : Tl} (e : tAt ts q = some t) : ∃ n : Nat, t.2.2 = n ∧ b.ks[n]? = some (kAt b t.2.2) := by
  obtain ⟨h1, h2⟩ := h.ok t (List.mem_of_find?_eq_some e)
  obtain ⟨n, hn⟩ := Int.eq_ofNat_of_zero_le h1
  have hl : n < b.ks.length := by omega
  refine ⟨n, hn, ?_⟩
  unfold kAt
  rw [hn, Int.toNat_natCast, List.getElem?_eq_getElem hl]
  rfl
theorem app_at {S t : Store} {i : Nat} {o : Ob} (h : S[i]? = some o) : (S ++ t)[i]? = some o := by
  rw [List.getElem?_append_left (List.getElem?_eq_some_iff.mp h).1]; exact h
theorem offers_ok {b : Bed} {ts : List Tl} {q : Pl} {S : Store} {h l t : Nat} (ho : TsOk b ts) (H1 : S[h]? = some (.ins "Holder" (hFs b l))) (H3 : S[t]? = some (.dT (lyK ts))) :
    Ok (d_Holder_offers [.loc h, .loc t, pl q] S) fun r S' => r = .lst (((List.range 4).map (off b ts q)).map sd) ∧ S' = S := by
  unfold d_Holder_offers
  refine gcF_pure ?_
  walk_at "den"
  unfold m_Holder_offers
  obtain ⟨n, hl⟩ : ∃ n, S.length = n := ⟨_, rfl⟩
  walk_at "vs"
  rw [hl]
  walk_at "vs"
  refine rng_of (m := 4) rfl (by omega) ?_
  refine w_each (fun d σ S' => ∃ x4 x5 : Option D, S' = S ++ [.lst ((d.map (off b ts q)).map sd)] ∧ σ = [some (.loc h), some (.loc t), some (pl q), some (.loc n), x4, x5]) ⟨_, _, rfl, rfl⟩ no_guardE ?_ ?_
  · rintro d s r σ S' e0 ⟨x4, x5, rfl, rfl⟩
    have hs : s < 4 := by
      have : s ∈ List.range 4 := by rw [e0]; simp
      exact List.mem_range.mp this
    have hdl : d.length < 4 := by have := congrArg List.length e0; simp at this; omega
    unfold b1_Holder_offers
    walk_at "vs"
    refine ⟨isDl_T (app_at H3), ?_⟩
    walk_at "vs"
    refine (step_ok hs _).imp ?_
    rintro _ _ ⟨rfl, rfl⟩
    refine ⟨_, dlook_T (app_at H3), ?_⟩
    rw [lyK_look ho.nd]
    cases e : tAt ts (stp q s) with
    | none =>
      have e2 : off b ts q s = [] := by unfold off; rw [e]; rfl
      simp only [Option.map_none, Option.getD_none]
      walk_at "vs"
      refine ⟨_, _, ?_, rfl⟩
      rw [List.map_append, List.map_append, List.map_singleton, List.map_singleton, e2] <;> rfl
    | some tl =>
      have e2 : off b ts q s = sideK (kAt b tl.2.2) ((s + 2) % 4) := by unfold off; rw [e]; rfl
      obtain ⟨m, hm, hk⟩ := ho.at e
      simp only [Option.map_some, Option.getD_some]
      walk_at "vs"
      try refine p_isNi ?_
      walk_at "vs"
      refine k_fldC ?_
      walk_at "vs"
      refine ⟨h, _, _, _, rfl, app_at H1, by simp, hF_kinds b l, ?_⟩
      walk_at "vs"
      rw [hm]
      walk_at "vs"
      refine (opp_ok hs _).imp ?_
      rintro _ _ ⟨rfl, rfl⟩
      walk_at "vs"
      refine p_ixT (d := sd (off b ts q s)) ?_ ?_
      · rw [e2]
        have : s = 0 ∨ s = 1 ∨ s = 2 ∨ s = 3 := by omega
        rcases this with rfl | rfl | rfl | rfl <;> rfl
      walk_at "vs"
      refine ⟨_, _, ?_, rfl⟩
      rw [List.map_append, List.map_append]
      rfl
  · rintro σ S' ⟨x4, x5, rfl, rfl⟩
    walk_at "vs"
    exact ⟨[_], 0, _, rfl, rfl, rfl, sc_map fun _ => rfl, rfl, rfl⟩
def hA (b : Bed) (ts : List Tl) (q : Pl) (k : Kd) : List Nat := (List.range 4).filter fun s => decide (off b ts q s ≠ [] ∧ sideK k s = off b ts q s)
theorem side_mem (k : Kd) (s : Nat) : sideK k s ∈ [k.a, k.b, k.c, k.d] := by
  unfold sideK
  split <;> simp
theorem side_u {k : Kd} (h : KdU k) (s : Nat) : ∀ c ∈ sideK k s, c < 1114112 := by
  unfold sideK
  split
  · exact h.2.1
  · exact h.2.2.1
  · exact h.2.2.2.1
  · exact h.2.2.2.2
theorem off_u {b : Bed} {ts : List Tl} (ho : TsOk b ts) (q : Pl) (s : Nat) : ∀ c ∈ off b ts q s, c < 1114112 := by
  unfold off
  cases e : tAt ts (stp q s) with
  | none => simp
  | some t =>
    obtain ⟨m, _, hk⟩ := ho.at e
    exact side_u (ho.ku _ (List.mem_of_getElem? hk)) _
theorem kd_side (k : Kd) {s : Nat} (hs : s < 4) : ([sd k.f, sd k.a, sd k.b, sd k.c, sd k.d] : List D)[1 + s]? = some (sd (sideK k s)) := by
  have : s = 0 ∨ s = 1 ∨ s = 2 ∨ s = 3 := by omega
  rcases this with rfl | rfl | rfl | rfl <;> rfl
theorem held_at_ok {b : Bed} {ts : List Tl} {q : Pl} {S : Store} {h l kk : Nat} {k : Kd} (ho : TsOk b ts) (H1 : S[h]? = some (.ins "Holder" (hFs b l))) (hk : b.ks[kk]? = some k) :
    Ok (d_Holder_held_at [.loc h, .lst (((List.range 4).map (off b ts q)).map sd), .int kk] S) fun r S' => r = .lst ((hA b ts q k).map fun s : Nat => D.int s) ∧ S' = S := by
  unfold d_Holder_held_at
  refine gc_pure ?_
  walk_at "den"
  unfold m_Holder_held_at
  walk_at "vs"
  refine rng_of (m := 4) rfl (by omega) ?_
  walk_at "vs"
  refine k_lcP (fun s : Nat => decide (off b ts q s ≠ [] ∧ sideK k s = off b ts q s)) (fun s => .int s) (fun _ h => (List.not_mem_nil h).elim) (fun s hs => ?_) ?_
  · have hs4 := List.mem_range.mp hs
    have ho1 : ((List.range 4).map (off b ts q))[s]? = some (off b ts q s) := by rw [List.getElem?_map, List.getElem?_range hs4]; rfl
    unfold t1_Holder_held_at e1_Holder_held_at
    walk_at "vs"
    refine p_eqSS0 (off_u ho q s) (by simp) ?_
    walk_at "vs"
    refine br_dec (fun h0 => ?_) (fun h0 => ?_)
    · have : ¬ (off b ts q s ≠ [] ∧ sideK k s = off b ts q s) := fun z => z.1 h0
      rw [decide_eq_false this]
      exact ⟨rfl, br_f rfl⟩
    · walk_at "vs"
      refine k_fldC ?_
      walk_at "vs"
      refine ⟨h, _, _, _, rfl, H1, by simp, hF_kinds b l, ?_⟩
      walk_at "vs"
      refine p_ixT (d := sd (sideK k s)) (by rw [show (1 : Int) + (s : Int) = ((1 + s : Nat) : Int) by push_cast; rfl, atI_nat]; exact kd_side k hs4) ?_
      walk_at "vs"
      refine p_eqSS0 (side_u (ho.ku k (List.mem_of_getElem? hk)) s) (off_u ho q s) ?_
      walk_at "vs"
      refine ⟨by simp [h0], br_if (fun h => ?_) (fun h => rfl)⟩
      walk_at "vs"
      exact ⟨rfl, rfl⟩
  · exact ⟨⟨[], (List.append_nil _).symm⟩, by simp only [D.sc]; exact sc_map fun _ => rfl, rfl, rfl⟩
theorem look_mem {κ : Type} [DecidableEq κ] {k : κ} : ∀ (ps acc : List (κ × D)), (∃ p ∈ ps, p.1 = k) → ∃ p ∈ ps, p.1 = k ∧ lookK (mergeD acc ps) k = some p.2
  | [], _, ⟨_, h, _⟩ => absurd h List.not_mem_nil
  | q :: ps, acc, h => by
    by_cases h2 : ∃ p ∈ ps, p.1 = k
    · obtain ⟨p, hp, e, r⟩ := look_mem ps (putD acc q.1 q.2) h2
      exact ⟨p, List.mem_cons_of_mem _ hp, e, r⟩
    · obtain ⟨p, hp, e⟩ := h
      rcases List.mem_cons.mp hp with rfl | hp
      · refine ⟨p, List.mem_cons_self, e, ?_⟩
        show lookK (mergeD (putD acc p.1 p.2) ps) k = _
        rw [lookK_merge_none k ps _ fun z hz e2 => h2 ⟨z, hz, e2⟩, lookK_put, if_pos e]
      · exact absurd ⟨p, hp, e⟩ h2
/-- by how much a stick holds -/
def stV (b : Bed) (x : List Nat) : Int := match lookK (stK b) (.inr (tx x)) with
  | some (.int i) => i
  | _ => 0
theorem stK_look {b : Bed} {x : List Nat} (h : x ∈ b.st.map Prod.fst) : lookK (stK b) (.inr (tx x)) = some (.int (stV b x)) ∧ ∃ y ∈ b.st, stV b x = y.2 := by
  obtain ⟨y, hy, rfl⟩ := List.mem_map.mp h
  obtain ⟨p, hp, e, r⟩ := look_mem (k := (Sum.inr (tx y.1) : Key)) (b.st.map fun x => ((Sum.inr (tx x.1) : Key), D.int x.2)) [] ⟨_, List.mem_map_of_mem hy, rfl⟩
  obtain ⟨z, hz, rfl⟩ := List.mem_map.mp hp
  have r' : lookK (stK b) (.inr (tx y.1)) = some (.int z.2) := r
  have e2 : stV b y.1 = z.2 := by unfold stV; rw [r']
  exact ⟨by rw [r', e2], z, hz, e2⟩
def hS (b : Bed) (ts : List Tl) (q : Pl) (k : Kd) : Int := ((hA b ts q k).map fun s => stV b (off b ts q s)).sum
theorem hA_mem {b : Bed} {ts : List Tl} {q : Pl} {k : Kd} (hko : ∀ x ∈ [k.a, k.b, k.c, k.d], x = [] ∨ x ∈ b.st.map Prod.fst) {s : Nat} (h : s ∈ hA b ts q k) : s < 4 ∧ off b ts q s = sideK k s ∧ off b ts q s ∈ b.st.map Prod.fst := by
  obtain ⟨h1, h2⟩ := List.mem_filter.mp h
  rw [decide_eq_true_eq] at h2
  refine ⟨List.mem_range.mp h1, h2.2.symm, ?_⟩
  rcases hko _ (side_mem k s) with z | z
  · exact absurd (h2.2.symm.trans z) h2.1
  · rw [← h2.2]; exact z
section
variable {b : Bed} {ts : List Tl} {q : Pl} {S : Store} {h l t kk : Nat} {k : Kd}
theorem strength_by_ok (ho : TsOk b ts) (hko : ∀ x ∈ [k.a, k.b, k.c, k.d], x = [] ∨ x ∈ b.st.map Prod.fst) (H1 : S[h]? = some (.ins "Holder" (hFs b l))) (H2 : S[l]? = some (.dK (stK b))) (hk : b.ks[kk]? = some k) :
    Ok (d_Holder_strength_by [.loc h, .lst (((List.range 4).map (off b ts q)).map sd), .int kk] S) fun r S' => r = .int (hS b ts q k) ∧ S' = S := by
  unfold d_Holder_strength_by
  refine gc_pure ?_
  walk_at "den"
  unfold m_Holder_strength_by
  walk_at "vs"
  refine k_meth ?_
  walk_at "vs"
  refine ⟨h, _, rfl, H1, hF_m1 b l, ?_⟩
  walk_at "vs"
  refine ⟨rfl, (held_at_ok ho H1 hk).imp ?_⟩
  rintro _ _ ⟨rfl, rfl⟩
  walk_at "vs"
  refine k_lcM1 (fun s : Nat => .int (stV b (off b ts q s))) (fun _ h => (List.not_mem_nil h).elim) (fun s hs => ?_) ?_
  · obtain ⟨hs4, _, hmem⟩ := hA_mem hko hs
    have ho1 : ((List.range 4).map (off b ts q))[s]? = some (off b ts q s) := by rw [List.getElem?_map, List.getElem?_range hs4]; rfl
    unfold e1_Holder_strength_by
    walk_at "vs"
    refine k_fldC ?_
    walk_at "vs"
    refine ⟨h, _, _, _, rfl, H1, by simp, hF_str b l, ?_⟩
    walk_at "vs"
    refine p_ixK (k := .inr (tx (off b ts q s))) H2 rfl (stK_look hmem).1 ?_
    exact ⟨rfl, rfl⟩
  rw [show ((hA b ts q k).map fun s : Nat => D.int (stV b (off b ts q s))) = ((hA b ts q k).map fun s => stV b (off b ts q s)).map D.int by rw [List.map_map]; rfl]
  walk_at "vs"
  refine p_sum ?_
  exact ⟨⟨[], (List.append_nil _).symm⟩, rfl, rfl, rfl⟩
end
section
variable {b : Bed} {ts : List Tl} {q : Pl} {S : Store} {h l t kk : Nat} {k : Kd}
theorem strength_ok (ho : TsOk b ts) (hko : ∀ x ∈ [k.a, k.b, k.c, k.d], x = [] ∨ x ∈ b.st.map Prod.fst) (H1 : S[h]? = some (.ins "Holder" (hFs b l))) (H2 : S[l]? = some (.dK (stK b))) (H3 : S[t]? = some (.dT (lyK ts))) (hk : b.ks[kk]? = some k) :
    Ok (d_Holder_strength [.loc h, .loc t, pl q, .int kk] S) fun r S' => r = .int (hS b ts q k) ∧ S' = S := by
  unfold d_Holder_strength
  refine gc_pure ?_
  walk_at "den"
  unfold m_Holder_strength
  walk_at "vs"
  refine k_meth ?_
  walk_at "vs"
  refine ⟨h, _, rfl, H1, hF_m3 b l, ?_⟩
  walk_at "vs"
  refine k_meth ?_
  walk_at "vs"
  refine ⟨h, _, rfl, H1, hF_m2 b l, ?_⟩
  walk_at "vs"
  refine ⟨rfl, (offers_ok ho H1 H3).imp ?_⟩
  rintro _ _ ⟨rfl, rfl⟩
  walk_at "vs"
  refine ⟨rfl, (strength_by_ok ho hko H1 H2 hk).imp ?_⟩
  rintro _ _ ⟨rfl, rfl⟩
  exact ⟨⟨[], (List.append_nil _).symm⟩, rfl, rfl, rfl⟩
end
open Classical in
theorem p_eqE {S : Store} {Q : D → Store → Prop} {n : Bool} {ds : List D} (hp : D.pls 63 ds = true) (h : Q (.bl (xor n ds.isEmpty)) S) : Ok (eqD n (.lst ds) (.lst []) S) Q := by
  refine p_eqP (by rw [pl_lst]; exact hp) (by simp) ?_
  have : decide (D.lst ds = .lst []) = ds.isEmpty := by cases ds <;> simp
  rw [this]
  exact h
section
variable {b : Bed} {ts : List Tl} {q : Pl} {S : Store} {t kk : Nat} {k : Kd}
theorem hA_snoc (l : List Nat) (s : Nat) (p : Nat → Bool) : ((l ++ [s]).filter p) = l.filter p ++ (if p s = true then [s] else []) := by
  rw [List.filter_append]
  congr 1
  cases h : p s <;> simp [h]
theorem law_sides_ok (ho : TsOk b ts) (H3 : S[t]? = some (.dT (lyK ts))) (hk : b.ks[kk]? = some k) :
    Ok (d_law_sides [bedD b, .loc t, pl q, .int kk] S) fun r S' => r = .lst ((hA b ts q k).map fun s : Nat => D.int s) ∧ S' = S := by
  unfold d_law_sides
  refine gcF_pure ?_
  walk_at "den"
  unfold m_law_sides
  obtain ⟨n, hl⟩ : ∃ n, S.length = n := ⟨_, rfl⟩
  have hku := ho.ku k (List.mem_of_getElem? hk)
  walk_at "vs"
  rw [hl]
  walk_at "vs"
  refine rng_of (m := 4) rfl (by omega) ?_
  refine w_each (fun d σ S' => ∃ x6 x7 x8 : Option D, S' = S ++ [.lst ((d.filter fun s => decide (off b ts q s ≠ [] ∧ sideK k s = off b ts q s)).map fun s : Nat => D.int s)] ∧ σ = [some (bedD b), some (.loc t), some (pl q), some (.int kk), some (.tup (b.ks.map kd)), some (.loc n), x6, x7, x8]) ⟨_, _, _, rfl, rfl⟩ no_guardE ?_ ?_
  · rintro d s r σ S' e0 ⟨x6, x7, x8, rfl, rfl⟩
    have hs : s < 4 := by
      have : s ∈ List.range 4 := by rw [e0]; simp
      exact List.mem_range.mp this
    have hdl : d.length < 4 := by have := congrArg List.length e0; simp at this; omega
    have hfl := List.length_filter_le (fun s => decide (off b ts q s ≠ [] ∧ sideK k s = off b ts q s)) d
    have hks := kd_side k hs
    unfold b1_law_sides
    rw [hA_snoc]
    walk_at "vs"
    refine ⟨isDl_T (app_at H3), ?_⟩
    walk_at "vs"
    refine (law_step_ok hs _).imp ?_
    rintro _ _ ⟨rfl, rfl⟩
    refine ⟨_, dlook_T (app_at H3), ?_⟩
    rw [lyK_look ho.nd]
    cases e : tAt ts (stp q s) with
    | none =>
      have e2 : off b ts q s = [] := by unfold off; rw [e]; rfl
      simp only [Option.map_none, Option.getD_none]
      walk_at "vs"
      refine p_ixT (d := sd (sideK k s)) (by rw [show (s : Int) + 1 = ((1 + s : Nat) : Int) by push_cast; omega, atI_nat]; exact hks) ?_
      walk_at "vs"
      rw [if_neg (by rw [decide_eq_true_eq]; exact fun z => z.1 e2), List.append_nil]
      exact ⟨_, _, _, rfl, rfl⟩
    | some tl =>
      have e2 : off b ts q s = sideK (kAt b tl.2.2) ((s + 2) % 4) := by unfold off; rw [e]; rfl
      obtain ⟨m, hm, hk2⟩ := ho.at e
      have hks2 := kd_side (kAt b tl.2.2) (show (s + 2) % 4 < 4 by omega)
      rw [← e2] at hks2
      simp only [Option.map_some, Option.getD_some]
      walk_at "vs"
      refine p_ixT (d := sd (sideK k s)) (by rw [show (s : Int) + 1 = ((1 + s : Nat) : Int) by push_cast; omega, atI_nat]; exact hks) ?_
      walk_at "vs"
      try refine p_isNi ?_
      walk_at "vs"
      refine p_eqSS0 (side_u hku s) (by simp) ?_
      walk_at "vs"
      refine br_dec (fun h0 => ?_) (fun h0 => ?_)
      · walk_at "vs"
        rw [if_neg (by rw [decide_eq_true_eq]; exact fun z => z.1 (z.2.symm.trans h0)), List.append_nil]
        exact ⟨_, _, _, rfl, rfl⟩
      · walk_at "vs"
        rw [hm]
        walk_at "vs"
        refine p_ixT (d := sd (off b ts q s)) (by rw [show ((s : Int) + 2) % 4 + 1 = ((1 + (s + 2) % 4 : Nat) : Int) by push_cast; omega, atI_nat]; exact hks2) ?_
        walk_at "vs"
        refine p_eqSS0 (off_u ho q s) (side_u hku s) ?_
        walk_at "vs"
        refine br_dec (fun h1 => ?_) (fun h1 => ?_)
        · walk_at "vs"
          rw [if_pos (by rw [decide_eq_true_eq]; exact ⟨fun z => h0 (h1.symm.trans z), h1.symm⟩)]
          refine ⟨_, _, _, ?_, rfl⟩
          rw [List.map_append]
          rfl
        · walk_at "vs"
          rw [if_neg (by rw [decide_eq_true_eq]; exact fun z => h1 z.2.symm), List.append_nil]
          exact ⟨_, _, _, rfl, rfl⟩
  · rintro σ S' ⟨x6, x7, x8, rfl, rfl⟩
    walk_at "vs"
    exact ⟨[_], 0, _, rfl, rfl, rfl, sc_map fun _ => rfl, rfl, rfl⟩
theorem law_by_ok (ho : TsOk b ts) (hko : ∀ x ∈ [k.a, k.b, k.c, k.d], x = [] ∨ x ∈ b.st.map Prod.fst) (H3 : S[t]? = some (.dT (lyK ts))) (hk : b.ks[kk]? = some k) :
    Ok (d_law_by [bedD b, .loc t, pl q, .int kk] S) fun r S' => r = .int (hS b ts q k) ∧ S' = S := by
  unfold d_law_by
  refine gc_pure ?_
  walk_at "den"
  unfold m_law_by
  obtain ⟨n, hl⟩ : ∃ n, S.length = n := ⟨_, rfl⟩
  walk_at "vs"
  refine (law_sides_ok ho H3 hk).imp ?_
  rintro _ _ ⟨rfl, rfl⟩
  walk_at "vs"
  refine p_eqE (pls_map fun _ _ => pl_int _ _) ?_
  walk_at "vs"
  refine br_if (fun h0 => ?_) (fun h0 => ?_)
  · have : hA b ts q k = [] := by simpa using h0
    walk_at "vs"
    exact ⟨⟨[], (List.append_nil _).symm⟩, rfl, by unfold hS; rw [this]; rfl, rfl⟩
  · walk_at "vs"
    refine p_dictX (pairsK_sd (f := Prod.fst) (g := fun x : List Nat × Nat => D.int x.2) _) ?_
    walk_at "vs"
    refine k_lcM1 (fun s : Nat => .int (stV b (off b ts q s))) (fun _ h => (List.not_mem_nil h).elim) (fun s hs => ?_) ?_
    · obtain ⟨hs4, he, hmem⟩ := hA_mem hko hs
      have hks := kd_side k hs4
      rw [← he] at hks
      unfold e1_law_by
      walk_at "vs"
      refine p_ixT (d := sd (off b ts q s)) (by rw [show (s : Int) + 1 = ((1 + s : Nat) : Int) by push_cast; omega, atI_nat]; exact hks) ?_
      refine p_ixK (k := .inr (tx (off b ts q s))) (kvs := stK b) (get_go0 rfl rfl) rfl (stK_look hmem).1 ?_
      exact ⟨rfl, rfl⟩
    rw [show ((hA b ts q k).map fun s : Nat => D.int (stV b (off b ts q s))) = ((hA b ts q k).map fun s => stV b (off b ts q s)).map D.int by rw [List.map_map]; rfl]
    walk_at "vs"
    refine p_sum ?_
    exact ⟨⟨_, rfl⟩, rfl, rfl, rfl⟩
end
/-! ### places filled one by one -/
theorem ly_snoc (ts : List Tl) (t : Tl) : lyK (ts ++ [t]) = putD (lyK ts) (pk (tpl t)) (.int t.2.2) := by
  unfold lyK mergeD
  rw [List.map_append, List.foldl_append]
  rfl
theorem tAt_none {ts : List Tl} {q : Pl} : tAt ts q = none ↔ q ∉ ts.map tpl := by
  unfold tAt
  rw [List.find?_eq_none]
  constructor
  · intro h z
    obtain ⟨t, ht, e⟩ := List.mem_map.mp z
    exact h t ht (decide_eq_true e)
  · intro h t ht z
    exact h (by rw [← of_decide_eq_true z]; exact List.mem_map_of_mem ht)
theorem nd_snoc {ts : List Tl} {t : Tl} (h : (ts.map tpl).Nodup) (hq : tpl t ∉ ts.map tpl) : ((ts ++ [t]).map tpl).Nodup := by
  rw [List.map_append, List.nodup_append]
  exact ⟨h, by simp, fun a ha b hb => by rw [List.map_singleton, List.mem_singleton] at hb; subst hb; exact fun z => hq (z ▸ ha)⟩
section
variable {S : Store} {l : Nat} {ts : List Tl} {q : Pl}
open Classical in
theorem p_inLy {b : Bool} {Q : D → Store → Prop} (hn : (ts.map tpl).Nodup) (e : S[l]? = some (.dT (lyK ts))) (h : Q (.bl (xor b (decide (q ∈ ts.map tpl)))) S) : Ok (inD b (.tup [.int q.1, .int q.2]) (.loc l) S) Q := by
  refine k_eq (inT2 b e) ?_
  rw [show ([.inl q.1, .inl q.2] : List Key) = pk q from rfl, lyK_look hn]
  have : ((tAt ts q).map fun t => D.int t.2.2).isSome = decide (q ∈ ts.map tpl) := by
    by_cases hq : q ∈ ts.map tpl
    · rw [decide_eq_true hq]
      cases h : tAt ts q with
      | none => exact absurd hq (tAt_none.mp h)
      | some t => rfl
    · rw [decide_eq_false hq, tAt_none.mpr hq]
      rfl
  rw [this]
  exact h
theorem p_putLy {k : Int} {Q : Unit → Store → Prop} (e : S[l]? = some (.dT (lyK ts))) (hl : ts.length < 16777216) (h : ∀ S', S.set l (.dT (lyK (ts ++ [(q.1, q.2, k)]))) = S' → Q () S') : Ok (setD (.loc l) (.tup [.int q.1, .int q.2]) (.int k) S) Q := by
  refine p_setT (key := pk q) e rfl (Nat.lt_of_le_of_lt (lyK_len ts) hl) ?_
  rw [ly_snoc] at h
  exact h
end


/-! ### growings -/
def onF (b : Bed) (q : Pl) : Prop := (0 ≤ q.1 ∧ q.1 < b.w) ∧ (0 ≤ q.2 ∧ q.2 < b.h)
/-- t may be put on ts -/
def Gr (b : Bed) (ts : List Tl) (t : Tl) : Prop := onF b (tpl t) ∧ tpl t ∉ ts.map tpl ∧ (0 ≤ t.2.2 ∧ t.2.2 < b.ks.length) ∧ (b.en : Int) ≤ hS b ts (tpl t) (kAt b t.2.2)
theorem hF_wide (b : Bed) (l : Nat) : List.lookup (Str.ofString "wide") (hFs b l) = some (.int b.w) := by rfl
theorem hF_high (b : Bed) (l : Nat) : List.lookup (Str.ofString "high") (hFs b l) = some (.int b.h) := by rfl
theorem hF_en (b : Bed) (l : Nat) : List.lookup (Str.ofString "enough") (hFs b l) = some (.int b.en) := by rfl
theorem hF_m6 (b : Bed) (l : Nat) : List.lookup (Str.ofString "is_on") (hFs b l) = none := by rfl
theorem hF_m7 (b : Bed) (l : Nat) : List.lookup (Str.ofString "fits") (hFs b l) = none := by rfl
/-- the sides of kinds are names -/
def KsOk (b : Bed) : Prop := ∀ k ∈ b.ks, ∀ x ∈ [k.a, k.b, k.c, k.d], x = [] ∨ x ∈ b.st.map Prod.fst
theorem kAt_at {b : Bed} {z : Int} (h : 0 ≤ z ∧ z < b.ks.length) : ∃ n : Nat, z = n ∧ b.ks[n]? = some (kAt b z) := by
  obtain ⟨n, hn⟩ := Int.eq_ofNat_of_zero_le h.1
  have hl : n < b.ks.length := by omega
  refine ⟨n, hn, ?_⟩
  unfold kAt
  rw [hn, Int.toNat_natCast, List.getElem?_eq_getElem hl]
  rfl
open Classical in
theorem is_on_ok {b : Bed} {q : Pl} {S : Store} {h l : Nat} (H1 : S[h]? = some (.ins "Holder" (hFs b l))) : Ok (d_Holder_is_on [.loc h, pl q] S) fun r S' => r = .bl (decide (onF b q)) ∧ S' = S := by
  unfold d_Holder_is_on
  refine gc_pure ?_
  walk_at "den"
  unfold m_Holder_is_on
  walk_at "vs"
  refine br_dec (fun h0 => ?_) (fun h0 => ?_)
  · walk_at "vs"
    refine k_fldC ?_
    walk_at "vs"
    refine ⟨h, _, _, _, rfl, H1, by simp, hF_wide b l, ?_⟩
    walk_at "vs"
    refine br_dec (fun h1 => ?_) (fun h1 => ?_)
    · walk_at "vs"
      refine br_dec (fun h2 => ?_) (fun h2 => ?_)
      · walk_at "vs"
        refine k_fldC ?_
        walk_at "vs"
        refine ⟨h, _, _, _, rfl, H1, by simp, hF_high b l, ?_⟩
        walk_at "vs"
        refine ⟨⟨[], (List.append_nil _).symm⟩, rfl, ?_, rfl⟩
        have : (q.2 < (b.h : Int)) ↔ onF b q := ⟨fun h3 => ⟨⟨h0, h1⟩, h2, h3⟩, fun z => z.2.2⟩
        by_cases h3 : q.2 < (b.h : Int)
        · rw [decide_eq_true h3, decide_eq_true (this.mp h3)]
        · rw [decide_eq_false h3, decide_eq_false fun z => h3 (this.mpr z)]
      · walk_at "vs"
        refine ⟨⟨[], (List.append_nil _).symm⟩, rfl, ?_, rfl⟩
        rw [decide_eq_false (fun z : onF b q => h2 z.2.1)]
    · walk_at "vs"
      refine ⟨⟨[], (List.append_nil _).symm⟩, rfl, ?_, rfl⟩
      rw [decide_eq_false (fun z : onF b q => h1 z.1.2)]
  · walk_at "vs"
    refine ⟨⟨[], (List.append_nil _).symm⟩, rfl, ?_, rfl⟩
    rw [decide_eq_false (fun z : onF b q => h0 z.1.1)]
open Classical in
theorem fits_ok {b : Bed} {ts : List Tl} {t : Tl} {S : Store} {h l m : Nat} (ho : TsOk b ts) (hk : KsOk b) (H1 : S[h]? = some (.ins "Holder" (hFs b l))) (H2 : S[l]? = some (.dK (stK b))) (H3 : S[m]? = some (.dT (lyK ts))) :
    Ok (d_Holder_fits [.loc h, .loc m, tl t] S) fun r S' => r = .bl (decide (Gr b ts t)) ∧ S' = S := by
  unfold d_Holder_fits
  refine gc_pure ?_
  walk_at "den"
  unfold m_Holder_fits
  walk_at "vs"
  refine k_meth ?_
  walk_at "vs"
  refine ⟨h, _, rfl, H1, hF_m6 b l, ?_⟩
  walk_at "vs"
  refine ⟨rfl, (is_on_ok (q := tpl t) H1).imp ?_⟩
  rintro _ _ ⟨rfl, rfl⟩
  walk_at "vs"
  refine br_dec (fun h0 => ?_) (fun h0 => ?_)
  · walk_at "vs"
    refine p_inLy (q := tpl t) ho.nd H3 ?_
    walk_at "vs"
    refine br_dec (fun h1 => ?_) (fun h1 => ?_)
    · walk_at "vs"
      refine ⟨⟨[], (List.append_nil _).symm⟩, rfl, ?_, rfl⟩
      rw [decide_eq_false (fun z : Gr b ts t => z.2.1 h1)]
    · walk_at "vs"
      refine br_dec (fun h2 => ?_) (fun h2 => ?_)
      · walk_at "vs"
        refine k_fldC ?_
        walk_at "vs"
        refine ⟨h, _, _, _, rfl, H1, by simp, hF_kinds b l, ?_⟩
        walk_at "vs"
        rw [List.length_map]
        refine br_dec (fun h3 => ?_) (fun h3 => ?_)
        · walk_at "vs"
          refine k_meth ?_
          walk_at "vs"
          refine ⟨h, _, rfl, H1, hF_m5 b l, ?_⟩
          walk_at "vs"
          obtain ⟨n, hn, hkn⟩ := kAt_at (b := b) ⟨h2, h3⟩
          refine ⟨rfl, ?_⟩
          have e := strength_ok (q := tpl t) ho (hk _ (List.mem_of_getElem? hkn)) H1 H2 H3 hkn
          rw [← hn] at e
          refine e.imp ?_
          rintro _ _ ⟨rfl, rfl⟩
          refine k_fldC ?_
          walk_at "vs"
          refine ⟨h, _, _, _, rfl, H1, by simp, hF_en b l, ?_⟩
          walk_at "vs"
          refine ⟨⟨[], (List.append_nil _).symm⟩, rfl, ?_, rfl⟩
          have : ((b.en : Int) ≤ hS b ts (tpl t) (kAt b t.2.2)) ↔ Gr b ts t := ⟨fun z => ⟨h0, h1, ⟨h2, h3⟩, z⟩, fun z => z.2.2.2⟩
          by_cases h4 : (b.en : Int) ≤ hS b ts (tpl t) (kAt b t.2.2)
          · rw [decide_eq_true h4, decide_eq_true (this.mp h4)]
          · rw [decide_eq_false h4, decide_eq_false fun z => h4 (this.mpr z)]
        · walk_at "vs"
          refine ⟨⟨[], (List.append_nil _).symm⟩, rfl, ?_, rfl⟩
          rw [decide_eq_false (fun z : Gr b ts t => h3 z.2.2.1.2)]
      · walk_at "vs"
        refine ⟨⟨[], (List.append_nil _).symm⟩, rfl, ?_, rfl⟩
        rw [decide_eq_false (fun z : Gr b ts t => h2 z.2.2.1.1)]
  · walk_at "vs"
    refine ⟨⟨[], (List.append_nil _).symm⟩, rfl, ?_, rfl⟩
    rw [decide_eq_false (fun z : Gr b ts t => h0 z.1)]
/-! ### the law's own list of what may be put -/
def colP (x h : Nat) : List Pl := (List.range h).map fun y : Nat => ((x : Int), (y : Int))
def allP (b : Bed) : List Pl := (List.range b.w).flatMap fun x => colP x b.h
open Classical in
noncomputable def freeP (ts : List Tl) (q : Pl) : Bool := decide (q ∉ ts.map tpl)
open Classical in
noncomputable def nearL (ts : List Tl) (q : Pl) : List Nat := (List.range 4).filter fun s => decide (stp q s ∈ ts.map tpl)
noncomputable def empP (ts : List Tl) (q : Pl) : Bool := freeP ts q && !(nearL ts q).isEmpty
noncomputable def emptyL (b : Bed) (ts : List Tl) : List Pl := (allP b).filter (empP ts)
noncomputable def fitK (b : Bed) (ts : List Tl) (q : Pl) (k : Nat) : Bool := decide ((b.en : Int) ≤ hS b ts q (kAt b k))
noncomputable def kindsL (b : Bed) (ts : List Tl) (q : Pl) : List Nat := (List.range b.ks.length).filter (fitK b ts q)
def tls (q : Pl) (ks : List Nat) : List Tl := ks.map fun k : Nat => (q.1, q.2, (k : Int))
noncomputable def mayL (b : Bed) (ts : List Tl) : List Tl := (emptyL b ts).flatMap fun q => tls q (kindsL b ts q)
theorem flat_len {α β : Type} {f : α → List β} {c : Nat} {l : List α} (h : ∀ x ∈ l, (f x).length ≤ c) : (l.flatMap f).length ≤ c * l.length := by
  induction l with
  | nil => simp
  | cons x l ih =>
    have h1 := h x List.mem_cons_self
    have h2 := ih fun y hy => h y (List.mem_cons_of_mem _ hy)
    rw [List.flatMap_cons, List.length_append, List.length_cons, Nat.mul_succ]
    omega
theorem colP_len (x h : Nat) : (colP x h).length = h := by simp [colP]
theorem allP_len {b : Bed} (hw : b.w ≤ 12) (hh : b.h ≤ 12) : (allP b).length ≤ 144 := by
  have h1 := flat_len (f := fun x => colP x b.h) (c := b.h) (l := List.range b.w) fun x _ => Nat.le_of_eq (colP_len x b.h)
  rw [List.length_range] at h1
  have h2 : b.h * b.w ≤ 12 * 12 := Nat.mul_le_mul hh hw
  unfold allP
  omega
theorem emptyL_len {b : Bed} {ts : List Tl} (hw : b.w ≤ 12) (hh : b.h ≤ 12) : (emptyL b ts).length ≤ 144 := Nat.le_trans (List.length_filter_le _ _) (allP_len hw hh)
theorem tls_len (q : Pl) (ks : List Nat) : (tls q ks).length = ks.length := by simp [tls]
theorem kindsL_len (b : Bed) (ts : List Tl) (q : Pl) : (kindsL b ts q).length ≤ b.ks.length := by
  have := List.length_filter_le (fitK b ts q) (List.range b.ks.length)
  rw [List.length_range] at this
  exact this
theorem law_empty_ok {b : Bed} {ts : List Tl} {S : Store} {t : Nat} (hn : (ts.map tpl).Nodup) (hw : b.w ≤ 12) (hh : b.h ≤ 12) (H3 : S[t]? = some (.dT (lyK ts))) :
    Ok (d_law_empty [bedD b, .loc t] S) fun r S' => r = .lst ((emptyL b ts).map pl) ∧ S' = S := by
  unfold d_law_empty
  refine gcF_pure ?_
  walk_at "den"
  unfold m_law_empty
  obtain ⟨n, hl⟩ : ∃ n, S.length = n := ⟨_, rfl⟩
  walk_at "vs"
  rw [hl]
  walk_at "vs"
  refine rng_of (m := b.w) rfl (by omega) ?_
  refine w_each (fun l σ S' => ∃ x3 x4 x5 x6 : Option D, S' = S ++ [.lst (((l.flatMap fun x => colP x b.h).filter (empP ts)).map pl)] ∧ σ = [some (bedD b), some (.loc t), some (.loc n), x3, x4, x5, x6]) ⟨_, _, _, _, rfl, rfl⟩ no_guardE ?_ ?_
  · rintro l x r σ S' e0 ⟨x3, x4, x5, x6, rfl, rfl⟩
    have hll : l.length ≤ 12 := by have := congrArg List.length e0; simp at this; omega
    have hb1 : ((l.flatMap fun x => colP x b.h).filter (empP ts)).length ≤ 144 := by
      have h1 := flat_len (f := fun x => colP x b.h) (c := b.h) (l := l) fun x _ => Nat.le_of_eq (colP_len x b.h)
      have h2 : b.h * l.length ≤ 12 * 12 := Nat.mul_le_mul hh hll
      exact Nat.le_trans (List.length_filter_le _ _) (by omega)
    obtain ⟨acc, hacc⟩ : ∃ acc, (l.flatMap fun x => colP x b.h).filter (empP ts) = acc := ⟨_, rfl⟩
    rw [hacc] at hb1
    unfold b2_law_empty
    walk_at "vs"
    refine rng_of (m := b.h) rfl (by omega) ?_
    rw [hacc]
    refine w_each (fun l2 σ S' => ∃ x4 x5 x6 : Option D, S' = S ++ [.lst ((acc ++ (l2.map fun y : Nat => (((x : Int), (y : Int)) : Pl)).filter (empP ts)).map pl)] ∧ σ = [some (bedD b), some (.loc t), some (.loc n), some (.int x), x4, x5, x6]) ⟨_, _, _, by simp, rfl⟩ no_guardE ?_ ?_
    · rintro l2 y r2 σ S' e1 ⟨x4, x5, x6, rfl, rfl⟩
      have hb2 : (acc ++ (l2.map fun y : Nat => (((x : Int), (y : Int)) : Pl)).filter (empP ts)).length ≤ 200 := by
        have h1 : l2.length ≤ 12 := by have := congrArg List.length e1; simp at this; omega
        have h2 := List.length_filter_le (empP ts) (l2.map fun y : Nat => (((x : Int), (y : Int)) : Pl))
        rw [List.length_map] at h2
        rw [List.length_append]
        omega
      rw [List.map_append (l₁ := l2), List.filter_append (l₁ := l2.map _), ← List.append_assoc]
      obtain ⟨ac2, hac2⟩ : ∃ ac2, acc ++ (l2.map fun y : Nat => (((x : Int), (y : Int)) : Pl)).filter (empP ts) = ac2 := ⟨_, rfl⟩
      rw [hac2] at hb2 ⊢
      have H3' := app_at (t := [.lst (ac2.map pl)]) H3
      unfold b1_law_empty
      walk_at "vs"
      refine rng_of (m := 4) rfl (by omega) ?_
      walk_at "vs"
      refine k_lcP (fun s : Nat => decide (stp ((x : Int), (y : Int)) s ∈ ts.map tpl)) (fun s => .int s) (fun _ h => (List.not_mem_nil h).elim) (fun s hs => ?_) ?_
      · have hs4 := List.mem_range.mp hs
        unfold t1_law_empty e1_law_empty
        walk_at "vs"
        refine (law_step_ok (q := ((x : Int), (y : Int))) hs4 _).imp ?_
        rintro _ _ ⟨rfl, rfl⟩
        walk_at "vs"
        refine p_inLy hn H3' ?_
        walk_at "vs"
        refine ⟨by rw [Bool.false_xor], br_if (fun h => ?_) (fun h => rfl)⟩
        walk_at "vs"
        exact ⟨rfl, rfl⟩
      walk_at "vs"
      refine p_inLy (q := ((x : Int), (y : Int))) hn H3' ?_
      walk_at "vs"
      have e2 : (List.range 4).filter (fun s : Nat => decide (stp ((x : Int), (y : Int)) s ∈ ts.map tpl)) = nearL ts ((x : Int), (y : Int)) := rfl
      rw [e2]
      refine br_dec (fun h0 => ?_) (fun h0 => ?_)
      · walk_at "vs"
        have e3 : empP ts ((x : Int), (y : Int)) = false := by unfold empP freeP; rw [decide_eq_false (fun z => z h0)]; rfl
        rw [List.map_singleton, List.filter_cons_of_neg (by rw [e3]; exact Bool.false_ne_true), List.filter_nil, List.append_nil]
        exact ⟨_, _, _, rfl, rfl⟩
      · walk_at "vs"
        have e3 : empP ts ((x : Int), (y : Int)) = !(nearL ts ((x : Int), (y : Int))).isEmpty := by unfold empP freeP; rw [decide_eq_true h0]; rfl
        refine p_eqE (pls_map fun _ _ => pl_int _ _) ?_
        walk_at "vs"
        rw [List.map_singleton]
        refine br_if (fun h1 => ?_) (fun h1 => ?_)
        · rw [List.filter_cons_of_neg (by rw [e3]; simp at h1; simp [h1]), List.filter_nil, List.append_nil]
          walk_at "vs"
          exact ⟨_, _, _, rfl, rfl⟩
        · rw [List.filter_cons_of_pos (by rw [e3]; simp at h1; simp [h1]), List.filter_nil]
          walk_at "vs"
          exact ⟨_, _, _, by rw [List.map_append]; rfl, rfl⟩
    · rintro σ S' ⟨x4, x5, x6, rfl, rfl⟩
      refine ⟨_, _, _, _, ?_, rfl⟩
      rw [List.flatMap_append, List.filter_append, hacc]
      simp [colP]
  · rintro σ S' ⟨x3, x4, x5, x6, rfl, rfl⟩
    walk_at "vs"
    exact ⟨[_], 0, _, rfl, rfl, rfl, sc_map fun _ => rfl, rfl, rfl⟩
theorem kAt_nat {b : Bed} {k : Nat} (h : k < b.ks.length) : b.ks[k]? = some (kAt b (k : Int)) := by
  obtain ⟨n, hn, e⟩ := kAt_at (b := b) (z := (k : Int)) ⟨by omega, by omega⟩
  have : n = k := by omega
  rw [this] at e
  exact e
theorem law_may_ok {b : Bed} {ts : List Tl} {S : Store} {t : Nat} (ho : TsOk b ts) (hk : KsOk b) (hw : b.w ≤ 12) (hh : b.h ≤ 12) (H3 : S[t]? = some (.dT (lyK ts))) :
    Ok (d_law_may [bedD b, .loc t] S) fun r S' => r = .lst ((mayL b ts).map tl) ∧ S' = S := by
  unfold d_law_may
  refine gcF_pure ?_
  walk_at "den"
  unfold m_law_may
  obtain ⟨n, hl⟩ : ∃ n, S.length = n := ⟨_, rfl⟩
  have hkl := ho.kl
  have hel := emptyL_len (ts := ts) hw hh
  walk_at "vs"
  rw [hl]
  walk_at "vs"
  refine (law_empty_ok ho.nd hw hh (app_at H3)).imp ?_
  rintro _ _ ⟨rfl, rfl⟩
  walk_at "vs"
  refine w_each (fun l σ S' => ∃ x3 x4 : Option D, S' = S ++ [.lst ((l.flatMap fun q => tls q (kindsL b ts q)).map tl)] ∧ σ = [some (bedD b), some (.loc t), some (.loc n), x3, x4]) ⟨_, _, rfl, rfl⟩ no_guardE ?_ ?_
  · rintro l q r σ S' e0 ⟨x3, x4, rfl, rfl⟩
    have hll : l.length ≤ 144 := by have := congrArg List.length e0; simp at this; omega
    have hb1 : (l.flatMap fun q => tls q (kindsL b ts q)).length ≤ 144000 := by
      have h1 := flat_len (f := fun q => tls q (kindsL b ts q)) (c := 1000) (l := l) fun q _ => by rw [tls_len]; exact Nat.le_trans (kindsL_len b ts q) hkl
      omega
    obtain ⟨acc, hacc⟩ : ∃ acc, (l.flatMap fun q => tls q (kindsL b ts q)) = acc := ⟨_, rfl⟩
    rw [hacc] at hb1 ⊢
    unfold b2_law_may
    walk_at "vs"
    rw [List.length_map]
    refine rng_of (m := b.ks.length) rfl (by omega) ?_
    refine w_each (fun l2 σ S' => ∃ x4 : Option D, S' = S ++ [.lst ((acc ++ tls q (l2.filter (fitK b ts q))).map tl)] ∧ σ = [some (bedD b), some (.loc t), some (.loc n), some (pl q), x4]) ⟨_, by simp [tls], rfl⟩ no_guardE ?_ ?_
    · rintro l2 k r2 σ S' e1 ⟨x4, rfl, rfl⟩
      have hkk : k < b.ks.length := by
        have : k ∈ List.range b.ks.length := by rw [e1]; simp
        exact List.mem_range.mp this
      have hl2 : l2.length < 1000 := by have := congrArg List.length e1; simp at this; omega
      have hb2 : (acc ++ tls q (l2.filter (fitK b ts q))).length ≤ 145000 := by
        have h2 := List.length_filter_le (fitK b ts q) l2
        rw [List.length_append, tls_len]
        omega
      obtain ⟨ac2, hac2⟩ : ∃ ac2, acc ++ tls q (l2.filter (fitK b ts q)) = ac2 := ⟨_, rfl⟩
      have e2 : acc ++ tls q ((l2 ++ [k]).filter (fitK b ts q)) = ac2 ++ tls q ([k].filter (fitK b ts q)) := by
        rw [List.filter_append, ← hac2]
        simp [tls]
      rw [e2]
      rw [hac2] at hb2 ⊢
      have hkn := kAt_nat hkk
      unfold b1_law_may
      walk_at "vs"
      refine (law_by_ok ho (hk _ (List.mem_of_getElem? hkn)) (app_at H3) hkn).imp ?_
      rintro _ _ ⟨rfl, rfl⟩
      walk_at "vs"
      refine br_dec (fun h0 => ?_) (fun h0 => ?_)
      · rw [List.filter_cons_of_pos (show fitK b ts q k = true from decide_eq_true h0), List.filter_nil]
        walk_at "vs"
        exact ⟨_, by rw [List.map_append]; rfl, rfl⟩
      · rw [List.filter_cons_of_neg (show ¬ fitK b ts q k = true by unfold fitK; rw [decide_eq_true_eq]; exact h0), List.filter_nil]
        walk_at "vs"
        exact ⟨_, by simp [tls], rfl⟩
    · rintro σ S' ⟨x4, rfl, rfl⟩
      refine ⟨_, _, ?_, rfl⟩
      rw [List.flatMap_append, hacc]
      simp [kindsL]
  · rintro σ S' ⟨x3, x4, rfl, rfl⟩
    walk_at "vs"
    exact ⟨[_], 0, _, rfl, rfl, rfl, sc_map fun _ => rfl, rfl, rfl⟩
theorem mayL_gr {b : Bed} {ts : List Tl} {t : Tl} (h : t ∈ mayL b ts) : Gr b ts t := by
  obtain ⟨q, hq, h1⟩ := List.mem_flatMap.mp h
  obtain ⟨k, hk, rfl⟩ := List.mem_map.mp h1
  obtain ⟨h2, h3⟩ := List.mem_filter.mp hk
  obtain ⟨h4, h5⟩ := List.mem_filter.mp hq
  unfold fitK at h3
  rw [decide_eq_true_eq] at h3
  have h6 := List.mem_range.mp h2
  obtain ⟨x, hx, hy⟩ := List.mem_flatMap.mp h4
  obtain ⟨y, hy1, rfl⟩ := List.mem_map.mp hy
  have h7 := List.mem_range.mp hx
  have h8 := List.mem_range.mp hy1
  unfold empP freeP at h5
  rw [Bool.and_eq_true, decide_eq_true_eq] at h5
  exact ⟨⟨⟨by simp [tpl], by simp [tpl]; omega⟩, by simp [tpl], by simp [tpl]; omega⟩, h5.1, ⟨by simp, by simpa using h6⟩, h3⟩
theorem mayL_len {b : Bed} {ts : List Tl} (hkl : b.ks.length ≤ 1000) (hw : b.w ≤ 12) (hh : b.h ≤ 12) : (mayL b ts).length ≤ 144000 := by
  have hel := emptyL_len (ts := ts) hw hh
  have h1 := flat_len (f := fun q => tls q (kindsL b ts q)) (c := 1000) (l := emptyL b ts) fun q _ => by rw [tls_len]; exact Nat.le_trans (kindsL_len b ts q) hkl
  unfold mayL
  omega
structure BedS (b : Bed) : Prop where
  hs : HsB b
  w1 : 1 ≤ b.w ∧ b.w ≤ 12
  h1 : 1 ≤ b.h ∧ b.h ≤ 12
  sd : Stn b.w b.h b.ks.length b.seed
  sl : b.seed.length ≤ 6
theorem BedS.ku {b : Bed} (h : BedS b) : ∀ k ∈ b.ks, KdU k := fun k hk => (h.hs.ko k hk).u fun x hx => by
  obtain ⟨y, hy, rfl⟩ := List.mem_map.mp hx
  exact h.hs.nm y hy
/-! ### what may lie on a bed's floor -/
structure Lay (b : Bed) (ts : List Tl) : Prop where
  nd : (ts.map tpl).Nodup
  ok : ∀ t ∈ ts, TlOk b.w b.h b.ks.length t
theorem BedS.lay {b : Bed} (h : BedS b) : Lay b b.seed := ⟨h.sd.nd, h.sd.ok⟩
theorem Stn.lay {b : Bed} {ts : List Tl} (h : Stn b.w b.h b.ks.length ts) : Lay b ts := ⟨h.nd, h.ok⟩
theorem Lay.ts {b : Bed} {ts : List Tl} (hb : BedS b) (h : Lay b ts) : TsOk b ts := ⟨h.nd, fun t ht => (h.ok t ht).2.2, by have := hb.hs.km; omega, hb.ku⟩
theorem BedS.ksok {b : Bed} (hb : BedS b) : KsOk b := fun k hk => (hb.hs.ko k hk).2.2
theorem Gr.lay {b : Bed} {ts : List Tl} {t : Tl} (h : Gr b ts t) (hl : Lay b ts) : Lay b (ts ++ [t]) :=
  ⟨nd_snoc hl.nd h.2.1, fun x hx => by
    rcases List.mem_append.mp hx with hx | hx
    · exact hl.ok x hx
    · rw [List.mem_singleton.mp hx]; exact ⟨h.1.1, h.1.2, h.2.2.1⟩⟩
theorem Lay.small {b : Bed} {ts : List Tl} (hb : BedS b) (h : Lay b ts) : ∀ t ∈ ts, (0 ≤ t.1 ∧ t.1 < 1000) ∧ (0 ≤ t.2.1 ∧ t.2.1 < 1000) ∧ (0 ≤ t.2.2 ∧ t.2.2 < 1000) := fun t ht => by
  obtain ⟨h1, h2, h3⟩ := h.ok t ht
  have := hb.w1; have := hb.h1; have := hb.hs.km
  omega
/-- each is a growing on what lies ahead of it -/
def Row (b : Bed) : List Tl → List Tl → Prop
  | _, [] => True
  | ts, t :: r => Gr b ts t ∧ Row b (ts ++ [t]) r
theorem Row.app {b : Bed} : ∀ {ts r s : List Tl}, Row b ts (r ++ s) ↔ Row b ts r ∧ Row b (ts ++ r) s
  | ts, [], s => by simp [Row]
  | ts, t :: r, s => by
    rw [List.cons_append]
    simp only [Row]
    rw [Row.app (ts := ts ++ [t]) (r := r), List.append_assoc, List.singleton_append, and_assoc]
theorem Row.lay {b : Bed} : ∀ {ts r : List Tl}, Row b ts r → Lay b ts → Lay b (ts ++ r)
  | ts, [], _, hl => by rw [List.append_nil]; exact hl
  | ts, t :: r, h, hl => by
    have := Row.lay h.2 (h.1.lay hl)
    rwa [List.append_assoc, List.singleton_append] at this
theorem Row.snoc {b : Bed} {ts r : List Tl} {t : Tl} (h : Row b ts r) (g : Gr b (ts ++ r) t) : Row b ts (r ++ [t]) := Row.app.mpr ⟨h, g, trivial⟩
theorem law_walk_ok {p m : Nat} {b : Bed} (hb : BedS b) (hm : m ≤ 100) : ∀ S N, N ≤ 800000000 → Pot S p N → Ok (d_law_walk [.loc p, bedD b, .int m] S) fun d S' => Fr S p (N + m) S' ∧ ∃ row : List Tl, Row b b.seed row ∧ row.length ≤ m ∧ d = .tup (row.map tl) := by
  intro S0 N hN h
  unfold d_law_walk
  refine gc_fr (p := p) (N := N + m) ?_
  walk_at "den"
  unfold m_law_walk
  have hF := Fr.refl h
  obtain ⟨n, hl⟩ : ∃ n, S0.length = n := ⟨_, rfl⟩
  have h0l := hl
  have hlt := h.lt
  have hsl := hb.sl
  walk_at "vs"
  refine (law_lying_ok b.seed _).imp ?_
  rintro _ _ ⟨rfl, rfl⟩
  walk_at "vs"
  rw [List.length_append, List.append_assoc, List.singleton_append, List.length_singleton, hl]
  walk_at "vs"
  refine rng_of (m := m) rfl (by omega) ?_
  refine w_each (fun l σ S' => ∃ (S1 : Store) (row : List Tl) (x5 x6 x7 : Option D), S' = S1 ++ [.dT (lyK (b.seed ++ row)), .lst (row.map tl)] ∧ Fr S0 p (N + l.length) S1 ∧ S1.length = n ∧ Row b b.seed row ∧ row.length ≤ l.length ∧
    σ = [some (.loc p), some (bedD b), some (.int m), some (.loc n), some (.loc (n + 1)), x5, x6, x7]) ⟨S0, [], none, none, none, by rw [List.append_nil]; rfl, hF, hl, trivial, by simp, rfl⟩ no_guardE ?_ ?_
  · rintro l k r σ S' e0 ⟨S, row, x5, x6, x7, rfl, hF, hl, hrow, hrl, rfl⟩
    have hll : l.length < m := by have := congrArg List.length e0; simp at this; omega
    have hlay := hrow.lay hb.lay
    have hto := hlay.ts hb
    have hmx := mayL_len (ts := b.seed ++ row) (b := b) (by have := hb.hs.km; omega) hb.w1.2 hb.h1.2
    unfold b1_law_walk
    walk_at "vs"
    refine (law_may_ok hto hb.ksok hb.w1.2 hb.h1.2 (get_go0 hl rfl)).imp ?_
    rintro _ _ ⟨rfl, rfl⟩
    walk_at "vs"
    refine p_eqE (pls_map fun _ _ => pl_tl _ _) ?_
    walk_at "vs"
    refine br_if (fun h0 => ?_) (fun h0 => ?_)
    · walk_at "vs"
      exact ⟨S, row, _, _, _, rfl, hF.mono (by rw [List.length_append]; omega), hl, hrow, by rw [List.length_append]; omega, rfl⟩
    · have hpos : 0 < (mayL b (b.seed ++ row)).length := by
        cases hz : mayL b (b.seed ++ row) with
        | nil => rw [hz] at h0; simp at h0
        | cons _ _ => simp
      walk_at "vs"
      rw [List.length_map]
      refine k_next hF hl fun v S hv hF hl => ?_
      have hvl : v < (mayL b (b.seed ++ row)).length := by omega
      have hg := mayL_gr (List.getElem_mem hvl)
      obtain ⟨t, ht⟩ : ∃ t, (mayL b (b.seed ++ row))[v] = t := ⟨_, rfl⟩
      have hvt : (mayL b (b.seed ++ row))[v]? = some t := by rw [List.getElem?_eq_getElem hvl, ht]
      rw [ht] at hg
      walk_at "vs"
      refine p_putLy (q := (t.1, t.2.1)) (ts := b.seed ++ row) (get_go0 hl rfl) (by rw [List.length_append]; omega) ?_
      walk_at "vs"
      refine ⟨S, row ++ [t], _, _, _, ?_, hF.mono (by rw [List.length_append, List.length_singleton]; omega), hl, hrow.snoc hg, by rw [List.length_append, List.length_append]; simp; omega, rfl⟩
      rw [← List.append_assoc, List.map_append]
      rfl
  · rintro σ S' ⟨S, row, x5, x6, x7, rfl, hF, hl, hrow, hrl, rfl⟩
    rw [List.length_range] at hF hrl
    walk_at "vs"
    exact ⟨S, _, rfl, hF, by simp only [D.sc]; exact sc_map fun _ => rfl, hF, row, hrow, hrl, rfl⟩
/-! ### rows.py -/
theorem gcO_t1 {den : List D → Store → Res D} {ds : List D} {S g : Store} {k : Nat} {o : Ob} {e : D} (h : den ds S = .ok (.tup [.loc (S.length + k), e]) (S ++ g)) (he : g[k]? = some o) (hs : o.sc S.length = true) (hr : rm1 S.length (S.length + k) e = some e) : gcO den ds S = .ok (.tup [.loc S.length, e]) (S ++ [o]) := by
  unfold gcO
  rw [h]
  have e0 : freshL S.length (.tup [.loc (S.length + k), e]) = some (S.length + k) := by simp [freshL]
  have e1 : (S ++ g)[S.length + k]? = some o := by
    rw [List.getElem?_append_right (by omega), ← he]
    congr 1
    omega
  have e2 : rmD S.length (S.length + k) (.tup [.loc (S.length + k), e]) = some (.tup [.loc S.length, e]) := by
    simp only [rmD, List.mapM_cons, List.mapM_nil, hr]
    simp [rm1]
  simp only [e0, e1, e2]
  rw [if_pos ⟨Kept.of rfl fun _ _ => .inl rfl, by omega, hs⟩, List.take_left]
theorem gcO_non {den : List D → Store → Res D} {ds : List D} {S g : Store} {d : D} (h : den ds S = .ok d (S ++ g)) (hf : freshL S.length d = none) (hs : d.sc S.length = true) : gcO den ds S = .ok d S := by
  unfold gcO
  rw [h]
  simp only [hf]
  rw [if_pos ⟨Kept.of rfl fun _ _ => .inl rfl, hs⟩, List.take_left]
theorem is_wholeI_ok (i : Int) (S : Store) : Ok (d_is_whole [.int i] S) fun d S' => d = .bl true ∧ S' = S := by
  unfold d_is_whole
  refine gc_pure ?_
  walk_at "den"
  unfold m_is_whole
  walk_at "vs"
  exact ⟨⟨[], (List.append_nil _).symm⟩, rfl, rfl, rfl⟩
theorem is_tileT_ok (t : Tl) (S : Store) : Ok (d_is_tile [tl t] S) fun d S' => d = .bl true ∧ S' = S := by
  unfold d_is_tile
  refine gc_pure ?_
  walk_at "den"
  unfold m_is_tile
  walk_at "vs"
  refine br_T (decide_eq_true rfl) ?_
  walk_at "vs"
  rw [show ([.int t.1, .int t.2.1, .int t.2.2] : List D) = [t.1, t.2.1, t.2.2].map D.int from rfl]
  refine k_lcM1 (fun _ => .bl true) (fun _ h => (List.not_mem_nil h).elim) (fun i hi => ?_) ?_
  · unfold e1_is_tile
    walk_at "vs"
    refine (is_wholeI_ok i _).imp ?_
    rintro _ _ ⟨rfl, rfl⟩
    exact ⟨rfl, rfl⟩
  rw [show ([t.1, t.2.1, t.2.2].map fun _ => D.bl true) = ([t.1, t.2.1, t.2.2].map fun _ => true).map D.bl from rfl]
  walk_at "vs"
  refine p_all ?_
  rw [all_true]
  exact ⟨⟨[], (List.append_nil _).symm⟩, rfl, rfl, rfl⟩
theorem are_tilesT_ok (ts : List Tl) (S : Store) : Ok (d_are_tiles [.tup (ts.map tl)] S) fun d S' => d = .bl true ∧ S' = S := by
  unfold d_are_tiles
  refine gc_pure ?_
  walk_at "den"
  unfold m_are_tiles
  walk_at "vs"
  refine k_eq (x := .bl true) (S := S) rfl ?_
  walk_at "vs"
  refine k_lcM1 (fun _ => .bl true) (fun _ h => (List.not_mem_nil h).elim) (fun t ht => ?_) ?_
  · unfold e1_are_tiles
    walk_at "vs"
    refine (is_tileT_ok t _).imp ?_
    rintro _ _ ⟨rfl, rfl⟩
    exact ⟨rfl, rfl⟩
  rw [show (ts.map fun _ => D.bl true) = (ts.map fun _ => true).map D.bl by rw [List.map_map]; rfl]
  walk_at "vs"
  refine p_all ?_
  rw [all_true]
  exact ⟨⟨[], (List.append_nil _).symm⟩, rfl, rfl, rfl⟩
/-- what the program's walk tells -/
def WalkR (b : Bed) (row : List Tl) (S : Store) (d : D) (S' : Store) : Prop :=
  (Row b b.seed row ∧ d = .tup [.loc S.length, .non] ∧ S' = S ++ [.dT (lyK (b.seed ++ row))]) ∨
  ∃ l x r, row = l ++ x :: r ∧ Row b b.seed l ∧ ¬ Gr b (b.seed ++ l) x ∧ d = .tup [.non, .int l.length] ∧ S' = S
open Classical in
theorem walk_ok {b : Bed} (hb : BedS b) {row : List Tl} (hr : row.length ≤ 1000) (S : Store) : Ok (d_walk [bedD b, .tup (row.map tl)] S) (WalkR b row S) := by
  have key : Ok (denOf 6 m_walk [bedD b, .tup (row.map tl)] S) fun d S' =>
      (Row b b.seed row ∧ d = .tup [.loc (S.length + 2), .non] ∧ S' = S ++ [.ins "Holder" (hFs b (S.length + 1)), .dK (stK b), .dT (lyK (b.seed ++ row))]) ∨
      ∃ l x r g, row = l ++ x :: r ∧ Row b b.seed l ∧ ¬ Gr b (b.seed ++ l) x ∧ d = .tup [.non, .int l.length] ∧ S' = S ++ g := by
    walk_at "den"
    unfold m_walk
    obtain ⟨n, hl⟩ : ∃ n, S.length = n := ⟨_, rfl⟩
    have hsl := hb.sl
    walk_at "vs"
    refine k_make ?_
    walk_at "vs"
    refine ⟨rfl, ?_⟩
    rw [hl]
    refine (init_ok b hl).imp ?_
    rintro _ _ ⟨rfl, rfl⟩
    refine ⟨rfl, ?_⟩
    walk_at "vs"
    refine (lying_ok b.seed _).imp ?_
    rintro _ _ ⟨rfl, rfl⟩
    rw [List.length_append, hl, List.append_assoc]
    walk_at "vs"
    refine k_en enumSrc_tup ?_
    rw [enum_map]
    refine w_each (fun l σ S' => ∃ x4 x5 : Option D, S' = S ++ [.ins "Holder" (hFs b (n + 1)), .dK (stK b), .dT (lyK (b.seed ++ l.map Prod.fst))] ∧ Row b b.seed (l.map Prod.fst) ∧ l.map Prod.snd = List.range l.length ∧
      σ = [some (bedD b), some (.tup (row.map tl)), some (.loc n), some (.loc (n + 2)), x4, x5]) ⟨none, none, by rw [List.map_nil, List.append_nil]; rfl, trivial, rfl, rfl⟩ no_guardE ?_ ?_
    · rintro l ⟨t, j⟩ r σ S' e0 ⟨x4, x5, rfl, hrow, hidx, rfl⟩
      have e1 : row = l.map Prod.fst ++ t :: r.map Prod.fst := by
        have := congrArg (List.map Prod.fst) e0
        rw [List.map_append, List.map_cons] at this
        rw [← this]
        simp
      have hj : j = l.length := by
        have := congrArg (fun z => z[l.length]?) e0
        simp only [List.getElem?_append_right (Nat.le_refl _), Nat.sub_self, List.getElem?_cons_zero, List.getElem?_zipIdx] at this
        obtain ⟨a, ha, h2⟩ := Option.map_eq_some_iff.mp this
        have := congrArg Prod.snd h2
        simp at this
        omega
      have hll : l.length < 1000 := by have := congrArg List.length e1; simp at this; omega
      have hlay := hrow.lay hb.lay
      unfold b1_walk
      walk_at "vs"
      refine k_meth ?_
      walk_at "vs"
      refine ⟨n, _, rfl, get_go0 hl rfl, hF_m7 b (n + 1), ?_⟩
      walk_at "vs"
      refine ⟨rfl, (fits_ok (hlay.ts hb) hb.ksok (get_go0 hl rfl) (get_go (k := 1) hl rfl) (get_go (k := 2) hl rfl)).imp ?_⟩
      rintro _ _ ⟨rfl, rfl⟩
      walk_at "vs"
      refine br_dec (fun h0 => ?_) (fun h0 => ?_)
      · walk_at "vs"
        refine p_putLy (q := (t.1, t.2.1)) (ts := b.seed ++ l.map Prod.fst) (get_go (k := 2) hl rfl) (by rw [List.length_append, List.length_map]; omega) ?_
        walk_at "vs"
        refine ⟨_, _, ?_, ?_, ?_, rfl⟩
        · rw [List.map_append, ← List.append_assoc]
          rfl
        · rw [List.map_append]
          exact hrow.snoc h0
        · rw [List.map_append, hidx, List.length_append, List.length_singleton, List.range_succ, hj]
          rfl
      · walk_at "vs"
        exact .inr ⟨l.map Prod.fst, t, r.map Prod.fst, _, e1, hrow, h0, by rw [List.length_map, hj], rfl⟩
    · rintro σ S' ⟨x4, x5, rfl, hrow, hidx, rfl⟩
      walk_at "vs"
      have e : row.zipIdx.map Prod.fst = row := by simp
      rw [e] at hrow
      rw [e]
      exact .inl ⟨hrow, rfl, rfl⟩
  obtain ⟨d, S', e, h | h⟩ := key
  · obtain ⟨h1, rfl, rfl⟩ := h
    exact k_eq (gcO_t1 (k := 2) e rfl (sc_ly _ _) rfl) (.inl ⟨h1, rfl, rfl⟩)
  · obtain ⟨l, x, r, g, h1, h2, h3, rfl, rfl⟩ := h
    exact k_eq (gcO_non e rfl rfl) (.inr ⟨l, x, r, h1, h2, h3, rfl, rfl⟩)
theorem is_row_ok {b : Bed} (hb : BedS b) {row : List Tl} (hr : row.length ≤ 900) (h : Row b b.seed row) (S : Store) : Ok (d_is_row [bedD b, .tup (row.map tl)] S) fun d S' => d = .bl true ∧ S' = S := by
  unfold d_is_row
  refine gc_pure ?_
  walk_at "den"
  unfold m_is_row
  walk_at "vs"
  refine (are_tilesT_ok row S).imp ?_
  rintro _ _ ⟨rfl, rfl⟩
  walk_at "vs"
  refine (walk_ok hb (by omega) _).imp ?_
  rintro d S' (⟨h1, rfl, rfl⟩ | ⟨l, x, r, h1, h2, h3, rfl, rfl⟩)
  · walk_at "vs"
    try refine p_isNl ?_
    walk_at "vs"
    exact ⟨⟨_, rfl⟩, rfl, rfl, rfl⟩
  · exfalso
    rw [h1] at h
    exact h3 (Row.app.mp h).2.1
/-! ### things of any kind -/
def dctO : Ob → Bool
  | .dK _ => true
  | .dT _ => true
  | _ => false
inductive Thg (n : Nat) (t : Store) : D → Prop
  | non : Thg n t .non
  | bl (b : Bool) : Thg n t (.bl b)
  | int (i : Int) : Thg n t (.int i)
  | str (s : Str) : Thg n t (.str s)
  | lst (ds : List D) : Thg n t (.lst ds)
  | loc (k : Nat) (o : Ob) (h : t[k]? = some o) (hd : dctO o = true) : Thg n t (.loc (n + k))
  | tup (ds : List D) (h : ∀ d ∈ ds, Thg n t d) : Thg n t (.tup ds)
theorem Thg.app {n : Nat} {t g : Store} {d : D} (h : Thg n t d) : Thg n (t ++ g) d := by
  induction h with
  | non => exact .non
  | bl b => exact .bl b
  | int i => exact .int i
  | str s => exact .str s
  | lst ds => exact .lst ds
  | loc k o h hd => exact .loc k o (by rw [List.getElem?_append_left (List.getElem?_eq_some_iff.mp h).1]; exact h) hd
  | tup ds h ih => exact .tup ds ih
def isInt : D → Bool
  | .int _ => true
  | _ => false
def isTile : D → Bool
  | .tup ds => decide (ds.length = 3) && ds.all isInt
  | _ => false
def areT : D → Bool
  | .tup ds => ds.all isTile
  | _ => false
theorem isi_tuple_d {S : Store} {l : Nat} {o : Ob} (h : S[l]? = some o) (hd : dctO o = true) : isiD "tuple" (.loc l) S = .ok (.bl false) S := by
  have h2 : (("dict" : String) == "tuple") = false := by decide
  cases o <;> first | (cases hd; done) | (simp only [isiD, tyName, h, h2]; rfl)
theorem isi_int_d {S : Store} {l : Nat} {o : Ob} (h : S[l]? = some o) (hd : dctO o = true) : isiD "int" (.loc l) S = .ok (.bl false) S := by
  cases o <;> first | (cases hd; done) | (simp only [isiD, tyName, h]; rfl)
theorem isiA_d {S : Store} {l : Nat} {o : Ob} (h : S[l]? = some o) (hd : dctO o = true) : isiAD "tuple" (.loc l) S = .ok (.bl false) S := by
  have e : isiAD "tuple" (.loc l) S = isiD "tuple" (.loc l) S := by
    unfold isiAD
    simp only [h]
    cases o <;> first | (cases hd; done) | rfl
  rw [e]
  exact isi_tuple_d h hd
theorem is_whole_any {n : Nat} {S1 t : Store} {x : D} (hl : S1.length = n) (h : Thg n t x) : Ok (d_is_whole [x] (S1 ++ t)) fun d S' => d = .bl (isInt x) ∧ S' = S1 ++ t := by
  unfold d_is_whole
  refine gc_pure ?_
  walk_at "den"
  unfold m_is_whole
  cases h with
  | loc k o h hd =>
    walk_at "vs"
    refine k_eq (isi_int_d (by rw [st_get hl]; exact h) hd) ?_
    walk_at "vs"
    exact ⟨⟨[], (List.append_nil _).symm⟩, rfl, rfl, rfl⟩
  | _ =>
    walk_at "vs"
    exact ⟨⟨[], (List.append_nil _).symm⟩, rfl, rfl, rfl⟩
theorem is_tile_tup {n : Nat} {S1 t : Store} {ds : List D} (hl : S1.length = n) (h : ∀ d ∈ ds, Thg n t d) : Ok (d_is_tile [.tup (ds.map id)] (S1 ++ t)) fun d S' => d = .bl (decide (ds.length = 3) && ds.all isInt) ∧ S' = S1 ++ t := by
  unfold d_is_tile
  refine gc_pure ?_
  walk_at "den"
  unfold m_is_tile
  walk_at "vs"
  rw [List.length_map]
  refine br_dec (fun h1 => ?_) (fun h1 => ?_)
  case refine_2 =>
    walk_at "vs"
    exact ⟨⟨[], (List.append_nil _).symm⟩, rfl, by rw [decide_eq_false (by omega)]; rfl, rfl⟩
  walk_at "vs"
  refine k_lcM1 (fun x => .bl (isInt x)) (fun _ h => (List.not_mem_nil h).elim) (fun x hx => ?_) ?_
  · unfold e1_is_tile
    walk_at "vs"
    refine (is_whole_any hl (h x hx)).imp ?_
    rintro _ _ ⟨rfl, rfl⟩
    exact ⟨rfl, rfl⟩
  rw [show (ds.map fun x => D.bl (isInt x)) = (ds.map isInt).map D.bl by rw [List.map_map]; rfl]
  walk_at "vs"
  refine p_all ?_
  exact ⟨⟨[], (List.append_nil _).symm⟩, rfl, by rw [decide_eq_true (by omega), List.all_map]; rfl, rfl⟩
theorem is_tile_any {n : Nat} {S1 t : Store} {x : D} (hl : S1.length = n) (h : Thg n t x) : Ok (d_is_tile [x] (S1 ++ t)) fun d S' => d = .bl (isTile x) ∧ S' = S1 ++ t := by
  cases h with
  | tup ds h =>
    have := is_tile_tup hl h
    rw [List.map_id] at this
    exact this
  | loc k o h hd =>
    unfold d_is_tile
    refine gc_pure ?_
    walk_at "den"
    unfold m_is_tile
    walk_at "vs"
    refine k_eq (isi_tuple_d (by rw [st_get hl]; exact h) hd) ?_
    walk_at "vs"
    exact ⟨⟨[], (List.append_nil _).symm⟩, rfl, rfl, rfl⟩
  | _ =>
    unfold d_is_tile
    refine gc_pure ?_
    walk_at "den"
    unfold m_is_tile
    walk_at "vs"
    exact ⟨⟨[], (List.append_nil _).symm⟩, rfl, rfl, rfl⟩
theorem are_tiles_tup {n : Nat} {S1 t : Store} {ds : List D} (hl : S1.length = n) (h : ∀ d ∈ ds, Thg n t d) : Ok (d_are_tiles [.tup (ds.map id)] (S1 ++ t)) fun d S' => d = .bl (ds.all isTile) ∧ S' = S1 ++ t := by
  unfold d_are_tiles
  refine gc_pure ?_
  walk_at "den"
  unfold m_are_tiles
  walk_at "vs"
  refine k_eq (x := .bl true) (S := S1 ++ t) rfl ?_
  walk_at "vs"
  refine k_lcM1 (fun x => .bl (isTile x)) (fun _ h => (List.not_mem_nil h).elim) (fun x hx => ?_) ?_
  · unfold e1_are_tiles
    walk_at "vs"
    refine (is_tile_any hl (h x hx)).imp ?_
    rintro _ _ ⟨rfl, rfl⟩
    exact ⟨rfl, rfl⟩
  rw [show (ds.map fun x => D.bl (isTile x)) = (ds.map isTile).map D.bl by rw [List.map_map]; rfl]
  walk_at "vs"
  refine p_all ?_
  exact ⟨⟨[], (List.append_nil _).symm⟩, rfl, by rw [List.all_map]; rfl, rfl⟩
theorem are_tiles_any {n : Nat} {S1 t : Store} {x : D} (hl : S1.length = n) (h : Thg n t x) : Ok (d_are_tiles [x] (S1 ++ t)) fun d S' => d = .bl (areT x) ∧ S' = S1 ++ t := by
  cases h with
  | tup ds h =>
    have := are_tiles_tup hl h
    rw [List.map_id] at this
    exact this
  | loc k o h hd =>
    unfold d_are_tiles
    refine gc_pure ?_
    walk_at "den"
    unfold m_are_tiles
    walk_at "vs"
    refine k_eq (isiA_d (by rw [st_get hl]; exact h) hd) ?_
    walk_at "vs"
    exact ⟨⟨[], (List.append_nil _).symm⟩, rfl, rfl, rfl⟩
  | _ =>
    unfold d_are_tiles
    refine gc_pure ?_
    walk_at "den"
    unfold m_are_tiles
    walk_at "vs"
    refine k_eq (x := .bl false) (S := S1 ++ t) rfl ?_
    walk_at "vs"
    exact ⟨⟨[], (List.append_nil _).symm⟩, rfl, rfl, rfl⟩
section
variable {S : Store} {Q : D → Store → Prop} {σ : DSt} {mk mv : DSt → Store → Res D}
theorem k_disp1N (h : Ok (mk σ (S ++ [.dT []])) fun x S1 => Ok (mv σ S1) fun y S2 => S2[S.length]? = some (.dT []) ∧ ∃ k, nkOf x = some k ∧ Q (.loc S.length) (S2.set S.length (.dN [(k, y)]))) : Ok (mDisp1N mk mv σ S) Q := by
  obtain ⟨x, S1, e1, y, S2, e2, h1, k, h2, h3⟩ := h
  unfold mDisp1N
  rw [e1]
  simp only [Res.bind_ok]
  rw [e2]
  simp only [Res.bind_ok, h1, h2]
  exact k_ok h3
theorem k_disp1I (h : Ok (mk σ (S ++ [.dK []])) fun x S1 => Ok (mv σ S1) fun y S2 => S2[S.length]? = some (.dK []) ∧ ∃ i, x = .int i ∧ Q (.loc S.length) (S2.set S.length (.dK [(.inl i, y)]))) : Ok (mDisp1I mk mv σ S) Q := by
  obtain ⟨x, S1, e1, y, S2, e2, h1, i, rfl, h3⟩ := h
  unfold mDisp1I
  rw [e1]
  simp only [Res.bind_ok]
  rw [e2]
  simp only [Res.bind_ok, h1]
  exact k_ok h3
theorem k_dispK1 {ms : DSt → Store → Res (List D)} {k : Str} (h : Ok (ms σ (S ++ [.dK []])) fun ds S2 => S2[S.length]? = some (.dK []) ∧ ∃ y, ds = [y] ∧ Q (.loc S.length) (S2.set S.length (.dK [(.inr k, y)]))) : Ok (mDispK [k] ms σ S) Q := by
  obtain ⟨ds, S2, e2, h1, y, rfl, h3⟩ := h
  unfold mDispK
  rw [e2]
  simp only [Res.bind_ok, h1]
  exact k_if (by simp) (k_ok h3)
end
theorem is_row_not {b : Bed} {n : Nat} {S1 t : Store} {x : D} (hl : S1.length = n) (h : Thg n t x) (hx : areT x = false) : Ok (d_is_row [bedD b, x] (S1 ++ t)) fun d S' => d = .bl false ∧ S' = S1 ++ t := by
  unfold d_is_row
  refine gc_pure ?_
  walk_at "den"
  unfold m_is_row
  walk_at "vs"
  refine (are_tiles_any hl h).imp ?_
  rintro _ _ ⟨rfl, rfl⟩
  rw [hx]
  walk_at "vs"
  exact ⟨⟨[], (List.append_nil _).symm⟩, rfl, rfl, rfl⟩
theorem is_row_dN {b : Bed} {S : Store} {l : Nat} {kvs : List (NK × D)} (h : S[l]? = some (.dN kvs)) : Ok (d_is_row [bedD b, .loc l] S) fun d S' => d = .bl false ∧ S' = S := by
  unfold d_is_row
  refine gc_pure ?_
  walk_at "den"
  unfold m_is_row
  walk_at "vs"
  have ht : Ok (d_are_tiles [.loc l] S) fun d S' => d = .bl false ∧ S' = S := by
    unfold d_are_tiles
    refine gc_pure ?_
    walk_at "den"
    unfold m_are_tiles
    walk_at "vs"
    have e : isiAD "tuple" (.loc l) S = .ok (.bl false) S := by
      have h2 : kitB "dict" "tuple" = some false := by decide +kernel
      simp only [isiAD, h, h2]
    refine k_eq e ?_
    walk_at "vs"
    exact ⟨⟨[], (List.append_nil _).symm⟩, rfl, rfl, rfl⟩
  refine ht.imp ?_
  rintro _ _ ⟨rfl, rfl⟩
  walk_at "vs"
  exact ⟨⟨[], (List.append_nil _).symm⟩, rfl, rfl, rfl⟩
theorem nested_ok {S0 S1 t : Store} {p N n : Nat} (hF : Fr S0 p N S1) (hl : S1.length = n) (hN : N ≤ 900000000) : Ok (d_law_nested [.loc p] (S1 ++ t)) fun d S' => ∃ S2 g, S' = S2 ++ (t ++ g) ∧ Fr S0 p (N + 100) S2 ∧ S2.length = n ∧ Thg n (t ++ g) d ∧ isTile d = false ∧ areT d = false ∧ d ≠ .tup [] := by
  unfold d_law_nested
  walk_at "den"
  unfold m_law_nested
  walk_at "vs"
  refine k_next hF hl fun v S hv hF hl => ?_
  walk_at "vs"
  have hstart : ∀ Q : D → Store → Prop, (∀ d, Thg n t d → isTile d = false → Q d (S ++ t)) → Ok (ixD (.lst [.tup [], .lst [], .str (tx [97]), .int 1, .non]) (.int v) (S ++ t)) Q := by
    intro Q hQ
    have : v = 0 ∨ v = 1 ∨ v = 2 ∨ v = 3 ∨ v = 4 := by omega
    rcases this with rfl | rfl | rfl | rfl | rfl
    · exact p_ixL (d := .tup []) rfl (hQ _ (.tup [] fun _ h => (List.not_mem_nil h).elim) rfl)
    · exact p_ixL (d := .lst []) rfl (hQ _ (.lst _) rfl)
    · exact p_ixL (d := .str (tx [97])) rfl (hQ _ (.str _) rfl)
    · exact p_ixL (d := .int 1) rfl (hQ _ (.int _) rfl)
    · exact p_ixL (d := .non) rfl (hQ _ .non rfl)
  refine hstart _ fun x0 hx0 ht0 => ?_
  walk_at "vs"
  refine k_next hF hl fun w S hw hF hl => ?_
  walk_at "vs"
  have hdeep : ∀ Q : D → Store → Prop, (∀ m : Nat, 1 ≤ m → m ≤ 58 → Q (.int m) (S ++ t)) → Ok (ixD (.lst [.int 1, .int 3, .int 58]) (.int w) (S ++ t)) Q := by
    intro Q hQ
    have : w = 0 ∨ w = 1 ∨ w = 2 := by omega
    rcases this with rfl | rfl | rfl
    · exact p_ixL (d := .int 1) rfl (hQ 1 (by omega) (by omega))
    · exact p_ixL (d := .int 3) rfl (hQ 3 (by omega) (by omega))
    · exact p_ixL (d := .int 58) rfl (hQ 58 (by omega) (by omega))
  refine hdeep _ fun m hm1 hm2 => ?_
  walk_at "vs"
  refine rng_of (m := m) rfl (by omega) ?_
  refine w_each (xs := List.range m) (f := fun k : Nat => D.int k) (fun l σ S' => ∃ (S2 g : Store) (x : D) (x2 : Option D), S' = S2 ++ (t ++ g) ∧ Fr S0 p (N + 1 + 1 + l.length) S2 ∧ S2.length = n ∧ Thg n (t ++ g) x ∧ isTile x = false ∧ (l ≠ [] → areT x = false ∧ x ≠ .tup []) ∧ σ = [some (.loc p), some x, x2]) ⟨S, [], x0, _, by rw [List.append_nil], hF, hl, by rw [List.append_nil]; exact hx0, ht0, fun h => absurd rfl h, rfl⟩ no_guardE ?_ ?_
  · rintro l k r σ S' e0 ⟨S, g, x, x2, rfl, hF, hl, hx, hxt, _, rfl⟩
    have hll : l.length < 58 := by
      have := congrArg List.length e0
      simp at this
      omega
    unfold b1_law_nested
    walk_at "vs"
    refine k_dispK1 ?_
    walk_at "vs"
    refine ⟨by simp, x, rfl, ?_⟩
    have eS : (S ++ (t ++ g) ++ [Ob.dK []]).set (S ++ (t ++ g)).length (Ob.dK [(.inr (tx [97]), x)]) = S ++ (t ++ (g ++ [Ob.dK [(.inr (tx [97]), x)]])) := by
      rw [List.set_append_right _ _ (Nat.le_refl _), Nat.sub_self]
      simp
    have hln : (S ++ (t ++ g)).length = n + (t ++ g).length := by rw [List.length_append, hl]
    rw [eS, hln]
    have hx' : Thg n (t ++ (g ++ [Ob.dK [(.inr (tx [97]), x)]])) x := by
      rw [← List.append_assoc]
      exact hx.app
    have hloc : Thg n (t ++ (g ++ [Ob.dK [(.inr (tx [97]), x)]])) (.loc (n + (t ++ g).length)) := .loc _ (Ob.dK [(.inr (tx [97]), x)]) (by rw [← List.append_assoc]; simp) rfl
    walk_at "vs"
    refine k_next hF hl fun u S hu hF hl => ?_
    walk_at "vs"
    have fin : ∀ (S : Store), Fr S0 p (N + 1 + 1 + l.length + 1) S → S.length = n → ∀ Q : D → Store → Prop, (∀ d, Thg n (t ++ (g ++ [Ob.dK [(.inr (tx [97]), x)]])) d → isTile d = false → areT d = false → d ≠ .tup [] → Q d (S ++ (t ++ (g ++ [Ob.dK [(.inr (tx [97]), x)]])))) → Ok (ixD (.lst [.tup [x], .lst [x], .loc (n + (t ++ g).length)]) (.int u) (S ++ (t ++ (g ++ [Ob.dK [(.inr (tx [97]), x)]])))) Q := by
      intro S _ _ Q hQ
      have : u = 0 ∨ u = 1 ∨ u = 2 := by omega
      rcases this with rfl | rfl | rfl
      · exact p_ixL (d := .tup [x]) rfl (hQ _ (.tup [x] fun d hd => by rw [List.mem_singleton.mp hd]; exact hx') (by simp [isTile]) (by simp [areT, hxt]) (by simp))
      · exact p_ixL (d := .lst [x]) rfl (hQ _ (.lst _) rfl rfl (by simp))
      · exact p_ixL (d := .loc (n + (t ++ g).length)) rfl (hQ _ hloc rfl rfl (by simp))
    refine fin S hF hl _ fun d h1 h2 h3 h4 => ?_
    walk_at "vs"
    exact ⟨S, _, d, _, rfl, by rw [List.length_append, List.length_singleton, ← Nat.add_assoc]; exact hF, hl, h1, h2, fun _ => ⟨h3, h4⟩, rfl⟩
  · rintro σ S' ⟨S, g, x, x2, rfl, hF, hl, hx, hxt, hne, rfl⟩
    obtain ⟨h3, h4⟩ := hne (by
      intro z
      have := congrArg List.length z
      simp at this
      omega)
    rw [List.length_range] at hF
    walk_at "vs"
    exact ⟨S, g, rfl, hF.mono (by omega), hl, hx, hxt, h3, h4⟩
theorem odd_tiles_ok {S0 S1 t : Store} {p N n k : Nat} {x y : Int} (hk : k < 1000) (hF : Fr S0 p N S1) (hl : S1.length = n) (hN : N ≤ 900000000) : Ok (d_law_odd_tiles [.loc p, .tup [.int x, .int y, .int (k : Int)]] (S1 ++ t)) fun d S' => ∃ S2 g ds, d = .lst ds ∧ S' = S2 ++ (t ++ g) ∧ Fr S0 p (N + 100) S2 ∧ S2.length = n ∧ ∀ e ∈ ds, Thg n (t ++ g) e ∧ isTile e = false := by
  unfold d_law_odd_tiles
  walk_at "den"
  unfold m_law_odd_tiles
  walk_at "vs"
  refine k_eq (strK k (by have : (1000 : Nat) ≤ 10 ^ 100 := by decide +kernel
                          omega)) ?_
  walk_at "vs"
  have hl0 : (S1 ++ t).length = n + t.length := by rw [List.length_append, hl]
  rw [List.append_assoc, hl0]
  refine (nested_ok hF hl hN).imp ?_
  rintro z _ ⟨S, g, rfl, hF, hl, hz, hzt, _, _⟩
  obtain ⟨T, hT⟩ : ∃ T, t ++ [Ob.dT []] ++ g = T := ⟨_, rfl⟩
  have hT0 : T[t.length]? = some (.dT []) := by rw [← hT, List.append_assoc, List.getElem?_append_right (Nat.le_refl _)]; simp
  rw [hT] at hz ⊢
  walk_at "vs"
  refine k_disp1I ?_
  walk_at "vs"
  refine ⟨by simp, x, rfl, ?_⟩
  have eS : (S ++ T ++ [Ob.dK []]).set (S ++ T).length (Ob.dK [(.inl x, .int y)]) = S ++ (T ++ [Ob.dK [(.inl x, .int y)]]) := by
    rw [List.set_append_right _ _ (Nat.le_refl _), Nat.sub_self]
    simp
  have hln : (S ++ T).length = n + T.length := by rw [List.length_append, hl]
  rw [eS, hln]
  walk_at "vs"
  have hl3 : (S ++ (T ++ [Ob.dK [(.inl x, D.int y)]])).length = n + (T.length + 1) := by rw [List.length_append, hl, List.length_append]; rfl
  rw [hl3]
  obtain ⟨U, hU⟩ : ∃ U, T ++ [Ob.dK [(.inl x, D.int y)], Ob.dT []] = U := ⟨_, rfl⟩
  have hz' : Thg n U z := by rw [← hU]; exact hz.app
  have l1 : Thg n U (.loc (n + t.length)) := .loc _ (Ob.dT []) (by rw [← hU, List.getElem?_append_left (List.getElem?_eq_some_iff.mp hT0).1]; exact hT0) rfl
  have l2 : Thg n U (.loc (n + T.length)) := .loc _ (Ob.dK [(.inl x, D.int y)]) (by rw [← hU, List.getElem?_append_right (Nat.le_refl _), Nat.sub_self]; rfl) rfl
  have l3 : Thg n U (.loc (n + (T.length + 1))) := .loc _ (Ob.dT []) (by rw [← hU, List.getElem?_append_right (by omega), show T.length + 1 - T.length = 1 by omega]; rfl) rfl
  have t1 : ∀ {a : D}, Thg n U a → Thg n U (.tup [a]) := fun h => .tup _ fun d hd => by rw [List.mem_singleton.mp hd]; exact h
  have t2 : ∀ {a b : D}, Thg n U a → Thg n U b → Thg n U (.tup [a, b]) := fun h1 h2 => .tup _ fun d hd => by
    simp only [List.mem_cons, List.not_mem_nil, or_false] at hd
    rcases hd with rfl | rfl <;> assumption
  have t3 : ∀ {a b c : D}, Thg n U a → Thg n U b → Thg n U c → Thg n U (.tup [a, b, c]) := fun h1 h2 h3 => .tup _ fun d hd => by
    simp only [List.mem_cons, List.not_mem_nil, or_false] at hd
    rcases hd with rfl | rfl | rfl <;> assumption
  have t4 : ∀ {a b c e : D}, Thg n U a → Thg n U b → Thg n U c → Thg n U e → Thg n U (.tup [a, b, c, e]) := fun h1 h2 h3 h4 => .tup _ fun d hd => by
    simp only [List.mem_cons, List.not_mem_nil, or_false] at hd
    rcases hd with rfl | rfl | rfl | rfl <;> assumption
  have I : ∀ i, Thg n U (.int i) := fun i => .int i
  refine ⟨S, [Ob.dT []] ++ g ++ [Ob.dK [(.inl x, D.int y)], Ob.dT []], _, rfl, ?_, hF.mono (by omega), hl, ?_⟩
  · rw [List.append_assoc, List.append_assoc T, ← List.append_assoc t, ← List.append_assoc t, hT]
    rfl
  have hg : t ++ ([Ob.dT []] ++ g ++ [Ob.dK [(.inl x, D.int y)], Ob.dT []]) = U := by rw [← List.append_assoc t, ← List.append_assoc t, hT, hU]
  rw [hg]
  simp only [List.cons_append, List.nil_append, List.forall_mem_cons]
  exact ⟨⟨.lst _, rfl⟩, ⟨t2 (I _) (I _), rfl⟩, ⟨t4 (I _) (I _) (I _) (I _), rfl⟩, ⟨.str _, rfl⟩, ⟨.non, rfl⟩, ⟨.bl _, rfl⟩, ⟨I _, rfl⟩, ⟨l1, rfl⟩, ⟨.tup [] fun _ h => (List.not_mem_nil h).elim, rfl⟩,
    ⟨t3 (I _) (I _) (.str _), rfl⟩, ⟨t3 (I _) .non (I _), rfl⟩, ⟨t3 (t1 (I _)) (I _) (I _), rfl⟩, ⟨t3 (.bl _) (I _) (I _), rfl⟩, ⟨t3 (I _) (.bl _) (I _), rfl⟩, ⟨t3 (I _) (I _) (.bl _), rfl⟩, ⟨t3 (I _) (I _) (.lst _), rfl⟩, ⟨hz', hzt⟩,
    ⟨l2, rfl⟩, ⟨t3 (I _) (I _) (t1 (I _)), rfl⟩, ⟨t2 (t2 (I _) (I _)) (I _), rfl⟩, ⟨t3 (I _) (I _) l3, rfl⟩, ⟨.str _, rfl⟩, ⟨.lst _, rfl⟩, ⟨t1 (t3 (I _) (I _) (I _)), rfl⟩, fun _ h => (List.not_mem_nil h).elim⟩
theorem nkOf_row (row : List Tl) : nkOf (.tup (row.map tl)) = some (row.map tk) := by
  show nkRows (row.map tl) = _
  induction row with
  | nil => rfl
  | cons t r ih =>
    rw [List.map_cons, List.map_cons]
    simp only [nkRows, nkInts, ih]
    rfl
theorem neAny_thg {n : Nat} {S t : Store} {x : D} (hl : S.length = n) (h : Thg n t x) (hx : x ≠ .tup []) : neAny x (.tup []) (S ++ t) = .ok (.bl true) (S ++ t) := by
  cases h with
  | loc k o h hd =>
    have h' : (S ++ t)[n + k]? = some o := by rw [st_get hl]; exact h
    cases o <;> first | (cases hd; done) | simp only [neAny, h']
  | tup ds h =>
    have : ds.isEmpty = false := by
      cases ds with
      | nil => exact absurd rfl hx
      | cons _ _ => rfl
    simp only [neAny, this, Bool.not_false]
  | _ => rfl
theorem cut_mapL {α β : Type} (f : α → β) (xs : List α) (lo hi : Option Int) : L3.cut (xs.map f) lo hi = (L3.cut xs lo hi).map f := by
  unfold L3.cut
  simp [List.map_take, List.map_drop]
theorem cut_lenL {α : Type} (xs : List α) (lo hi : Option Int) : (L3.cut xs lo hi).length ≤ xs.length := by
  unfold L3.cut
  simp
  omega
theorem says : Says d_law := by
  intro ns hns
  have key : Ok (d_law [.frz (ns.map D.int)] []) fun d _ => d = .bl true := by
    unfold d_law
    walk_at "den"
    unfold m_law
    walk_at "vs"
    rw [List.length_map]
    obtain ⟨m, hm, em⟩ : ∃ m : Nat, m ≤ 4 ∧ (1 : Int) + (if (ns.length : Int) < 3 then (ns.length : Int) else 3) = m := ⟨(1 + (if (ns.length : Int) < 3 then (ns.length : Int) else 3)).toNat, by split <;> omega, by split <;> omega⟩
    refine rng_of em (by omega) ?_
    refine w_each (xs := List.range m) (f := fun k : Nat => D.int k) (fun l σ S' => ∃ x1 x2 x3 x4 x5 x6 x7 x8 : Option D, σ = [some (.frz (ns.map D.int)), x1, x2, x3, x4, x5, x6, x7, x8]) ⟨_, _, _, _, _, _, _, _, rfl⟩ no_guardE ?_ ?_
    · rintro l k r σ S e0 ⟨x1, x2, x3, x4, x5, x6, x7, x8, rfl⟩
      have hk : k < m := by
        have : k ∈ List.range m := by rw [e0]; simp
        exact List.mem_range.mp this
      unfold b4_law
      walk_at "vs"
      refine pot_new hns (by omega) fun p S hp => ?_
      have hF := Fr.refl hp
      obtain ⟨n, hl⟩ : ∃ n, S.length = n := ⟨_, rfl⟩
      walk_at "vs"
      refine k_lift0 bed_ok hF hl ?_
      rintro _ S ⟨b, h1, h2, h3, h4, h5, rfl⟩ hF hl
      have hb : BedS b := ⟨h1, h2, h3, h4, h5⟩
      walk_at "vs"
      refine k_lift0 (law_walk_ok (m := 6) hb (by omega)) hF hl ?_
      rintro _ S ⟨row, hrow, hrl, rfl⟩ hF hl
      have hsl := hb.sl
      walk_at "vs"
      rw [List.length_map]
      refine k_next0 hF hl (fun a S ha hF hl => ?_) (by omega)
      walk_at "vs"
      have hlay := hrow.lay hb.lay
      have hkm := hb.hs.km
      obtain ⟨rows, hrows⟩ : ∃ rows : List Tl, row ++ [((1, 0, 0) : Tl)] = rows := ⟨_, rfl⟩
      have hrm : row.map tl ++ [D.tup [.int 1, .int 0, .int 0]] = rows.map tl := by rw [← hrows, List.map_append]; rfl
      have hra : a < rows.length := by rw [← hrows, List.length_append, List.length_singleton]; omega
      have hrk : ∀ t ∈ rows, 0 ≤ t.2.2 ∧ t.2.2 < 1000 := fun t ht => by
        rw [← hrows] at ht
        rcases List.mem_append.mp ht with h | h
        · have := (hlay.ok t (List.mem_append_right _ h)).2.2
          omega
        · rw [List.mem_singleton.mp h]
          exact ⟨by decide, by decide⟩
      rw [hrm]
      refine p_ixT (d := tl rows[a]) (by rw [atI_nat, List.getElem?_map, List.getElem?_eq_getElem hra]; rfl) ?_
      obtain ⟨t, ht⟩ : ∃ t, rows[a] = t := ⟨_, rfl⟩
      have htk := hrk t (ht ▸ List.getElem_mem hra)
      rw [ht]
      clear ht
      obtain ⟨x, y, kk⟩ := t
      obtain ⟨kn, hkn⟩ := Int.eq_ofNat_of_zero_le htk.1
      simp only at hkn htk
      subst hkn
      walk_at "vs"
      have hodd := odd_tiles_ok (t := []) (x := x) (y := y) (k := kn) (by omega) hF hl (by omega)
      rw [List.append_nil] at hodd
      refine hodd.imp ?_
      rintro _ _ ⟨S, g, ds, rfl, rfl, hF, hl, hds⟩
      rw [List.nil_append] at hds
      refine ⟨⟨ds.map id, []⟩, by rw [List.map_id]; rfl, ?_⟩
      rw [List.nil_append]
      have hbad : ∀ (pre post : List Tl) (e : D), Thg n g e → isTile e = false → Thg n g (.tup (pre.map tl ++ [e] ++ post.map tl)) ∧ areT (.tup (pre.map tl ++ [e] ++ post.map tl)) = false := by
        intro pre post e h1 h2
        have htl : ∀ t : Tl, Thg n g (tl t) := fun t => .tup _ fun d hd => by
          simp only [List.mem_cons, List.not_mem_nil, or_false] at hd
          rcases hd with rfl | rfl | rfl <;> exact .int _
        refine ⟨.tup _ fun d hd => ?_, ?_⟩
        · simp only [List.mem_append, List.mem_map, List.mem_singleton] at hd
          rcases hd with (⟨t, _, rfl⟩ | rfl) | ⟨t, _, rfl⟩
          · exact htl t
          · exact h1
          · exact htl t
        · show (pre.map tl ++ [e] ++ post.map tl).all isTile = false
          simp [h2]
      refine w_each (xs := ds) (f := id) (fun l σ S' => ∃ x7 x8 : Option D, S' = S ++ g ∧ σ = [some (.frz (ns.map D.int)), some (.int k), some (.loc p), some (bedD b), some (.tup (row.map tl)), some (.int a), some (tl (x, y, (kn : Int))), x7, x8]) ⟨_, _, rfl, rfl⟩ no_guardE ?_ ?_
      · rintro l2 e r2 σ S' e2 ⟨x7, x8, rfl, rfl⟩
        obtain ⟨he1, he2⟩ := hds e (by rw [e2]; simp)
        unfold b2_law
        walk_at "vs"
        rw [cut_mapL]
        obtain ⟨q1, hq1⟩ : ∃ q, L3.cut row (some ((a : Int) + 1)) none = q := ⟨_, rfl⟩
        have hq1l : q1.length ≤ row.length := hq1 ▸ cut_lenL _ _ _
        rw [hq1, ← List.map_take]
        have hpl : (row.take a).length ≤ row.length := by rw [List.length_take]; omega
        obtain ⟨pre, hpre⟩ : ∃ q, row.take a = q := ⟨_, rfl⟩
        rw [hpre] at hpl ⊢
        refine p_addT (by simp; omega) ?_
        walk_at "vs"
        rw [← List.map_take, hpre, ← List.map_drop]
        have hTs : ∀ T ∈ [D.tup (pre.map tl ++ [e] ++ q1.map tl), D.tup (pre.map tl ++ [e] ++ (row.drop a).map tl), D.tup ([e] ++ row.map tl), D.tup (row.map tl ++ [e])], Thg n g T ∧ areT T = false := by
          simp only [List.forall_mem_cons]
          refine ⟨hbad pre q1 e he1 he2, hbad pre (row.drop a) e he1 he2, hbad [] row e he1 he2, ?_, fun _ h => (List.not_mem_nil h).elim⟩
          have := hbad row [] e he1 he2
          rw [List.map_nil, List.append_nil] at this
          exact this
        refine w_each (xs := [D.tup (pre.map tl ++ [e] ++ q1.map tl), D.tup (pre.map tl ++ [e] ++ (row.drop a).map tl), D.tup ([e] ++ row.map tl), D.tup (row.map tl ++ [e])]) (f := id) (fun l σ S' => ∃ x8 : Option D, S' = S ++ g ∧ σ = [some (.frz (ns.map D.int)), some (.int k), some (.loc p), some (bedD b), some (.tup (row.map tl)), some (.int a), some (tl (x, y, (kn : Int))), some (id e), x8]) ⟨_, rfl, rfl⟩ no_guardE ?_ ?_
        · rintro l3 T r3 σ S' e3 ⟨x8, rfl, rfl⟩
          obtain ⟨hT1, hT2⟩ := hTs T (by rw [e3]; simp)
          unfold b1_law
          walk_at "vs"
          refine (is_row_not hl hT1 hT2).imp ?_
          rintro _ _ ⟨rfl, rfl⟩
          walk_at "vs"
          refine br_T (decide_eq_true rfl) ?_
          walk_at "vs"
          exact ⟨_, rfl, rfl⟩
        · rintro σ S' ⟨x8, rfl, rfl⟩
          walk_at "vs"
          exact ⟨_, _, rfl, rfl⟩
      · rintro σ S' ⟨x7, x8, rfl, rfl⟩
        walk_at "vs"
        have hl0 : (S ++ g).length = n + g.length := by rw [List.length_append, hl]
        rw [List.append_assoc, hl0]
        refine (nested_ok hF hl (by omega)).imp ?_
        rintro z _ ⟨S, g2, rfl, hF, hl, hz, hzt, hza, hzn⟩
        obtain ⟨U, hU⟩ : ∃ U, g ++ [Ob.dT []] ++ g2 = U := ⟨_, rfl⟩
        have hU0 : U[g.length]? = some (.dT []) := by rw [← hU, List.append_assoc, List.getElem?_append_right (Nat.le_refl _)]; simp
        rw [hU] at hz ⊢
        walk_at "vs"
        refine k_disp1N ?_
        walk_at "vs"
        refine ⟨by simp, row.map tk, nkOf_row row, ?_⟩
        have eS : (S ++ U ++ [Ob.dT []]).set (S ++ U).length (Ob.dN [(row.map tk, D.tup (row.map tl))]) = S ++ (U ++ [Ob.dN [(row.map tk, D.tup (row.map tl))]]) := by
          rw [List.set_append_right _ _ (Nat.le_refl _), Nat.sub_self]
          simp
        have hln : (S ++ U).length = n + U.length := by rw [List.length_append, hl]
        rw [eS, hln]
        walk_at "vs"
        obtain ⟨V, hV⟩ : ∃ V, U ++ [Ob.dN [(row.map tk, D.tup (row.map tl))]] = V := ⟨_, rfl⟩
        have hzV : Thg n V z := hV ▸ hz.app
        have hlV : Thg n V (.loc (n + g.length)) := .loc _ (.dT []) (by rw [← hV, List.getElem?_append_left (List.getElem?_eq_some_iff.mp hU0).1]; exact hU0) rfl
        have hdN : (S ++ V)[n + U.length]? = some (.dN [(row.map tk, D.tup (row.map tl))]) := by rw [st_get hl, ← hV, List.getElem?_append_right (Nat.le_refl _), Nat.sub_self]; rfl
        have htl : ∀ t : Tl, Thg n V (tl t) := fun t => .tup _ fun d hd => by
          simp only [List.mem_cons, List.not_mem_nil, or_false] at hd
          rcases hd with rfl | rfl | rfl <;> exact .int _
        have hrT : Thg n V (.tup (row.map tl)) := .tup _ fun d hd => by
          obtain ⟨t, _, rfl⟩ := List.mem_map.mp hd
          exact htl t
        rw [hV]
        have hall : ∀ T ∈ [D.lst (row.map tl), D.non, D.bl true, D.int 0, D.str (tx []), D.str (tx [114, 111, 119]), D.loc (n + g.length), D.lst [], D.tup [D.tup (row.map tl)], D.lst [D.tup (row.map tl)], z, D.loc (n + U.length)], neAny T (.tup []) (S ++ V) = .ok (.bl true) (S ++ V) ∧ Ok (d_is_row [bedD b, T] (S ++ V)) fun d S' => d = .bl false ∧ S' = S ++ V := by
          have ok : ∀ T, Thg n V T → areT T = false → T ≠ .tup [] → neAny T (.tup []) (S ++ V) = .ok (.bl true) (S ++ V) ∧ Ok (d_is_row [bedD b, T] (S ++ V)) fun d S' => d = .bl false ∧ S' = S ++ V := fun T h1 h2 h3 => ⟨neAny_thg hl h1 h3, is_row_not hl h1 h2⟩
          simp only [List.forall_mem_cons]
          refine ⟨ok _ (.lst _) rfl (by simp), ok _ .non rfl (by simp), ok _ (.bl _) rfl (by simp), ok _ (.int _) rfl (by simp), ok _ (.str _) rfl (by simp), ok _ (.str _) rfl (by simp), ok _ hlV rfl (by simp), ok _ (.lst _) rfl (by simp),
            ok _ (.tup _ fun d hd => by rw [List.mem_singleton.mp hd]; exact hrT) (by cases row <;> simp [areT, isTile, isInt]) (by simp), ok _ (.lst _) rfl (by simp), ok _ hzV hza hzn, ⟨?_, is_row_dN hdN⟩, fun _ h => (List.not_mem_nil h).elim⟩
          simp only [neAny, hdN]
        refine w_each (xs := [D.lst (row.map tl), D.non, D.bl true, D.int 0, D.str (tx []), D.str (tx [114, 111, 119]), D.loc (n + g.length), D.lst [], D.tup [D.tup (row.map tl)], D.lst [D.tup (row.map tl)], z, D.loc (n + U.length)]) (f := id) (fun l σ S' => ∃ x8 : Option D, S' = S ++ V ∧ σ = [some (.frz (ns.map D.int)), some (.int k), some (.loc p), some (bedD b), some (.tup (row.map tl)), some (.int a), some (tl (x, y, (kn : Int))), x7, x8]) ⟨_, rfl, rfl⟩ no_guardE ?_ ?_
        · rintro l3 T r3 σ S' e3 ⟨x8, rfl, rfl⟩
          obtain ⟨hT1, hT2⟩ := hall T (by rw [e3]; simp)
          unfold b3_law
          walk_at "vs"
          refine k_eq hT1 ?_
          walk_at "vs"
          refine hT2.imp ?_
          rintro _ _ ⟨rfl, rfl⟩
          walk_at "vs"
          refine br_T (decide_eq_true rfl) ?_
          walk_at "vs"
          exact ⟨_, rfl, rfl⟩
        · rintro σ S' ⟨x8, rfl, rfl⟩
          walk_at "vs"
          refine (is_row_ok hb (by omega) hrow _).imp ?_
          rintro _ _ ⟨rfl, rfl⟩
          walk_at "vs"
          refine br_T (decide_eq_true rfl) ?_
          walk_at "vs"
          exact ⟨_, _, _, _, _, _, _, _, rfl⟩
    · rintro σ S ⟨x1, x2, x3, x4, x5, x6, x7, x8, rfl⟩
      walk_at "vs"
      rfl
  obtain ⟨d, S', e, rfl⟩ := key
  exact ⟨S', e⟩
theorem all_mk {l : PySem.W.OpenLaw} {w : World} {K : PySem.W.Frag} {h : Heap} {mg : Str → Option Value} {fa : Addr} (X : K.In h) (G : h.Ns mainGlobals mg) (hfa : mg "law" = some (.ref fa))
    {CHolder : Addr} (aCHolder : PySem.W.nsIn K mainGlobals "Holder" = some (some (.ref CHolder))) (pgHolder : PySem.W.plainGet K CHolder Str.empty = true) (hdHolder : PySem.W.hasDictIn K CHolder = true) (poHolder : PySem.W.plainOver K CHolder = true) (saHolder : PySem.W.findIn K (.ref CHolder) "__setattr__" = some (some (.builtin "object.__setattr__"))) (mkHolder : PySem.W.makesIn K CHolder = true) (kcHolder : PySem.W.keepIn K (.ref CHolder) = true)
    (nf_Holder_enough : PySem.W.findIn K (.ref CHolder) "enough" = some none)
    (nf_Holder_high : PySem.W.findIn K (.ref CHolder) "high" = some none)
    (nf_Holder_kinds : PySem.W.findIn K (.ref CHolder) "kinds" = some none)
    (nf_Holder_strengths : PySem.W.findIn K (.ref CHolder) "strengths" = some none)
    (nf_Holder_wide : PySem.W.findIn K (.ref CHolder) "wide" = some none)
    {f0 : Addr} {od0 an0 : Option Addr} {sl0 : Array (Option Value)} {oc0 kV0 dc0 pm0 cd0 ct0 : Value}
    (a0 : PySem.W.nsIn K mainGlobals "_wall" = some (some (.ref f0))) (l0 : K.lookup f0 = some ⟨oc0, od0, .func (PySem.W.fnOf "_wall" "_wall" (defArgs s_wall) (defBody s_wall) (defScope s_wall) .none kV0 dc0 pm0 an0 cd0 ct0), sl0⟩) (c0 : PySem.W.codeIn K cd0 "_wall" = true) (k0 : PySem.W.keepIn K (.ref f0) = true)
    {f1 : Addr} {od1 an1 : Option Addr} {sl1 : Array (Option Value)} {oc1 kV1 dc1 pm1 cd1 ct1 : Value}
    (a1 : PySem.W.nsIn K mainGlobals "is_whole" = some (some (.ref f1))) (l1 : K.lookup f1 = some ⟨oc1, od1, .func (PySem.W.fnOf "is_whole" "is_whole" (defArgs s_is_whole) (defBody s_is_whole) (defScope s_is_whole) .none kV1 dc1 pm1 an1 cd1 ct1), sl1⟩) (c1 : PySem.W.codeIn K cd1 "is_whole" = true) (k1 : PySem.W.keepIn K (.ref f1) = true)
    {f2 : Addr} {od2 an2 : Option Addr} {sl2 : Array (Option Value)} {oc2 kV2 dc2 pm2 cd2 ct2 : Value}
    (a2 : PySem.W.nsIn K mainGlobals "step_of" = some (some (.ref f2))) (l2 : K.lookup f2 = some ⟨oc2, od2, .func (PySem.W.fnOf "step_of" "step_of" (defArgs s_step_of) (defBody s_step_of) (defScope s_step_of) .none kV2 dc2 pm2 an2 cd2 ct2), sl2⟩) (c2 : PySem.W.codeIn K cd2 "step_of" = true) (k2 : PySem.W.keepIn K (.ref f2) = true)
    {f3 : Addr} {od3 an3 : Option Addr} {sl3 : Array (Option Value)} {oc3 kV3 dc3 pm3 cd3 ct3 : Value}
    (a3 : PySem.W.nsIn K mainGlobals "opposite" = some (some (.ref f3))) (l3 : K.lookup f3 = some ⟨oc3, od3, .func (PySem.W.fnOf "opposite" "opposite" (defArgs s_opposite) (defBody s_opposite) (defScope s_opposite) .none kV3 dc3 pm3 an3 cd3 ct3), sl3⟩) (c3 : PySem.W.codeIn K cd3 "opposite" = true) (k3 : PySem.W.keepIn K (.ref f3) = true)
    {f4 : Addr} {od4 an4 : Option Addr} {sl4 : Array (Option Value)} {oc4 kV4 dc4 pm4 cd4 ct4 : Value}
    (a4 : PySem.W.nsIn K mainGlobals "lying" = some (some (.ref f4))) (l4 : K.lookup f4 = some ⟨oc4, od4, .func (PySem.W.fnOf "lying" "lying" (defArgs s_lying) (defBody s_lying) (defScope s_lying) .none kV4 dc4 pm4 an4 cd4 ct4), sl4⟩) (c4 : PySem.W.codeIn K cd4 "lying" = true) (k4 : PySem.W.keepIn K (.ref f4) = true)
    {f5 : Addr} {od5 an5 : Option Addr} {sl5 : Array (Option Value)} {oc5 kV5 dc5 pm5 cd5 ct5 : Value}
    (a5 : PySem.W.nsIn K mainGlobals "_law_begin" = some (some (.ref f5))) (l5 : K.lookup f5 = some ⟨oc5, od5, .func (PySem.W.fnOf "_law_begin" "_law_begin" (defArgs s_law_begin) (defBody s_law_begin) (defScope s_law_begin) .none kV5 dc5 pm5 an5 cd5 ct5), sl5⟩) (c5 : PySem.W.codeIn K cd5 "_law_begin" = true) (k5 : PySem.W.keepIn K (.ref f5) = true)
    {f6 : Addr} {od6 an6 : Option Addr} {sl6 : Array (Option Value)} {oc6 kV6 dc6 pm6 cd6 ct6 : Value}
    (a6 : PySem.W.nsIn K mainGlobals "_law_draw" = some (some (.ref f6))) (l6 : K.lookup f6 = some ⟨oc6, od6, .func (PySem.W.fnOf "_law_draw" "_law_draw" (defArgs s_law_draw) (defBody s_law_draw) (defScope s_law_draw) .none kV6 dc6 pm6 an6 cd6 ct6), sl6⟩) (c6 : PySem.W.codeIn K cd6 "_law_draw" = true) (k6 : PySem.W.keepIn K (.ref f6) = true)
    {f7 : Addr} {od7 an7 : Option Addr} {sl7 : Array (Option Value)} {oc7 kV7 dc7 pm7 cd7 ct7 : Value}
    (a7 : PySem.W.nsIn K mainGlobals "_law_lying" = some (some (.ref f7))) (l7 : K.lookup f7 = some ⟨oc7, od7, .func (PySem.W.fnOf "_law_lying" "_law_lying" (defArgs s_law_lying) (defBody s_law_lying) (defScope s_law_lying) .none kV7 dc7 pm7 an7 cd7 ct7), sl7⟩) (c7 : PySem.W.codeIn K cd7 "_law_lying" = true) (k7 : PySem.W.keepIn K (.ref f7) = true)
    {f8 : Addr} {od8 an8 : Option Addr} {sl8 : Array (Option Value)} {oc8 kV8 dc8 pm8 cd8 ct8 : Value}
    (a8 : PySem.W.nsIn K mainGlobals "_law_step" = some (some (.ref f8))) (l8 : K.lookup f8 = some ⟨oc8, od8, .func (PySem.W.fnOf "_law_step" "_law_step" (defArgs s_law_step) (defBody s_law_step) (defScope s_law_step) .none kV8 dc8 pm8 an8 cd8 ct8), sl8⟩) (c8 : PySem.W.codeIn K cd8 "_law_step" = true) (k8 : PySem.W.keepIn K (.ref f8) = true)
    {f9 : Addr} {od9 an9 : Option Addr} {sl9 : Array (Option Value)} {oc9 kV9 dc9 pm9 cd9 ct9 : Value}
    (a9 : PySem.W.findIn K (.ref CHolder) "__init__" = some (some (.ref f9))) (i9 : PySem.W.isFn K (.ref f9) = true) (l9 : K.lookup f9 = some ⟨oc9, od9, .func (PySem.W.fnOf "__init__" "Holder.__init__" (defArgs s_Holder___init__) (defBody s_Holder___init__) (defScope s_Holder___init__) .none kV9 dc9 pm9 an9 cd9 ct9), sl9⟩) (c9 : PySem.W.codeIn K cd9 "Holder.__init__" = true) (k9 : PySem.W.keepIn K (.ref f9) = true)
    {f10 : Addr} {od10 an10 : Option Addr} {sl10 : Array (Option Value)} {oc10 kV10 dc10 pm10 cd10 ct10 : Value}
    (a10 : PySem.W.findIn K (.ref CHolder) "is_on" = some (some (.ref f10))) (i10 : PySem.W.isFn K (.ref f10) = true) (l10 : K.lookup f10 = some ⟨oc10, od10, .func (PySem.W.fnOf "is_on" "Holder.is_on" (defArgs s_Holder_is_on) (defBody s_Holder_is_on) (defScope s_Holder_is_on) .none kV10 dc10 pm10 an10 cd10 ct10), sl10⟩) (c10 : PySem.W.codeIn K cd10 "Holder.is_on" = true) (k10 : PySem.W.keepIn K (.ref f10) = true)
    {f11 : Addr} {od11 an11 : Option Addr} {sl11 : Array (Option Value)} {oc11 kV11 dc11 pm11 cd11 ct11 : Value}
    (a11 : PySem.W.findIn K (.ref CHolder) "held_at" = some (some (.ref f11))) (i11 : PySem.W.isFn K (.ref f11) = true) (l11 : K.lookup f11 = some ⟨oc11, od11, .func (PySem.W.fnOf "held_at" "Holder.held_at" (defArgs s_Holder_held_at) (defBody s_Holder_held_at) (defScope s_Holder_held_at) .none kV11 dc11 pm11 an11 cd11 ct11), sl11⟩) (c11 : PySem.W.codeIn K cd11 "Holder.held_at" = true) (k11 : PySem.W.keepIn K (.ref f11) = true)
    {f12 : Addr} {od12 an12 : Option Addr} {sl12 : Array (Option Value)} {oc12 kV12 dc12 pm12 cd12 ct12 : Value}
    (a12 : PySem.W.nsIn K mainGlobals "is_tile" = some (some (.ref f12))) (l12 : K.lookup f12 = some ⟨oc12, od12, .func (PySem.W.fnOf "is_tile" "is_tile" (defArgs s_is_tile) (defBody s_is_tile) (defScope s_is_tile) .none kV12 dc12 pm12 an12 cd12 ct12), sl12⟩) (c12 : PySem.W.codeIn K cd12 "is_tile" = true) (k12 : PySem.W.keepIn K (.ref f12) = true)
    {f13 : Addr} {od13 an13 : Option Addr} {sl13 : Array (Option Value)} {oc13 kV13 dc13 pm13 cd13 ct13 : Value}
    (a13 : PySem.W.nsIn K mainGlobals "_law_names" = some (some (.ref f13))) (l13 : K.lookup f13 = some ⟨oc13, od13, .func (PySem.W.fnOf "_law_names" "_law_names" (defArgs s_law_names) (defBody s_law_names) (defScope s_law_names) .none kV13 dc13 pm13 an13 cd13 ct13), sl13⟩) (c13 : PySem.W.codeIn K cd13 "_law_names" = true) (k13 : PySem.W.keepIn K (.ref f13) = true)
    {f14 : Addr} {od14 an14 : Option Addr} {sl14 : Array (Option Value)} {oc14 kV14 dc14 pm14 cd14 ct14 : Value}
    (a14 : PySem.W.nsIn K mainGlobals "_law_kind" = some (some (.ref f14))) (l14 : K.lookup f14 = some ⟨oc14, od14, .func (PySem.W.fnOf "_law_kind" "_law_kind" (defArgs s_law_kind) (defBody s_law_kind) (defScope s_law_kind) .none kV14 dc14 pm14 an14 cd14 ct14), sl14⟩) (c14 : PySem.W.codeIn K cd14 "_law_kind" = true) (k14 : PySem.W.keepIn K (.ref f14) = true)
    {f15 : Addr} {od15 an15 : Option Addr} {sl15 : Array (Option Value)} {oc15 kV15 dc15 pm15 cd15 ct15 : Value}
    (a15 : PySem.W.nsIn K mainGlobals "_law_standing" = some (some (.ref f15))) (l15 : K.lookup f15 = some ⟨oc15, od15, .func (PySem.W.fnOf "_law_standing" "_law_standing" (defArgs s_law_standing) (defBody s_law_standing) (defScope s_law_standing) .none kV15 dc15 pm15 an15 cd15 ct15), sl15⟩) (c15 : PySem.W.codeIn K cd15 "_law_standing" = true) (k15 : PySem.W.keepIn K (.ref f15) = true)
    {f16 : Addr} {od16 an16 : Option Addr} {sl16 : Array (Option Value)} {oc16 kV16 dc16 pm16 cd16 ct16 : Value}
    (a16 : PySem.W.nsIn K mainGlobals "_law_sides" = some (some (.ref f16))) (l16 : K.lookup f16 = some ⟨oc16, od16, .func (PySem.W.fnOf "_law_sides" "_law_sides" (defArgs s_law_sides) (defBody s_law_sides) (defScope s_law_sides) .none kV16 dc16 pm16 an16 cd16 ct16), sl16⟩) (c16 : PySem.W.codeIn K cd16 "_law_sides" = true) (k16 : PySem.W.keepIn K (.ref f16) = true)
    {f17 : Addr} {od17 an17 : Option Addr} {sl17 : Array (Option Value)} {oc17 kV17 dc17 pm17 cd17 ct17 : Value}
    (a17 : PySem.W.nsIn K mainGlobals "_law_empty" = some (some (.ref f17))) (l17 : K.lookup f17 = some ⟨oc17, od17, .func (PySem.W.fnOf "_law_empty" "_law_empty" (defArgs s_law_empty) (defBody s_law_empty) (defScope s_law_empty) .none kV17 dc17 pm17 an17 cd17 ct17), sl17⟩) (c17 : PySem.W.codeIn K cd17 "_law_empty" = true) (k17 : PySem.W.keepIn K (.ref f17) = true)
    {f18 : Addr} {od18 an18 : Option Addr} {sl18 : Array (Option Value)} {oc18 kV18 dc18 pm18 cd18 ct18 : Value}
    (a18 : PySem.W.nsIn K mainGlobals "_law_nested" = some (some (.ref f18))) (l18 : K.lookup f18 = some ⟨oc18, od18, .func (PySem.W.fnOf "_law_nested" "_law_nested" (defArgs s_law_nested) (defBody s_law_nested) (defScope s_law_nested) .none kV18 dc18 pm18 an18 cd18 ct18), sl18⟩) (c18 : PySem.W.codeIn K cd18 "_law_nested" = true) (k18 : PySem.W.keepIn K (.ref f18) = true)
    {f19 : Addr} {od19 an19 : Option Addr} {sl19 : Array (Option Value)} {oc19 kV19 dc19 pm19 cd19 ct19 : Value}
    (a19 : PySem.W.findIn K (.ref CHolder) "offers" = some (some (.ref f19))) (i19 : PySem.W.isFn K (.ref f19) = true) (l19 : K.lookup f19 = some ⟨oc19, od19, .func (PySem.W.fnOf "offers" "Holder.offers" (defArgs s_Holder_offers) (defBody s_Holder_offers) (defScope s_Holder_offers) .none kV19 dc19 pm19 an19 cd19 ct19), sl19⟩) (c19 : PySem.W.codeIn K cd19 "Holder.offers" = true) (k19 : PySem.W.keepIn K (.ref f19) = true)
    {f20 : Addr} {od20 an20 : Option Addr} {sl20 : Array (Option Value)} {oc20 kV20 dc20 pm20 cd20 ct20 : Value}
    (a20 : PySem.W.findIn K (.ref CHolder) "strength_by" = some (some (.ref f20))) (i20 : PySem.W.isFn K (.ref f20) = true) (l20 : K.lookup f20 = some ⟨oc20, od20, .func (PySem.W.fnOf "strength_by" "Holder.strength_by" (defArgs s_Holder_strength_by) (defBody s_Holder_strength_by) (defScope s_Holder_strength_by) .none kV20 dc20 pm20 an20 cd20 ct20), sl20⟩) (c20 : PySem.W.codeIn K cd20 "Holder.strength_by" = true) (k20 : PySem.W.keepIn K (.ref f20) = true)
    {f21 : Addr} {od21 an21 : Option Addr} {sl21 : Array (Option Value)} {oc21 kV21 dc21 pm21 cd21 ct21 : Value}
    (a21 : PySem.W.findIn K (.ref CHolder) "holding_sides" = some (some (.ref f21))) (i21 : PySem.W.isFn K (.ref f21) = true) (l21 : K.lookup f21 = some ⟨oc21, od21, .func (PySem.W.fnOf "holding_sides" "Holder.holding_sides" (defArgs s_Holder_holding_sides) (defBody s_Holder_holding_sides) (defScope s_Holder_holding_sides) .none kV21 dc21 pm21 an21 cd21 ct21), sl21⟩) (c21 : PySem.W.codeIn K cd21 "Holder.holding_sides" = true) (k21 : PySem.W.keepIn K (.ref f21) = true)
    {f22 : Addr} {od22 an22 : Option Addr} {sl22 : Array (Option Value)} {oc22 kV22 dc22 pm22 cd22 ct22 : Value}
    (a22 : PySem.W.findIn K (.ref CHolder) "fitting" = some (some (.ref f22))) (i22 : PySem.W.isFn K (.ref f22) = true) (l22 : K.lookup f22 = some ⟨oc22, od22, .func (PySem.W.fnOf "fitting" "Holder.fitting" (defArgs s_Holder_fitting) (defBody s_Holder_fitting) (defScope s_Holder_fitting) .none kV22 dc22 pm22 an22 cd22 ct22), sl22⟩) (c22 : PySem.W.codeIn K cd22 "Holder.fitting" = true) (k22 : PySem.W.keepIn K (.ref f22) = true)
    {f23 : Addr} {od23 an23 : Option Addr} {sl23 : Array (Option Value)} {oc23 kV23 dc23 pm23 cd23 ct23 : Value}
    (a23 : PySem.W.findIn K (.ref CHolder) "all_growings" = some (some (.ref f23))) (i23 : PySem.W.isFn K (.ref f23) = true) (l23 : K.lookup f23 = some ⟨oc23, od23, .func (PySem.W.fnOf "all_growings" "Holder.all_growings" (defArgs s_Holder_all_growings) (defBody s_Holder_all_growings) (defScope s_Holder_all_growings) .none kV23 dc23 pm23 an23 cd23 ct23), sl23⟩) (c23 : PySem.W.codeIn K cd23 "Holder.all_growings" = true) (k23 : PySem.W.keepIn K (.ref f23) = true)
    {f24 : Addr} {od24 an24 : Option Addr} {sl24 : Array (Option Value)} {oc24 kV24 dc24 pm24 cd24 ct24 : Value}
    (a24 : PySem.W.nsIn K mainGlobals "are_tiles" = some (some (.ref f24))) (l24 : K.lookup f24 = some ⟨oc24, od24, .func (PySem.W.fnOf "are_tiles" "are_tiles" (defArgs s_are_tiles) (defBody s_are_tiles) (defScope s_are_tiles) .none kV24 dc24 pm24 an24 cd24 ct24), sl24⟩) (c24 : PySem.W.codeIn K cd24 "are_tiles" = true) (k24 : PySem.W.keepIn K (.ref f24) = true)
    {f25 : Addr} {od25 an25 : Option Addr} {sl25 : Array (Option Value)} {oc25 kV25 dc25 pm25 cd25 ct25 : Value}
    (a25 : PySem.W.nsIn K mainGlobals "_law_house" = some (some (.ref f25))) (l25 : K.lookup f25 = some ⟨oc25, od25, .func (PySem.W.fnOf "_law_house" "_law_house" (defArgs s_law_house) (defBody s_law_house) (defScope s_law_house) .none kV25 dc25 pm25 an25 cd25 ct25), sl25⟩) (c25 : PySem.W.codeIn K cd25 "_law_house" = true) (k25 : PySem.W.keepIn K (.ref f25) = true)
    {f26 : Addr} {od26 an26 : Option Addr} {sl26 : Array (Option Value)} {oc26 kV26 dc26 pm26 cd26 ct26 : Value}
    (a26 : PySem.W.nsIn K mainGlobals "_law_by" = some (some (.ref f26))) (l26 : K.lookup f26 = some ⟨oc26, od26, .func (PySem.W.fnOf "_law_by" "_law_by" (defArgs s_law_by) (defBody s_law_by) (defScope s_law_by) .none kV26 dc26 pm26 an26 cd26 ct26), sl26⟩) (c26 : PySem.W.codeIn K cd26 "_law_by" = true) (k26 : PySem.W.keepIn K (.ref f26) = true)
    {f27 : Addr} {od27 an27 : Option Addr} {sl27 : Array (Option Value)} {oc27 kV27 dc27 pm27 cd27 ct27 : Value}
    (a27 : PySem.W.nsIn K mainGlobals "_law_odd_tiles" = some (some (.ref f27))) (l27 : K.lookup f27 = some ⟨oc27, od27, .func (PySem.W.fnOf "_law_odd_tiles" "_law_odd_tiles" (defArgs s_law_odd_tiles) (defBody s_law_odd_tiles) (defScope s_law_odd_tiles) .none kV27 dc27 pm27 an27 cd27 ct27), sl27⟩) (c27 : PySem.W.codeIn K cd27 "_law_odd_tiles" = true) (k27 : PySem.W.keepIn K (.ref f27) = true)
    {f28 : Addr} {od28 an28 : Option Addr} {sl28 : Array (Option Value)} {oc28 kV28 dc28 pm28 cd28 ct28 : Value}
    (a28 : PySem.W.findIn K (.ref CHolder) "strength" = some (some (.ref f28))) (i28 : PySem.W.isFn K (.ref f28) = true) (l28 : K.lookup f28 = some ⟨oc28, od28, .func (PySem.W.fnOf "strength" "Holder.strength" (defArgs s_Holder_strength) (defBody s_Holder_strength) (defScope s_Holder_strength) .none kV28 dc28 pm28 an28 cd28 ct28), sl28⟩) (c28 : PySem.W.codeIn K cd28 "Holder.strength" = true) (k28 : PySem.W.keepIn K (.ref f28) = true)
    {f29 : Addr} {od29 an29 : Option Addr} {sl29 : Array (Option Value)} {oc29 kV29 dc29 pm29 cd29 ct29 : Value}
    (a29 : PySem.W.nsIn K mainGlobals "_law_bed" = some (some (.ref f29))) (l29 : K.lookup f29 = some ⟨oc29, od29, .func (PySem.W.fnOf "_law_bed" "_law_bed" (defArgs s_law_bed) (defBody s_law_bed) (defScope s_law_bed) .none kV29 dc29 pm29 an29 cd29 ct29), sl29⟩) (c29 : PySem.W.codeIn K cd29 "_law_bed" = true) (k29 : PySem.W.keepIn K (.ref f29) = true)
    {f30 : Addr} {od30 an30 : Option Addr} {sl30 : Array (Option Value)} {oc30 kV30 dc30 pm30 cd30 ct30 : Value}
    (a30 : PySem.W.nsIn K mainGlobals "_law_may" = some (some (.ref f30))) (l30 : K.lookup f30 = some ⟨oc30, od30, .func (PySem.W.fnOf "_law_may" "_law_may" (defArgs s_law_may) (defBody s_law_may) (defScope s_law_may) .none kV30 dc30 pm30 an30 cd30 ct30), sl30⟩) (c30 : PySem.W.codeIn K cd30 "_law_may" = true) (k30 : PySem.W.keepIn K (.ref f30) = true)
    {f31 : Addr} {od31 an31 : Option Addr} {sl31 : Array (Option Value)} {oc31 kV31 dc31 pm31 cd31 ct31 : Value}
    (a31 : PySem.W.findIn K (.ref CHolder) "fits" = some (some (.ref f31))) (i31 : PySem.W.isFn K (.ref f31) = true) (l31 : K.lookup f31 = some ⟨oc31, od31, .func (PySem.W.fnOf "fits" "Holder.fits" (defArgs s_Holder_fits) (defBody s_Holder_fits) (defScope s_Holder_fits) .none kV31 dc31 pm31 an31 cd31 ct31), sl31⟩) (c31 : PySem.W.codeIn K cd31 "Holder.fits" = true) (k31 : PySem.W.keepIn K (.ref f31) = true)
    {f32 : Addr} {od32 an32 : Option Addr} {sl32 : Array (Option Value)} {oc32 kV32 dc32 pm32 cd32 ct32 : Value}
    (a32 : PySem.W.nsIn K mainGlobals "walk" = some (some (.ref f32))) (l32 : K.lookup f32 = some ⟨oc32, od32, .func (PySem.W.fnOf "walk" "walk" (defArgs s_walk) (defBody s_walk) (defScope s_walk) .none kV32 dc32 pm32 an32 cd32 ct32), sl32⟩) (c32 : PySem.W.codeIn K cd32 "walk" = true) (k32 : PySem.W.keepIn K (.ref f32) = true)
    {f33 : Addr} {od33 an33 : Option Addr} {sl33 : Array (Option Value)} {oc33 kV33 dc33 pm33 cd33 ct33 : Value}
    (a33 : PySem.W.nsIn K mainGlobals "_law_walk" = some (some (.ref f33))) (l33 : K.lookup f33 = some ⟨oc33, od33, .func (PySem.W.fnOf "_law_walk" "_law_walk" (defArgs s_law_walk) (defBody s_law_walk) (defScope s_law_walk) .none kV33 dc33 pm33 an33 cd33 ct33), sl33⟩) (c33 : PySem.W.codeIn K cd33 "_law_walk" = true) (k33 : PySem.W.keepIn K (.ref f33) = true)
    {f34 : Addr} {od34 an34 : Option Addr} {sl34 : Array (Option Value)} {oc34 kV34 dc34 pm34 cd34 ct34 : Value}
    (a34 : PySem.W.nsIn K mainGlobals "is_row" = some (some (.ref f34))) (l34 : K.lookup f34 = some ⟨oc34, od34, .func (PySem.W.fnOf "is_row" "is_row" (defArgs s_is_row) (defBody s_is_row) (defScope s_is_row) .none kV34 dc34 pm34 an34 cd34 ct34), sl34⟩) (c34 : PySem.W.codeIn K cd34 "is_row" = true) (k34 : PySem.W.keepIn K (.ref f34) = true)
    {f35 : Addr} {od35 an35 : Option Addr} {sl35 : Array (Option Value)} {oc35 kV35 dc35 pm35 cd35 ct35 : Value}
    (a35 : PySem.W.nsIn K mainGlobals "law" = some (some (.ref f35))) (l35 : K.lookup f35 = some ⟨oc35, od35, .func (PySem.W.fnOf "law" "law" (defArgs s_law) (defBody s_law) (defScope s_law) .none kV35 dc35 pm35 an35 cd35 ct35), sl35⟩) (c35 : PySem.W.codeIn K cd35 "law" = true) (k35 : PySem.W.keepIn K (.ref f35) = true)
    (z0 : PySem.W.nsIn K mainGlobals "all" = some none)
    (z1 : PySem.W.nsIn K mainGlobals "bool" = some none)
    (z2 : PySem.W.nsIn K mainGlobals "dict" = some none)
    (z3 : PySem.W.nsIn K mainGlobals "enumerate" = some none)
    (z4 : PySem.W.nsIn K mainGlobals "int" = some none)
    (z5 : PySem.W.nsIn K mainGlobals "isinstance" = some none)
    (z6 : PySem.W.nsIn K mainGlobals "len" = some none)
    (z7 : PySem.W.nsIn K mainGlobals "list" = some none)
    (z8 : PySem.W.nsIn K mainGlobals "min" = some none)
    (z9 : PySem.W.nsIn K mainGlobals "range" = some none)
    (z10 : PySem.W.nsIn K mainGlobals "sorted" = some none)
    (z11 : PySem.W.nsIn K mainGlobals "str" = some none)
    (z12 : PySem.W.nsIn K mainGlobals "sum" = some none)
    (z13 : PySem.W.nsIn K mainGlobals "tuple" = some none)
    {tC0_0 : Tok}
    {tC0_1 : Tok}
    {tC0_2 : Tok}
    {tC0_3 : Tok}
    {aC0 : Addr} {nC0 : Nat} {slC0 : Array (Option Value)} (yC0 : K.lookup aC0 = some ⟨.type "tuple", none, .seq [.int 0 tC0_0, .int 1 tC0_1, .int 2 tC0_2, .int 3 tC0_3].toArray nC0, slC0⟩)
    (zC0 : PySem.W.nsIn K mainGlobals "SIDES" = some (some (.ref aC0)))
    {tC1_0_0 : Tok}
    {tC1_0_1 : Tok}
    {aC1_0 : Addr} {nC1_0 : Nat} {slC1_0 : Array (Option Value)} (yC1_0 : K.lookup aC1_0 = some ⟨.type "tuple", none, .seq [.int 0 tC1_0_0, .int 1 tC1_0_1].toArray nC1_0, slC1_0⟩)
    {tC1_1_0 : Tok}
    {tC1_1_1 : Tok}
    {aC1_1 : Addr} {nC1_1 : Nat} {slC1_1 : Array (Option Value)} (yC1_1 : K.lookup aC1_1 = some ⟨.type "tuple", none, .seq [.int 1 tC1_1_0, .int 0 tC1_1_1].toArray nC1_1, slC1_1⟩)
    {tC1_2_0 : Tok}
    {tC1_2_1 : Tok}
    {aC1_2 : Addr} {nC1_2 : Nat} {slC1_2 : Array (Option Value)} (yC1_2 : K.lookup aC1_2 = some ⟨.type "tuple", none, .seq [.int 0 tC1_2_0, .int (-1) tC1_2_1].toArray nC1_2, slC1_2⟩)
    {tC1_3_0 : Tok}
    {tC1_3_1 : Tok}
    {aC1_3 : Addr} {nC1_3 : Nat} {slC1_3 : Array (Option Value)} (yC1_3 : K.lookup aC1_3 = some ⟨.type "tuple", none, .seq [.int (-1) tC1_3_0, .int 0 tC1_3_1].toArray nC1_3, slC1_3⟩)
    {aC1 : Addr} {nC1 : Nat} {slC1 : Array (Option Value)} (yC1 : K.lookup aC1 = some ⟨.type "tuple", none, .seq [.ref aC1_0, .ref aC1_1, .ref aC1_2, .ref aC1_3].toArray nC1, slC1⟩)
    (zC1 : PySem.W.nsIn K mainGlobals "STEPS" = some (some (.ref aC1)))
    : ∃ fd : FuncData, (∀ (s : Shared) (v : Value), BindsTo s fd ⟨[v], []⟩ [("_law_script", v)]) ∧ ∀ base : Heap, K.In base → base.Ns mainGlobals mg → FnOk l.prog w K mg base CX0 7 fa fd ["_law_script"] (spOut K d_law) := by
  have e := hfa.symm.trans (PySem.W.mg_of X G a35)
  cases e
  have F0 := fun_mk (st := s_wall) l0 c0 k0
  have b0 := F0.binds (ps := ["k"]) fun _ _ _ _ _ _ us hl => match us, hl with | [_], _ => rfl
  have F1 := fun_mk (st := s_is_whole) l1 c1 k1
  have b1 := F1.binds (ps := ["thing"]) fun _ _ _ _ _ _ us hl => match us, hl with | [_], _ => rfl
  have F2 := fun_mk (st := s_step_of) l2 c2 k2
  have b2 := F2.binds (ps := ["place", "side"]) fun _ _ _ _ _ _ us hl => match us, hl with | [_, _], _ => rfl
  have F3 := fun_mk (st := s_opposite) l3 c3 k3
  have b3 := F3.binds (ps := ["side"]) fun _ _ _ _ _ _ us hl => match us, hl with | [_], _ => rfl
  have F4 := fun_mk (st := s_lying) l4 c4 k4
  have b4 := F4.binds (ps := ["standing"]) fun _ _ _ _ _ _ us hl => match us, hl with | [_], _ => rfl
  have F5 := fun_mk (st := s_law_begin) l5 c5 k5
  have b5 := F5.binds (ps := ["_law_script", "_law_k"]) fun _ _ _ _ _ _ us hl => match us, hl with | [_, _], _ => rfl
  have F6 := fun_mk (st := s_law_draw) l6 c6 k6
  have b6 := F6.binds (ps := ["_law_pot", "_law_many"]) fun _ _ _ _ _ _ us hl => match us, hl with | [_, _], _ => rfl
  have F7 := fun_mk (st := s_law_lying) l7 c7 k7
  have b7 := F7.binds (ps := ["_law_standing_here"]) fun _ _ _ _ _ _ us hl => match us, hl with | [_], _ => rfl
  have F8 := fun_mk (st := s_law_step) l8 c8 k8
  have b8 := F8.binds (ps := ["_law_place", "_law_side"]) fun _ _ _ _ _ _ us hl => match us, hl with | [_, _], _ => rfl
  have F9 := fun_mk (st := s_Holder___init__) l9 c9 k9
  have b9 := F9.binds (ps := ["self", "bed"]) fun _ _ _ _ _ _ us hl => match us, hl with | [_, _], _ => rfl
  have F10 := fun_mk (st := s_Holder_is_on) l10 c10 k10
  have b10 := F10.binds (ps := ["self", "place"]) fun _ _ _ _ _ _ us hl => match us, hl with | [_, _], _ => rfl
  have F11 := fun_mk (st := s_Holder_held_at) l11 c11 k11
  have b11 := F11.binds (ps := ["self", "offers", "kind"]) fun _ _ _ _ _ _ us hl => match us, hl with | [_, _, _], _ => rfl
  have F12 := fun_mk (st := s_is_tile) l12 c12 k12
  have b12 := F12.binds (ps := ["thing"]) fun _ _ _ _ _ _ us hl => match us, hl with | [_], _ => rfl
  have F13 := fun_mk (st := s_law_names) l13 c13 k13
  have b13 := F13.binds (ps := ["_law_pot", "_law_many"]) fun _ _ _ _ _ _ us hl => match us, hl with | [_, _], _ => rfl
  have F14 := fun_mk (st := s_law_kind) l14 c14 k14
  have b14 := F14.binds (ps := ["_law_pot", "_law_names_here"]) fun _ _ _ _ _ _ us hl => match us, hl with | [_, _], _ => rfl
  have F15 := fun_mk (st := s_law_standing) l15 c15 k15
  have b15 := F15.binds (ps := ["_law_pot", "_law_house_here", "_law_floor", "_law_most"]) fun _ _ _ _ _ _ us hl => match us, hl with | [_, _, _, _], _ => rfl
  have F16 := fun_mk (st := s_law_sides) l16 c16 k16
  have b16 := F16.binds (ps := ["_law_bed_here", "_law_there", "_law_place", "_law_kind_here"]) fun _ _ _ _ _ _ us hl => match us, hl with | [_, _, _, _], _ => rfl
  have F17 := fun_mk (st := s_law_empty) l17 c17 k17
  have b17 := F17.binds (ps := ["_law_bed_here", "_law_there"]) fun _ _ _ _ _ _ us hl => match us, hl with | [_, _], _ => rfl
  have F18 := fun_mk (st := s_law_nested) l18 c18 k18
  have b18 := F18.binds (ps := ["_law_pot"]) fun _ _ _ _ _ _ us hl => match us, hl with | [_], _ => rfl
  have F19 := fun_mk (st := s_Holder_offers) l19 c19 k19
  have b19 := F19.binds (ps := ["self", "there", "place"]) fun _ _ _ _ _ _ us hl => match us, hl with | [_, _, _], _ => rfl
  have F20 := fun_mk (st := s_Holder_strength_by) l20 c20 k20
  have b20 := F20.binds (ps := ["self", "offers", "kind"]) fun _ _ _ _ _ _ us hl => match us, hl with | [_, _, _], _ => rfl
  have F21 := fun_mk (st := s_Holder_holding_sides) l21 c21 k21
  have b21 := F21.binds (ps := ["self", "there", "place", "kind"]) fun _ _ _ _ _ _ us hl => match us, hl with | [_, _, _, _], _ => rfl
  have F22 := fun_mk (st := s_Holder_fitting) l22 c22 k22
  have b22 := F22.binds (ps := ["self", "there", "place"]) fun _ _ _ _ _ _ us hl => match us, hl with | [_, _, _], _ => rfl
  have F23 := fun_mk (st := s_Holder_all_growings) l23 c23 k23
  have b23 := F23.binds (ps := ["self", "there"]) fun _ _ _ _ _ _ us hl => match us, hl with | [_, _], _ => rfl
  have F24 := fun_mk (st := s_are_tiles) l24 c24 k24
  have b24 := F24.binds (ps := ["thing"]) fun _ _ _ _ _ _ us hl => match us, hl with | [_], _ => rfl
  have F25 := fun_mk (st := s_law_house) l25 c25 k25
  have b25 := F25.binds (ps := ["_law_pot"]) fun _ _ _ _ _ _ us hl => match us, hl with | [_], _ => rfl
  have F26 := fun_mk (st := s_law_by) l26 c26 k26
  have b26 := F26.binds (ps := ["_law_bed_here", "_law_there", "_law_place", "_law_kind_here"]) fun _ _ _ _ _ _ us hl => match us, hl with | [_, _, _, _], _ => rfl
  have F27 := fun_mk (st := s_law_odd_tiles) l27 c27 k27
  have b27 := F27.binds (ps := ["_law_pot", "_law_tile"]) fun _ _ _ _ _ _ us hl => match us, hl with | [_, _], _ => rfl
  have F28 := fun_mk (st := s_Holder_strength) l28 c28 k28
  have b28 := F28.binds (ps := ["self", "there", "place", "kind"]) fun _ _ _ _ _ _ us hl => match us, hl with | [_, _, _, _], _ => rfl
  have F29 := fun_mk (st := s_law_bed) l29 c29 k29
  have b29 := F29.binds (ps := ["_law_pot"]) fun _ _ _ _ _ _ us hl => match us, hl with | [_], _ => rfl
  have F30 := fun_mk (st := s_law_may) l30 c30 k30
  have b30 := F30.binds (ps := ["_law_bed_here", "_law_there"]) fun _ _ _ _ _ _ us hl => match us, hl with | [_, _], _ => rfl
  have F31 := fun_mk (st := s_Holder_fits) l31 c31 k31
  have b31 := F31.binds (ps := ["self", "there", "tile"]) fun _ _ _ _ _ _ us hl => match us, hl with | [_, _, _], _ => rfl
  have F32 := fun_mk (st := s_walk) l32 c32 k32
  have b32 := F32.binds (ps := ["bed", "row"]) fun _ _ _ _ _ _ us hl => match us, hl with | [_, _], _ => rfl
  have F33 := fun_mk (st := s_law_walk) l33 c33 k33
  have b33 := F33.binds (ps := ["_law_pot", "_law_bed_here", "_law_most"]) fun _ _ _ _ _ _ us hl => match us, hl with | [_, _, _], _ => rfl
  have F34 := fun_mk (st := s_is_row) l34 c34 k34
  have b34 := F34.binds (ps := ["bed", "thing"]) fun _ _ _ _ _ _ us hl => match us, hl with | [_, _], _ => rfl
  have F35 := fun_mk (st := s_law) l35 c35 k35
  have b35 := F35.binds (ps := ["_law_script"]) fun _ _ _ _ _ _ us hl => match us, hl with | [_], _ => rfl
  refine ⟨PySem.W.fnOf "law" "law" (defArgs s_law) (defBody s_law) (defScope s_law) .none kV35 dc35 pm35 an35 cd35 ct35, fun s v => .of_eq rfl, fun base _ _ => FnOk.out (ok_law (Txt.mk _ _ F0 (PySem.W.mg_of X G a0) b0 _ _ F1 (PySem.W.mg_of X G a1) b1 _ _ F2 (PySem.W.mg_of X G a2) b2 _ _ F3 (PySem.W.mg_of X G a3) b3 _ _ F4 (PySem.W.mg_of X G a4) b4 _ _ F5 (PySem.W.mg_of X G a5) b5 _ _ F6 (PySem.W.mg_of X G a6) b6 _ _ F7 (PySem.W.mg_of X G a7) b7 _ _ F8 (PySem.W.mg_of X G a8) b8 _ _ F9 b9 _ _ F10 b10 _ _ F11 b11 _ _ F12 (PySem.W.mg_of X G a12) b12 _ _ F13 (PySem.W.mg_of X G a13) b13 _ _ F14 (PySem.W.mg_of X G a14) b14 _ _ F15 (PySem.W.mg_of X G a15) b15 _ _ F16 (PySem.W.mg_of X G a16) b16 _ _ F17 (PySem.W.mg_of X G a17) b17 _ _ F18 (PySem.W.mg_of X G a18) b18 _ _ F19 b19 _ _ F20 b20 _ _ F21 b21 _ _ F22 b22 _ _ F23 b23 _ _ F24 (PySem.W.mg_of X G a24) b24 _ _ F25 (PySem.W.mg_of X G a25) b25 _ _ F26 (PySem.W.mg_of X G a26) b26 _ _ F27 (PySem.W.mg_of X G a27) b27 _ _ F28 b28 _ _ F29 (PySem.W.mg_of X G a29) b29 _ _ F30 (PySem.W.mg_of X G a30) b30 _ _ F31 b31 _ _ F32 (PySem.W.mg_of X G a32) b32 _ _ F33 (PySem.W.mg_of X G a33) b33 _ _ F34 (PySem.W.mg_of X G a34) b34 _ _ F35 (PySem.W.mg_of X G a35) b35 (PySem.W.mg_none_of X G z0) (PySem.W.mg_none_of X G z1) (PySem.W.mg_none_of X G z2) (PySem.W.mg_none_of X G z3) (PySem.W.mg_none_of X G z4) (PySem.W.mg_none_of X G z5) (PySem.W.mg_none_of X G z6) (PySem.W.mg_none_of X G z7) (PySem.W.mg_none_of X G z8) (PySem.W.mg_none_of X G z9) (PySem.W.mg_none_of X G z10) (PySem.W.mg_none_of X G z11) (PySem.W.mg_none_of X G z12) (PySem.W.mg_none_of X G z13) (⟨_, PySem.W.mg_of X G zC0, (krep_tup yC0 (.cons (relI _ _) (.cons (relI _ _) (.cons (relI _ _) (.cons (relI _ _) .nil)))) (Nat.le_of_ble_eq_true rfl) (KReps.cons (krep_int _) (KReps.cons (krep_int _) (KReps.cons (krep_int _) (KReps.cons (krep_int _) KReps.nil)))))⟩) (⟨_, PySem.W.mg_of X G zC1, (krep_tup yC1 (.cons (relR _) (.cons (relR _) (.cons (relR _) (.cons (relR _) .nil)))) (Nat.le_of_ble_eq_true rfl) (KReps.cons (krep_tup yC1_0 (.cons (relI _ _) (.cons (relI _ _) .nil)) (Nat.le_of_ble_eq_true rfl) (KReps.cons (krep_int _) (KReps.cons (krep_int _) KReps.nil))) (KReps.cons (krep_tup yC1_1 (.cons (relI _ _) (.cons (relI _ _) .nil)) (Nat.le_of_ble_eq_true rfl) (KReps.cons (krep_int _) (KReps.cons (krep_int _) KReps.nil))) (KReps.cons (krep_tup yC1_2 (.cons (relI _ _) (.cons (relI _ _) .nil)) (Nat.le_of_ble_eq_true rfl) (KReps.cons (krep_int _) (KReps.cons (krep_int _) KReps.nil))) (KReps.cons (krep_tup yC1_3 (.cons (relI _ _) (.cons (relI _ _) .nil)) (Nat.le_of_ble_eq_true rfl) (KReps.cons (krep_int _) (KReps.cons (krep_int _) KReps.nil))) KReps.nil)))))⟩) CHolder (PySem.W.mg_of X G aCHolder) (⟨pgHolder, hdHolder, poHolder, saHolder⟩) (⟨mkHolder, a9, i9, kcHolder⟩) (⟨a10, i10, k10⟩) (⟨a11, i11, k11⟩) (⟨a19, i19, k19⟩) (⟨a20, i20, k20⟩) (⟨a21, i21, k21⟩) (⟨a22, i22, k22⟩) (⟨a23, i23, k23⟩) (⟨a28, i28, k28⟩) (⟨a31, i31, k31⟩) ((FldIn.cons (PySem.W.mg_of X G aCHolder) ⟨pgHolder, hdHolder, poHolder, saHolder⟩ nf_Holder_enough FldIn.nil)) ((FldIn.cons (PySem.W.mg_of X G aCHolder) ⟨pgHolder, hdHolder, poHolder, saHolder⟩ nf_Holder_high FldIn.nil)) ((FldIn.cons (PySem.W.mg_of X G aCHolder) ⟨pgHolder, hdHolder, poHolder, saHolder⟩ nf_Holder_kinds FldIn.nil)) ((FldIn.cons (PySem.W.mg_of X G aCHolder) ⟨pgHolder, hdHolder, poHolder, saHolder⟩ nf_Holder_strengths FldIn.nil)) ((FldIn.cons (PySem.W.mg_of X G aCHolder) ⟨pgHolder, hdHolder, poHolder, saHolder⟩ nf_Holder_wide FldIn.nil))))⟩
end L3
open PySem PySem.W PyProof.Rows
set_option maxHeartbeats 0 in
theorem PySem.Challenge.cw_stickytiles_k14_rows_of_anything_holds : PySem.Challenge.rw_stickytiles_k14_rows_of_anything.Holds := by
  w_on; o_law; k_head; (case hw => w_witness2)
  k_fill
  refine L2.walk_of (l := PySem.Challenge.rw_stickytiles_k14_rows_of_anything) (n := 63) (k := 7) (x := "_law_script") (CX := fun _ => L2.CX0) (sp := fun w => L3.spOut _ L3.d_law) rfl (by decide) rfl ⟨rfl, by decide, by decide⟩ (fun w h Y => PySem.W.kIn_of Y) ?F (fun _ _ a ns hl _ hS => L3.says_out L3.says hl hS) (fun _ _ _ _ _ h => h)
  case F =>
    intro w mg fa h KX G hmg
    refine' L3.all_mk KX G hmg ?aCHolder ?pgHolder ?hdHolder ?poHolder ?saHolder ?mkHolder ?kcHolder ?nf_Holder_enough ?nf_Holder_high ?nf_Holder_kinds ?nf_Holder_strengths ?nf_Holder_wide ?a0 ?l0 ?c0 ?k0 ?a1 ?l1 ?c1 ?k1 ?a2 ?l2 ?c2 ?k2 ?a3 ?l3 ?c3 ?k3 ?a4 ?l4 ?c4 ?k4 ?a5 ?l5 ?c5 ?k5 ?a6 ?l6 ?c6 ?k6 ?a7 ?l7 ?c7 ?k7 ?a8 ?l8 ?c8 ?k8 ?a9 ?i9 ?l9 ?c9 ?k9 ?a10 ?i10 ?l10 ?c10 ?k10 ?a11 ?i11 ?l11 ?c11 ?k11 ?a12 ?l12 ?c12 ?k12 ?a13 ?l13 ?c13 ?k13 ?a14 ?l14 ?c14 ?k14 ?a15 ?l15 ?c15 ?k15 ?a16 ?l16 ?c16 ?k16 ?a17 ?l17 ?c17 ?k17 ?a18 ?l18 ?c18 ?k18 ?a19 ?i19 ?l19 ?c19 ?k19 ?a20 ?i20 ?l20 ?c20 ?k20 ?a21 ?i21 ?l21 ?c21 ?k21 ?a22 ?i22 ?l22 ?c22 ?k22 ?a23 ?i23 ?l23 ?c23 ?k23 ?a24 ?l24 ?c24 ?k24 ?a25 ?l25 ?c25 ?k25 ?a26 ?l26 ?c26 ?k26 ?a27 ?l27 ?c27 ?k27 ?a28 ?i28 ?l28 ?c28 ?k28 ?a29 ?l29 ?c29 ?k29 ?a30 ?l30 ?c30 ?k30 ?a31 ?i31 ?l31 ?c31 ?k31 ?a32 ?l32 ?c32 ?k32 ?a33 ?l33 ?c33 ?k33 ?a34 ?l34 ?c34 ?k34 ?a35 ?l35 ?c35 ?k35 ?z0 ?z1 ?z2 ?z3 ?z4 ?z5 ?z6 ?z7 ?z8 ?z9 ?z10 ?z11 ?z12 ?z13 ?yC0 ?zC0 ?yC1_0 ?yC1_1 ?yC1_2 ?yC1_3 ?yC1 ?zC1
    (case aCHolder => k_is); (case pgHolder => k_is); (case hdHolder => k_is); (case poHolder => k_is); (case saHolder => k_is); (case mkHolder => k_is); (case kcHolder => k_is); (case nf_Holder_enough => k_is); (case nf_Holder_high => k_is); (case nf_Holder_kinds => k_is); (case nf_Holder_strengths => k_is); (case nf_Holder_wide => k_is); (case a0 => k_is); (case l0 => k_is); (case c0 => k_is); (case k0 => k_is); (case a1 => k_is); (case l1 => k_is); (case c1 => k_is); (case k1 => k_is); (case a2 => k_is); (case l2 => k_is); (case c2 => k_is); (case k2 => k_is); (case a3 => k_is); (case l3 => k_is); (case c3 => k_is); (case k3 => k_is); (case a4 => k_is); (case l4 => k_is); (case c4 => k_is); (case k4 => k_is); (case a5 => k_is); (case l5 => k_is); (case c5 => k_is); (case k5 => k_is); (case a6 => k_is); (case l6 => k_is); (case c6 => k_is); (case k6 => k_is); (case a7 => k_is); (case l7 => k_is); (case c7 => k_is); (case k7 => k_is); (case a8 => k_is); (case l8 => k_is); (case c8 => k_is); (case k8 => k_is); (case a9 => k_is); (case i9 => k_is); (case l9 => k_is); (case c9 => k_is); (case k9 => k_is); (case a10 => k_is); (case i10 => k_is); (case l10 => k_is); (case c10 => k_is); (case k10 => k_is); (case a11 => k_is); (case i11 => k_is); (case l11 => k_is); (case c11 => k_is); (case k11 => k_is); (case a12 => k_is); (case l12 => k_is); (case c12 => k_is); (case k12 => k_is); (case a13 => k_is); (case l13 => k_is); (case c13 => k_is); (case k13 => k_is); (case a14 => k_is); (case l14 => k_is); (case c14 => k_is); (case k14 => k_is); (case a15 => k_is); (case l15 => k_is); (case c15 => k_is); (case k15 => k_is); (case a16 => k_is); (case l16 => k_is); (case c16 => k_is); (case k16 => k_is); (case a17 => k_is); (case l17 => k_is); (case c17 => k_is); (case k17 => k_is); (case a18 => k_is); (case l18 => k_is); (case c18 => k_is); (case k18 => k_is); (case a19 => k_is); (case i19 => k_is); (case l19 => k_is); (case c19 => k_is); (case k19 => k_is); (case a20 => k_is); (case i20 => k_is); (case l20 => k_is); (case c20 => k_is); (case k20 => k_is); (case a21 => k_is); (case i21 => k_is); (case l21 => k_is); (case c21 => k_is); (case k21 => k_is); (case a22 => k_is); (case i22 => k_is); (case l22 => k_is); (case c22 => k_is); (case k22 => k_is); (case a23 => k_is); (case i23 => k_is); (case l23 => k_is); (case c23 => k_is); (case k23 => k_is); (case a24 => k_is); (case l24 => k_is); (case c24 => k_is); (case k24 => k_is); (case a25 => k_is); (case l25 => k_is); (case c25 => k_is); (case k25 => k_is); (case a26 => k_is); (case l26 => k_is); (case c26 => k_is); (case k26 => k_is); (case a27 => k_is); (case l27 => k_is); (case c27 => k_is); (case k27 => k_is); (case a28 => k_is); (case i28 => k_is); (case l28 => k_is); (case c28 => k_is); (case k28 => k_is); (case a29 => k_is); (case l29 => k_is); (case c29 => k_is); (case k29 => k_is); (case a30 => k_is); (case l30 => k_is); (case c30 => k_is); (case k30 => k_is); (case a31 => k_is); (case i31 => k_is); (case l31 => k_is); (case c31 => k_is); (case k31 => k_is); (case a32 => k_is); (case l32 => k_is); (case c32 => k_is); (case k32 => k_is); (case a33 => k_is); (case l33 => k_is); (case c33 => k_is); (case k33 => k_is); (case a34 => k_is); (case l34 => k_is); (case c34 => k_is); (case k34 => k_is); (case a35 => k_is); (case l35 => k_is); (case c35 => k_is); (case k35 => k_is); (case z0 => k_is); (case z1 => k_is); (case z2 => k_is); (case z3 => k_is); (case z4 => k_is); (case z5 => k_is); (case z6 => k_is); (case z7 => k_is); (case z8 => k_is); (case z9 => k_is); (case z10 => k_is); (case z11 => k_is); (case z12 => k_is); (case z13 => k_is); (case zC0 => k_is); (case yC0 => k_is); (case zC1 => k_is); (case yC1 => k_is); (case yC1_3 => k_is); (case yC1_2 => k_is); (case yC1_1 => k_is); (case yC1_0 => k_is)
