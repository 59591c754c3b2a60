import PyProof.Rows.All
import HandS.ForMost
import HandS.Exc
import HandS.Deep
import HandS.Wide
import HandS.TupAny
import HandS.Flow
import HandS.IsInst
import HandS.Zip
import HandS.ForExc
import HandS.StrMore
import PyProof.ListStr
import PyProof.StrOps2
import PyProof.SliceStr2
import KE.SortData
import HandS.Style
import HandS.Text
import HandS.RaiseMore
import HandS.Iter
import KE.KDictKeyed
import KE.KDictWalk
import HandS.Conv
import HandS.More
import KE.KIndexOf
import PyProof.ReprRoads
import KE.KDictPairs
import KE.GoesMore
import KE.GoesEnum
import PyProof.Draws
import HandS.DictTup
import HandS.TupLe
import KE.DataMinMax
import PyProof.DictMoreH
import KE.KEqDict
import KE.KDictSum
import HandS.WordsExc
import HandS.ExcIs
import HandS.SetFor
import KE.KUnpack
import PyProof.TupleOfSeq
import PyProof.Transfer
import HandS.TupMul
import PyProof.Rows.TupDisplay
import HandS.ExcInit
import HandS.ExcField
import HandS.TupSets
import PyProof.EqAt
import PyProof.NeKinds
import KE.SortKeyHeap
import HandS.Sort
import HandS.ExcValue
import KE.KDictCopyH
import KE.KDictOf
import HandS.TupLen
import HandS.Strs
import HandS.TryMany
import PyProof.DictFindH
import HandS.Codes
import PyProof.P3Eq
import PySem.Challenge.RW_stickytiles_k08_errors_apart
set_option Elab.async false
set_option linter.all false
set_option maxRecDepth 100000
set_option maxHeartbeats 0
namespace L3
open PySem PySem.Spec PyProof.Rows L2

/-! ### data -/
inductive D where
  | non | bl (b : Bool) | int (i : Int) | str (x : Str) | tup (ds : List D) | ktp (ds : List D) | lst (ds : List D) | frz (ds : List D) | loc (l : Nat)
  | exn (a : Nat) | exf (a dd : Nat) (f : Str) (i : Int) | exk (c : Str) (fl : Option (Str × Int))
/-- keys that are tuples of tuples of numbers -/
abbrev NK := List (List Int)
inductive Ob where
  | lst (ds : List D) | dK (kvs : List (Key × D)) | dT (kvs : List (List Key × D)) | dN (kvs : List (NK × D)) | ins (C : Str) (fs : List (Str × D)) | lck (o : Ob)
def nkD (k : NK) : D := .tup (k.map fun t => .tup (t.map D.int))
def nkHash (k : NK) : Int := reduceHash (Builtin.Tuple.tupleHashOf (k.map fun t => reduceHash (Builtin.Tuple.tupleHashOf (t.map hashInt))))
def entN (x : NK × Addr × Value) : DictEntry := ⟨nkHash x.1, .ref x.2.1, x.2.2⟩
/-- a dict with such keys, at a: its entries -/
def NdO (a : Addr) (xs : List (NK × Addr × Value)) : HO := .ext fun h => (a == sysModules) = false ∧ ∃ o es ep, h.get? a = some o ∧ o.ExactDict ∧ o.data = .dict es ep ∧ es.toList = xs.map entN
abbrev Store := List Ob
abbrev DSt := List (Option D)
inductive Res (α : Type) where
  | ok (a : α) (S : Store) | exc (c : Str) (fs : List (Str × D)) (S : Store) | stuck
def Res.bind {α β : Type} (r : Res α) (f : α → Store → Res β) : Res β := match r with
  | .ok a S => f a S
  | .exc c fs S => .exc c fs S
  | .stuck => .stuck
@[simp] theorem Res.bind_ok {α β : Type} (a : α) (S : Store) (f : α → Store → Res β) : (Res.ok a S).bind f = f a S := (rfl)
@[simp] theorem Res.bind_exc {α β : Type} (c : Str) (fs : List (Str × D)) (S : Store) (f : α → Store → Res β) : (Res.exc c fs S).bind f = .exc c fs S := (rfl)
@[simp] theorem Res.bind_stuck {α β : Type} (f : α → Store → Res β) : (Res.stuck : Res α).bind f = .stuck := (rfl)

/-! ### how data lies in the heap: M the mutable objects by number, B the lists that are being made -/
structure Wd where
  M : List Addr
  B : List Addr
def H0 : Hp := fun _ => none
theorem no_rd {a : Addr} {u : HO} : ¬ Rd H0 a u := fun h => by
  rcases h with h | ⟨o, h⟩ <;> cases h
section
variable (K : PySem.W.Frag) (w : Wd) (H : Hp)
def FzL (a : Addr) (xs : List V) : Prop := (a ∉ w.M ∧ a ∉ w.B ∧ Rd H a (.lst xs)) ∨ SqL K H0 a xs
def FzX (a : Addr) (xs : List V) : Prop := a ∉ w.M ∧ a ∉ w.B ∧ H a = some (.lst xs)
def FzT (a : Addr) (xs : List V) : Prop := a ∉ w.M ∧ a ∉ w.B ∧ H a = some (.tup xs)
/-- the field of an exception in hand, an exception that is kept -/
def FzE (a : Addr) (u : HO) : Prop := a ∉ w.M ∧ a ∉ w.B ∧ H a = some u
def KeptO (a : Addr) (cls : Value) (d : Option Addr) : HO := .ext fun h => ∃ oe vs, h.get? a = some oe ∧ L2.Zc cls d oe ∧ oe.data = .fields vs
def KeptD (a A : Addr) : Option (Str × Int) → Prop
  | none => FzE w H a (KeptO a (.ref A) none)
  | some (f, i) => ∃ d, FzE w H a (KeptO a (.ref A) (some d)) ∧ FzE w H d (.xd [(f, V.int i)])
/-- tuples that are known exactly: the module's, and made ones -/
def KcT (a : Addr) (xs : List V) : Prop := ∃ (o : Obj) (its : Array Value) (n : Nat), K.lookup a = some o ∧ o.cls = .type "tuple" ∧ o.dict = none ∧ o.data = .seq its n ∧ its.size ≤ sizeLine ∧ Vals xs its.toList
def PlT (a : Addr) (xs : List V) : Prop := a ∉ w.M ∧ a ∉ w.B ∧ ∃ (o : Obj) (its : Array Value) (n : Nat), H a = some (.frz o (.tup xs)) ∧ o.cls = .type "tuple" ∧ o.dict = none ∧ o.data = .seq its n
mutual
def Rep : D → V → Prop
  | .non, v => v = .non
  | .bl b, v => v = .bl b
  | .int i, v => v = .int i
  | .str x, v => v = .str x
  | .tup ds, v => ∃ a vs, v = .ref a ∧ FzT w H a vs ∧ Reps ds vs
  | .ktp ds, v => ∃ a vs, v = .ref a ∧ (KcT K a vs ∨ PlT w H a vs) ∧ Reps ds vs
  | .lst ds, v => ∃ a vs, v = .ref a ∧ FzX w H a vs ∧ Reps ds vs
  | .frz ds, v => ∃ a vs, v = .ref a ∧ FzL K w H a vs ∧ Reps ds vs
  | .loc l, v => ∃ a, w.M[l]? = some a ∧ v = .ref a
  | .exn a, v => v = .ref a
  | .exf a dd f i, v => v = .ref a ∧ FzE w H dd (.xd [(f, V.int i)])
  | .exk c fl, v => ∃ a A, v = .ref a ∧ PySem.W.nsIn K mainGlobals c = some (some (.ref A)) ∧ KeptD w H a A fl
def Reps : List D → List V → Prop
  | [], vs => vs = []
  | d :: ds, vs => ∃ v r, vs = v :: r ∧ Rep d v ∧ Reps ds r
end
def RepO : Option D → Option V → Prop
  | none, _ => True
  | some d, some v => Rep K w H d v
  | some _, none => False
/-- the slots -/
def RSt (ds : DSt) (vs : L2.St) : Prop := ds.length = vs.length ∧ ∀ (i : Nat) (d : D), ds[i]? = some (some d) → ∃ v, vs[i]? = some (some v) ∧ Rep K w H d v
/-- pairs by keys -/
def RKv {κ : Type} : List (κ × D) → List (κ × V) → Prop
  | [], vs => vs = []
  | (k, d) :: ds, vs => ∃ v r, vs = (k, v) :: r ∧ Rep K w H d v ∧ RKv ds r
/-- pairs by such keys: where the key's tuple lies -/
def RNv : List (NK × D) → List (NK × Addr × Value) → Prop
  | [], xs => xs = []
  | (k, d) :: ds, xs => ∃ p u v r, xs = (k, p, u) :: r ∧ Rep K w H (nkD k) (.ref p) ∧ RelV v u ∧ Rep K w H d v ∧ RNv ds r
def HoOk (mg : Str → Option Value) : Ob → HO → Prop
  | .lst ds, u => ∃ vs, u = .lst vs ∧ Reps K w H ds vs
  | .dK kvs, u => ∃ vs, u = .dK vs ∧ RKv K w H kvs vs
  | .dT kvs, u => ∃ vs, u = .dT vs ∧ RKv K w H kvs vs
  | .dN kvs, u => ∃ a xs, u = NdO a xs ∧ RNv K w H kvs xs ∧ (kvs.map (·.1)).Nodup
  | .ins C fs, u => ∃ A dx vs, mg C = some (.ref A) ∧ u = .ins A dx vs ∧ RKv K w H fs vs
  | .lck o, u => ∃ od u', u = .frz od u' ∧ HoOk mg o u'
structure Ab (mg : Str → Option Value) (S : Store) : Prop where
  len : w.M.length = S.length
  nd : w.M.Nodup
  bm : ∀ a ∈ w.B, a ∉ w.M
  bt : ∀ a ∈ w.B, ∃ xs, H a = some (.lst xs)
  ob : ∀ (l : Nat) (a : Addr) (o : Ob), w.M[l]? = some a → S[l]? = some o → ∃ u, H a = some u ∧ HoOk K w H mg o u
end
/-- what a step may do: new mutable objects, new objects; what is no mutable object stands -/
structure Ex (w : Wd) (H : Hp) (w' : Wd) (H' : Hp) : Prop where
  pre : ∃ t, w'.M = w.M ++ t
  bk : w'.B = w.B
  keep : ∀ a u, H a = some u → a ∉ w.M → H' a = some u ∧ a ∉ w'.M
  fz : ∀ a od u, H a = some (.frz od u) → H' a = some (.frz od u)
theorem Ex.refl (w : Wd) (H : Hp) : Ex w H w H := ⟨⟨[], by simp⟩, rfl, fun a u h n => ⟨h, n⟩, fun _ _ _ h => h⟩
theorem Ex.trans {w w1 w2 : Wd} {H H1 H2 : Hp} (a : Ex w H w1 H1) (b : Ex w1 H1 w2 H2) : Ex w H w2 H2 := by
  obtain ⟨t, ht⟩ := a.pre
  obtain ⟨t', ht'⟩ := b.pre
  refine ⟨⟨t ++ t', by rw [ht', ht, List.append_assoc]⟩, b.bk.trans a.bk, fun c u h n => ?_, fun c od u h => b.fz c od u (a.fz c od u h)⟩
  obtain ⟨h1, n1⟩ := a.keep c u h n
  exact b.keep c u h1 n1
theorem Ex.get {w w' : Wd} {H H' : Hp} (e : Ex w H w' H') {l : Nat} {a : Addr} (h : w.M[l]? = some a) : w'.M[l]? = some a := by
  obtain ⟨t, ht⟩ := e.pre
  rw [ht]
  obtain ⟨h1, h2⟩ := List.getElem?_eq_some_iff.mp h
  rw [List.getElem?_append_left h1]; exact h
section
variable {K : PySem.W.Frag} {w w' : Wd} {H H' : Hp}
theorem FzL.sq {a : Addr} {xs : List V} (h : FzL K w H a xs) : SqL K H a xs := by
  rcases h with ⟨_, _, h⟩ | h | h
  · exact .inl h
  · exact absurd h no_rd
  · exact .inr h
theorem FzT.sq {a : Addr} {xs : List V} (h : FzT w H a xs) : SqT K H a xs := .inl (.inl h.2.2)
theorem Ex.rd (e : Ex w H w' H') {a : Addr} {u : HO} (n : a ∉ w.M) (b : a ∉ w.B) (h : Rd H a u) : a ∉ w'.M ∧ a ∉ w'.B ∧ Rd H' a u := by
  rcases h with h | ⟨o, h⟩
  · obtain ⟨h1, n1⟩ := e.keep a _ h n
    exact ⟨n1, by rw [e.bk]; exact b, .inl h1⟩
  · obtain ⟨h1, n1⟩ := e.keep a _ h n
    exact ⟨n1, by rw [e.bk]; exact b, .inr ⟨o, h1⟩⟩
theorem FzL.mono (e : Ex w H w' H') {a : Addr} {xs : List V} (h : FzL K w H a xs) : FzL K w' H' a xs := by
  rcases h with ⟨n, b, h⟩ | h
  · exact .inl (e.rd n b h)
  · exact .inr h
theorem FzX.mono (e : Ex w H w' H') {a : Addr} {xs : List V} (h : FzX w H a xs) : FzX w' H' a xs :=
  let ⟨n, b, h⟩ := h
  let ⟨h1, n1⟩ := e.keep a _ h n
  ⟨n1, by rw [e.bk]; exact b, h1⟩
theorem FzX.sq {a : Addr} {xs : List V} (h : FzX w H a xs) : SqL K H a xs := .inl (.inl h.2.2)
theorem PlT.by {a : Addr} {xs : List V} (k : ∀ a u, H a = some u → a ∉ w.M → a ∉ w.B → a ∉ w'.M ∧ a ∉ w'.B ∧ H' a = some u) (h : PlT w H a xs) : PlT w' H' a xs :=
  let ⟨n, b, o, its, m, f, r⟩ := h
  let ⟨n1, b1, f1⟩ := k a _ f n b
  ⟨n1, b1, o, its, m, f1, r⟩
theorem PlT.mono (e : Ex w H w' H') {a : Addr} {xs : List V} (h : PlT w H a xs) : PlT w' H' a xs := h.by fun a u f n b =>
  let ⟨h1, n1⟩ := e.keep a u f n
  ⟨n1, by rw [e.bk]; exact b, h1⟩
theorem kp_sq {a : Addr} {xs : List V} (h : KcT K a xs ∨ PlT w H a xs) : SqT K H a xs := by
  rcases h with ⟨o, its, n, h1, h2, _, h3⟩ | ⟨_, _, o, its, n, h, _⟩
  · exact .inr ⟨o, its, n, h1, h2, h3⟩
  · exact .inl (.inr ⟨o, h⟩)
theorem FzT.mono (e : Ex w H w' H') {a : Addr} {xs : List V} (h : FzT w H a xs) : FzT w' H' a xs :=
  let ⟨n, b, h⟩ := h
  let ⟨h1, n1⟩ := e.keep a _ h n
  ⟨n1, by rw [e.bk]; exact b, h1⟩
theorem FzE.mono (e : Ex w H w' H') {a : Addr} {u : HO} (h : FzE w H a u) : FzE w' H' a u :=
  let ⟨n, b, h⟩ := h
  let ⟨h1, n1⟩ := e.keep a _ h n
  ⟨n1, by rw [e.bk]; exact b, h1⟩
mutual
/-- any change that keeps frozen lists, tuples and the numbers' addresses -/
theorem Rep.gen (hX : ∀ a xs, FzX w H a xs → FzX w' H' a xs) (hL : ∀ a xs, FzL K w H a xs → FzL K w' H' a xs) (hT : ∀ a xs, FzT w H a xs → FzT w' H' a xs) (hP : ∀ a xs, PlT w H a xs → PlT w' H' a xs) (hE : ∀ a u, FzE w H a u → FzE w' H' a u) (hM : ∀ (l : Nat) (a : Addr), w.M[l]? = some a → w'.M[l]? = some a) : ∀ {d : D} {v : V}, Rep K w H d v → Rep K w' H' d v
  | .non, _, h => by simpa only [Rep] using h
  | .bl b, _, h => by simpa only [Rep] using h
  | .int i, _, h => by simpa only [Rep] using h
  | .str x, _, h => by simpa only [Rep] using h
  | .tup ds, _, h => by
    simp only [Rep] at h ⊢
    obtain ⟨a, vs, e, f, r⟩ := h
    exact ⟨a, vs, e, hT _ _ f, Reps.gen hX hL hT hP hE hM r⟩
  | .ktp ds, _, h => by
    simp only [Rep] at h ⊢
    obtain ⟨a, vs, e, f, r⟩ := h
    exact ⟨a, vs, e, f.imp_right (hP _ _), Reps.gen hX hL hT hP hE hM r⟩
  | .lst ds, _, h => by
    simp only [Rep] at h ⊢
    obtain ⟨a, vs, e, f, r⟩ := h
    exact ⟨a, vs, e, hX _ _ f, Reps.gen hX hL hT hP hE hM r⟩
  | .frz ds, _, h => by
    simp only [Rep] at h ⊢
    obtain ⟨a, vs, e, f, r⟩ := h
    exact ⟨a, vs, e, hL _ _ f, Reps.gen hX hL hT hP hE hM r⟩
  | .loc l, _, h => by
    simp only [Rep] at h ⊢
    obtain ⟨a, e, f⟩ := h
    exact ⟨a, hM _ _ e, f⟩
  | .exn a, _, h => by simpa only [Rep] using h
  | .exf a dd f i, _, h => by
    simp only [Rep] at h ⊢
    exact ⟨h.1, hE _ _ h.2⟩
  | .exk c fl, _, h => by
    simp only [Rep] at h ⊢
    obtain ⟨a, A, e, g, k⟩ := h
    refine ⟨a, A, e, g, ?_⟩
    match fl, k with
    | none, k => exact hE _ _ k
    | some (f, i), ⟨d, k1, k2⟩ => exact ⟨d, hE _ _ k1, hE _ _ k2⟩
theorem Reps.gen (hX : ∀ a xs, FzX w H a xs → FzX w' H' a xs) (hL : ∀ a xs, FzL K w H a xs → FzL K w' H' a xs) (hT : ∀ a xs, FzT w H a xs → FzT w' H' a xs) (hP : ∀ a xs, PlT w H a xs → PlT w' H' a xs) (hE : ∀ a u, FzE w H a u → FzE w' H' a u) (hM : ∀ (l : Nat) (a : Addr), w.M[l]? = some a → w'.M[l]? = some a) : ∀ {ds : List D} {vs : List V}, Reps K w H ds vs → Reps K w' H' ds vs
  | [], _, h => by simpa only [Reps] using h
  | d :: ds, _, h => by
    simp only [Reps] at h ⊢
    obtain ⟨v, r, e, h1, h2⟩ := h
    exact ⟨v, r, e, Rep.gen hX hL hT hP hE hM h1, Reps.gen hX hL hT hP hE hM h2⟩
end
theorem Rep.mono (e : Ex w H w' H') {d : D} {v : V} (h : Rep K w H d v) : Rep K w' H' d v := h.gen (fun _ _ f => f.mono e) (fun _ _ f => f.mono e) (fun _ _ f => f.mono e) (fun _ _ f => f.mono e) (fun _ _ f => f.mono e) fun _ _ => e.get
theorem Reps.mono (e : Ex w H w' H') {d : List D} {v : List V} (h : Reps K w H d v) : Reps K w' H' d v := h.gen (fun _ _ f => f.mono e) (fun _ _ f => f.mono e) (fun _ _ f => f.mono e) (fun _ _ f => f.mono e) (fun _ _ f => f.mono e) fun _ _ => e.get
theorem RKv.gen {κ : Type} (f : ∀ d v, Rep K w H d v → Rep K w' H' d v) : ∀ {ds : List (κ × D)} {vs : List (κ × V)}, RKv K w H ds vs → RKv K w' H' ds vs
  | [], _, h => h
  | (k, d) :: ds, _, h => by
    obtain ⟨v, r, e, h1, h2⟩ := h
    exact ⟨v, r, e, f _ _ h1, RKv.gen f h2⟩
theorem RNv.gen (f : ∀ d v, Rep K w H d v → Rep K w' H' d v) : ∀ {ds : List (NK × D)} {xs : List (NK × Addr × Value)}, RNv K w H ds xs → RNv K w' H' ds xs
  | [], _, h => h
  | (k, d) :: ds, _, h => by
    obtain ⟨p, u, v, r, e, h1, h2, h3, h4⟩ := h
    exact ⟨p, u, v, r, e, f _ _ h1, h2, f _ _ h3, RNv.gen f h4⟩
theorem RSt.gen (f : ∀ d v, Rep K w H d v → Rep K w' H' d v) {ds : DSt} {vs : L2.St} (h : RSt K w H ds vs) : RSt K w' H' ds vs :=
  ⟨h.1, fun i d e => let ⟨v, e1, r⟩ := h.2 i d e; ⟨v, e1, f _ _ r⟩⟩
theorem RSt.mono (e : Ex w H w' H') {ds : DSt} {vs : L2.St} (h : RSt K w H ds vs) : RSt K w' H' ds vs := h.gen fun _ _ r => r.mono e
theorem HoOk.gen {mg : Str → Option Value} (f : ∀ d v, Rep K w H d v → Rep K w' H' d v) (g : ∀ d v, Reps K w H d v → Reps K w' H' d v) : ∀ {o : Ob} {u : HO}, HoOk K w H mg o u → HoOk K w' H' mg o u
  | .lst ds, _, h => by
    obtain ⟨vs, e, r⟩ := h
    exact ⟨vs, e, g _ _ r⟩
  | .dK ds, _, h => by
    obtain ⟨vs, e, r⟩ := h
    exact ⟨vs, e, r.gen f⟩
  | .dT ds, _, h => by
    obtain ⟨vs, e, r⟩ := h
    exact ⟨vs, e, r.gen f⟩
  | .dN ds, _, h => by
    obtain ⟨a, xs, e, r, n⟩ := h
    exact ⟨a, xs, e, r.gen f, n⟩
  | .ins C ds, _, h => by
    obtain ⟨A, dx, vs, m, e, r⟩ := h
    exact ⟨A, dx, vs, m, e, r.gen f⟩
  | .lck o, _, h => by
    obtain ⟨od, u', e, r⟩ := h
    exact ⟨od, u', e, HoOk.gen f g r⟩
theorem Reps.length : ∀ {ds : List D} {vs : List V}, Reps K w H ds vs → ds.length = vs.length
  | [], _, h => by simp only [Reps] at h; rw [h]; rfl
  | d :: ds, _, h => by
    simp only [Reps] at h
    obtain ⟨v, r, rfl, _, h2⟩ := h
    simp [Reps.length h2]
theorem Reps.get : ∀ {ds : List D} {vs : List V} {i : Nat} {d : D}, Reps K w H ds vs → ds[i]? = some d → ∃ v, vs[i]? = some v ∧ Rep K w H d v
  | [], _, _, _, h, e => by simp at e
  | d :: ds, _, 0, d', h, e => by
    simp only [Reps] at h
    obtain ⟨v, r, rfl, h1, h2⟩ := h
    simp at e; subst e
    exact ⟨v, by simp, h1⟩
  | d :: ds, _, i + 1, d', h, e => by
    simp only [Reps] at h
    obtain ⟨v, r, rfl, h1, h2⟩ := h
    simpa using Reps.get (i := i) h2 (by simpa using e)
theorem Reps.nil : Reps K w H [] [] := by simp only [Reps]
theorem Reps.cons {d : D} {v : V} {ds : List D} {vs : List V} (h : Rep K w H d v) (t : Reps K w H ds vs) : Reps K w H (d :: ds) (v :: vs) := by
  simp only [Reps]; exact ⟨v, vs, rfl, h, t⟩
theorem Reps.append : ∀ {ds es : List D} {vs us : List V}, Reps K w H ds vs → Reps K w H es us → Reps K w H (ds ++ es) (vs ++ us)
  | [], _, _, _, h, g => by simp only [Reps] at h; subst h; exact g
  | d :: ds, _, _, _, h, g => by
    simp only [Reps] at h
    obtain ⟨v, r, rfl, h1, h2⟩ := h
    exact .cons h1 (Reps.append h2 g)
theorem Ab.there {mg : Str → Option Value} {S : Store} (A : Ab K w H mg S) {a : Addr} (h : a ∈ w.M) : ∃ u, H a = some u := by
  obtain ⟨l, h1, e⟩ := List.getElem_of_mem h
  have h2 : l < S.length := by rw [← A.len]; exact h1
  obtain ⟨u, e', _⟩ := A.ob l a S[l] (by rw [← e]; exact List.getElem?_eq_getElem h1) (List.getElem?_eq_getElem h2)
  exact ⟨u, e'⟩
theorem Ab.new {mg : Str → Option Value} {S : Store} (A : Ab K w H mg S) {p : Addr} (h : H p = none) : p ∉ w.M := fun z => by
  obtain ⟨u, e⟩ := A.there z
  rw [h] at e; cases e
theorem Ab.newB {mg : Str → Option Value} {S : Store} (A : Ab K w H mg S) {p : Addr} (h : H p = none) : p ∉ w.B := fun z => by
  obtain ⟨u, e⟩ := A.bt p z
  rw [h] at e; cases e
end
section
variable {K : PySem.W.Frag} {mg : Str → Option Value} {w : Wd} {H : Hp} {S : Store}
theorem ne_new {a p : Addr} {u : HO} (h : H a = some u) (hp : H p = none) : a ≠ p := ne_of_none h hp
/-- a new frozen object -/
theorem Ex.new {p : Addr} {o : HO} (hp : H p = none) : Ex w H w (upd H p o) :=
  ⟨⟨[], by simp⟩, rfl, fun a u h n => ⟨by rw [upd_ne (ne_new h hp)]; exact h, n⟩, fun a od u h => by rw [upd_ne (ne_new h hp)]; exact h⟩
theorem HoOk.mono {w' : Wd} {H' : Hp} (e : Ex w H w' H') {o : Ob} {u : HO} (h : HoOk K w H mg o u) : HoOk K w' H' mg o u := h.gen (fun _ _ r => r.mono e) fun _ _ r => r.mono e
theorem Ab.newF (A : Ab K w H mg S) {p : Addr} {o : HO} (hp : H p = none) : Ab K w (upd H p o) mg S :=
  ⟨A.len, A.nd, A.bm, fun a ha => let ⟨u, e⟩ := A.bt a ha; ⟨u, by rw [upd_ne (ne_new e hp)]; exact e⟩, fun l a ob h1 h2 => by
    obtain ⟨u, e, k⟩ := A.ob l a ob h1 h2
    exact ⟨u, by rw [upd_ne (ne_new e hp)]; exact e, k.mono (Ex.new hp)⟩⟩
/-- a new mutable object -/
theorem Ex.newM {p : Addr} {o : HO} (hp : H p = none) : Ex w H ⟨w.M ++ [p], w.B⟩ (upd H p o) :=
  ⟨⟨[p], rfl⟩, rfl, fun a u h n => ⟨by rw [upd_ne (ne_new h hp)]; exact h, by simp only [List.mem_append, List.mem_singleton, not_or]; exact ⟨n, ne_new h hp⟩⟩, fun a od u h => by rw [upd_ne (ne_new h hp)]; exact h⟩
theorem Ab.newM (A : Ab K w H mg S) {p : Addr} {o : HO} {ob : Ob} (hp : H p = none) (k : HoOk K ⟨w.M ++ [p], w.B⟩ (upd H p o) mg ob o) : Ab K ⟨w.M ++ [p], w.B⟩ (upd H p o) mg (S ++ [ob]) := by
  have hn := A.new hp
  have hB := A.newB hp
  refine ⟨by simp [A.len], ?_, fun a hb hm => ?_, fun a ha => let ⟨u, e⟩ := A.bt a ha; ⟨u, by rw [upd_ne (ne_new e hp)]; exact e⟩, fun l a ob' h1 h2 => ?_⟩
  · show (w.M ++ [p]).Nodup
    rw [List.nodup_append]
    exact ⟨A.nd, by simp, fun a ha b hb => by simp only [List.mem_singleton] at hb; subst hb; exact fun e => hn (e ▸ ha)⟩
  · simp only [List.mem_append, List.mem_singleton] at hm
    rcases hm with hm | rfl
    · exact A.bm a hb hm
    · exact hB hb
  · have h1 : (w.M ++ [p])[l]? = some a := h1
    by_cases hl : l < S.length
    · have hl' : l < w.M.length := by rw [A.len]; exact hl
      rw [List.getElem?_append_left hl] at h2
      rw [List.getElem?_append_left hl'] at h1
      obtain ⟨u, e, k'⟩ := A.ob l a ob' h1 h2
      exact ⟨u, by rw [upd_ne (ne_new e hp)]; exact e, k'.mono (Ex.newM hp)⟩
    · have hl' : ¬ l < w.M.length := by rw [A.len]; exact hl
      rw [List.getElem?_append_right (by omega)] at h1 h2
      rw [A.len] at h1
      have h0 : l - S.length = 0 := by
        cases hq : l - S.length with
        | zero => rfl
        | succ n => rw [hq] at h2; simp at h2
      rw [h0] at h1 h2
      simp at h1 h2
      subst h1 h2
      exact ⟨o, upd_same, k⟩
/-- a mutable object is written -/
theorem Ex.wr {a : Addr} {o : HO} (hm : a ∈ w.M) (hz : ∀ od u, H a ≠ some (.frz od u)) : Ex w H w (upd H a o) :=
  ⟨⟨[], by simp⟩, rfl, fun b u h n => ⟨by rw [upd_ne (fun z : b = a => n (by rw [z]; exact hm))]; exact h, n⟩, fun b od u h => by rw [upd_ne (fun z : b = a => hz od u (by rw [← z]; exact h))]; exact h⟩
theorem Ab.wr (A : Ab K w H mg S) {l : Nat} {a : Addr} {o : HO} {ob : Ob} (hm : w.M[l]? = some a) (hz : ∀ od u, H a ≠ some (.frz od u)) (k : HoOk K w H mg ob o) : Ab K w (upd H a o) mg (S.set l ob) := by
  have hmem : a ∈ w.M := List.mem_of_getElem? hm
  refine ⟨by simp [A.len], A.nd, A.bm, fun b hb => ?_, fun l' a' ob' h1 h2 => ?_⟩
  · obtain ⟨u, e⟩ := A.bt b hb
    exact ⟨u, by rw [upd_ne (fun z : b = a => A.bm b hb (by rw [z]; exact hmem))]; exact e⟩
  by_cases hl : l' = l
  · subst hl
    rw [hm] at h1; cases h1
    have : l' < S.length := by rw [← A.len]; exact (List.getElem?_eq_some_iff.mp hm).1
    rw [List.getElem?_set_self this] at h2
    cases h2
    exact ⟨o, upd_same, k.mono (Ex.wr hmem hz)⟩
  · rw [List.getElem?_set_ne (Ne.symm hl)] at h2
    obtain ⟨u, e, k'⟩ := A.ob l' a' ob' h1 h2
    have hne : a' ≠ a := fun z => by
      subst z
      obtain ⟨q1, q2⟩ := List.getElem?_eq_some_iff.mp h1
      obtain ⟨q3, q4⟩ := List.getElem?_eq_some_iff.mp hm
      exact hl ((List.getElem_inj A.nd).mp (q2.trans q4.symm))
    exact ⟨u, by rw [upd_ne hne]; exact e, k'.mono (Ex.wr hmem hz)⟩
/-- data that is made at a new place -/
theorem Rep.tupNew {p : Addr} {ds : List D} {vs : List V} (A : Ab K w H mg S) (hp : H p = none) (r : Reps K w H ds vs) : Rep K w (upd H p (.tup vs)) (.tup ds) (.ref p) := by
  simp only [Rep]
  exact ⟨p, vs, rfl, ⟨A.new hp, A.newB hp, upd_same⟩, r.mono (Ex.new hp)⟩
theorem Rep.lstNew {p : Addr} {ds : List D} {vs : List V} (A : Ab K w H mg S) (hp : H p = none) (r : Reps K w H ds vs) : Rep K w (upd H p (.lst vs)) (.lst ds) (.ref p) := by
  simp only [Rep]
  exact ⟨p, vs, rfl, ⟨A.new hp, A.newB hp, upd_same⟩, r.mono (Ex.new hp)⟩
theorem Rep.locNew {p : Addr} {H' : Hp} (A : Ab K w H mg S) : Rep K ⟨w.M ++ [p], w.B⟩ H' (.loc S.length) (.ref p) := by
  simp only [Rep]
  exact ⟨p, by rw [← A.len]; simp, rfl⟩
end
end L3
namespace L3
open PySem PySem.Spec L2

/-! ### what is told of a step's end -/
abbrev XW := Value → Option Addr → L2.St → Hp → Prop
def XRel (K : PySem.W.Frag) (w : Wd) (H : Hp) (fs : List (Str × D)) : Option Addr → Prop
  | none => fs = []
  | some d => fs ≠ [] ∧ ∃ vs, H d = some (.xd vs) ∧ RKv K w H fs vs ∧ d ∉ w.M
def Post {α β : Type} (K : PySem.W.Frag) (mg : Str → Option Value) (R : Wd → Hp → α → β → Prop) (W : XW) (σ : L2.St) (w : Wd) (H : Hp) (r : Res α) (Q : β → Hp → Prop) : Prop :=
  match r with
  | .ok a S' => ∀ w' H' v, Ex w H w' H' → Ab K w' H' mg S' → R w' H' a v → Q v H'
  | .exc c fs S' => ∀ w' H' C od, Ex w H w' H' → Ab K w' H' mg S' → mg c = some (.ref C) → XRel K w' H' fs od → W (.ref C) od σ H'
  | .stuck => False
section
variable {α β γ δ : Type} {K : PySem.W.Frag} {mg : Str → Option Value} {R : Wd → Hp → α → β → Prop} {R' : Wd → Hp → γ → δ → Prop} {W : XW} {σ : L2.St} {w w' : Wd} {H H' : Hp}
theorem Post.ex {r : Res α} {Q : β → Hp → Prop} (h : Post K mg R W σ w H r Q) (e : Ex w H w' H') : Post K mg R W σ w' H' r Q := by
  cases r with
  | ok a S => exact fun w2 H2 v e2 => h w2 H2 v (e.trans e2)
  | exc c fs S => exact fun w2 H2 C od e2 => h w2 H2 C od (e.trans e2)
  | stuck => exact h
theorem Post.bind {r : Res α} {f : α → Store → Res γ} {Q : δ → Hp → Prop} {Q' : β → Hp → Prop} (h : Post K mg R' W σ w H (r.bind f) Q)
    (k : ∀ a S1 w1 H1 v, Ex w H w1 H1 → Ab K w1 H1 mg S1 → R w1 H1 a v → Post K mg R' W σ w1 H1 (f a S1) Q → Q' v H1) : Post K mg R W σ w H r Q' := by
  cases r with
  | ok a S => exact fun w2 H2 v e2 A2 r2 => k a S w2 H2 v e2 A2 r2 (Post.ex h e2)
  | exc c fs S => exact h
  | stuck => exact h
theorem Post.imp {r : Res α} {Q Q' : β → Hp → Prop} (h : Post K mg R W σ w H r Q) (k : ∀ v H', Q v H' → Q' v H') : Post K mg R W σ w H r Q' := by
  cases r with
  | ok a S => exact fun w2 H2 v e2 A2 r2 => k _ _ (h w2 H2 v e2 A2 r2)
  | exc c fs S => exact h
  | stuck => exact h
theorem Post.fin {a : α} {S : Store} {v : β} {Q : β → Hp → Prop} (h : Post K mg R W σ w H (.ok a S) Q) (A : Ab K w H mg S) (r : R w H a v) : Q v H := h w H v (Ex.refl _ _) A r
end
/-- readings by functions -/
def tOf (K : PySem.W.Frag) (mg : Str → Option Value) (W : XW) (m : DSt → Store → Res D) : TE := fun σ H Q => ∃ w dσ S, Ab K w H mg S ∧ RSt K w H dσ σ ∧ Post K mg (Rep K) W σ w H (m dσ S) Q
def RB (w : Wd) (H : Hp) (a b : Bool) : Prop := a = b
def tOfT (K : PySem.W.Frag) (mg : Str → Option Value) (W : XW) (m : DSt → Store → Res Bool) : TT := fun σ H Q => ∃ w dσ S, Ab K w H mg S ∧ RSt K w H dσ σ ∧ Post K mg RB W σ w H (m dσ S) Q
def tOfA (K : PySem.W.Frag) (mg : Str → Option Value) (W : XW) (m : DSt → Store → Res (List D)) : TA := fun σ H Q => ∃ w dσ S, Ab K w H mg S ∧ RSt K w H dσ σ ∧ Post K mg (Reps K) W σ w H (m dσ S) Q
abbrev PM (X : Cx) (W : XW) (e : Expr) (m : DSt → Store → Res D) : Prop := PE X e (tOf X.K X.mg W m)
abbrev PMT (X : Cx) (W : XW) (e : Expr) (m : DSt → Store → Res Bool) : Prop := PT X e (tOfT X.K X.mg W m)
abbrev PMA (X : Cx) (W : XW) (es : List Expr) (m : DSt → Store → Res (List D)) : Prop := PA X es (tOfA X.K X.mg W m)
section
variable {X : Cx} {W : XW}
theorem PE.imp {e : Expr} {t t' : TE} (h : PE X e t) (k : ∀ σ H Q, t' σ H Q → t σ H Q) : PE X e t' := ⟨fun pins s σ H Q I q => h.run pins s σ H Q I (k σ H Q q)⟩
theorem PT.imp {e : Expr} {t t' : TT} (h : PT X e t) (k : ∀ σ H Q, t' σ H Q → t σ H Q) : PT X e t' := ⟨fun pins s σ H Q I q => h.run pins s σ H Q I (k σ H Q q)⟩
theorem PA.imp {e : List Expr} {t t' : TA} (h : PA X e t) (k : ∀ σ H Q, t' σ H Q → t σ H Q) : PA X e t' := ⟨fun pos pins s σ H Q I q => h.run pos pins s σ H Q I (k σ H Q q)⟩
theorem PS.imp {e : Stmt} {t t' : TS} (h : PS X e t) (k : ∀ D σ H, t' D σ H → t D σ H) : PS X e t' := ⟨fun pins s σ H D I q => h.run pins s σ H D I (k D σ H q)⟩
theorem PSs.imp {e : List Stmt} {t t' : TS} (h : PSs X e t) (k : ∀ D σ H, t' D σ H → t D σ H) : PSs X e t' := ⟨fun pins s σ H D I q => h.run pins s σ H D I (k D σ H q)⟩

/-! ### names, constants -/
def mVar (i : Nat) (σ : DSt) (S : Store) : Res D := match σ[i]? with
  | some (some d) => .ok d S
  | _ => .stuck
def mC (d : D) (_ : DSt) (S : Store) : Res D := .ok d S
theorem pm_var (i : Nat) {x : Str} {pos : Pos} (hN : X.N[i]? = some x := by rfl) (hv : Vis X.env.scope x := by first | exact Or.inl rfl | exact Or.inr (Or.inl rfl) | exact Or.inr (Or.inr rfl)) (hd : (x == ("__debug__" : Str)) = false := by decide)
    (hcd : (x == ("__classdict__" : Str)) = false := by decide) : PM X W (.Name x pos) (mVar i) := by
  refine PE.imp (pe_var hN hv hd hcd) fun σ H Q ⟨w, dσ, S, A, R, P⟩ => ?_
  unfold mVar at P
  split at P
  · rename_i d e
    obtain ⟨v, e1, r⟩ := R.2 i d e
    exact ⟨v, e1, P.fin A r⟩
  · exact P.elim
theorem PE.const {e : Expr} {v : V} {d : D} (h : PE X e (tC v)) (r : ∀ w H, Rep X.K w H d v) : PM X W e (mC d) :=
  PE.imp h fun σ H Q ⟨w, dσ, S, A, R, P⟩ => P.fin A (r w H)
theorem pm_int {i j pos} : PM X W (.Constant (.int i) j pos) (mC (.int i)) := PE.const pe_int fun _ _ => by simp only [Rep]
theorem pm_bl {i j pos} : PM X W (.Constant (.bool i) j pos) (mC (.bl i)) := PE.const pe_bl fun _ _ => by simp only [Rep]
/-! ### two values -/
def m2 (ma mb : DSt → Store → Res D) (f : D → D → Store → Res D) (σ : DSt) (S : Store) : Res D := (ma σ S).bind fun a S1 => (mb σ S1).bind fun b S2 => f a b S2
def m1 (ma : DSt → Store → Res D) (f : D → Store → Res D) (σ : DSt) (S : Store) : Res D := (ma σ S).bind fun a S1 => f a S1
/-- a rule for two values, by functions -/
def Op2 (X : Cx) (W : XW) (r : R2) (f : D → D → Store → Res D) : Prop :=
  ∀ w H S d e x y σ Q, Ab X.K w H X.mg S → Rep X.K w H d x → Rep X.K w H e y → Post X.K X.mg (Rep X.K) W σ w H (f d e S) Q → r x y H Q
def OpD (X : Cx) (W : XW) (op : Value → Value → Sem Value) (f : D → D → Store → Res D) : Prop := ∃ r, OpR X op r ∧ Op2 X W r f
theorem tOf_two {ma mb : DSt → Store → Res D} {f : D → D → Store → Res D} {r : R2} (h : Op2 X W r f) {σ : L2.St} {H : Hp} {Q : VK} (q : tOf X.K X.mg W (m2 ma mb f) σ H Q) : tOp r (tOf X.K X.mg W ma) (tOf X.K X.mg W mb) σ H Q := by
  obtain ⟨w, dσ, S, A, R, P⟩ := q
  refine ⟨w, dσ, S, A, R, P.bind fun d S1 w1 H1 x e1 A1 r1 P1 => ⟨w1, dσ, S1, A1, R.mono e1, P1.bind fun e S2 w2 H2 y e2 A2 r2 P2 => ?_⟩⟩
  exact h w2 H2 S2 d e x y σ Q A2 (r1.mono e2) r2 P2
theorem pm_op {a b : Expr} {op : Operator} {pos : Pos} {ma mb : DSt → Store → Res D} {f : D → D → Store → Res D} (ho : OpD X W (binaryOp op) f) (ha : PM X W a ma) (hb : PM X W b mb) : PM X W (.BinOp a op b pos) (m2 ma mb f) :=
  let ⟨_, h1, h2⟩ := ho
  PE.imp (pe_op h1 ha hb) fun _ _ _ => tOf_two h2
/-- a value's test: it is a truth -/
def mT (m : DSt → Store → Res D) (σ : DSt) (S : Store) : Res Bool := (m σ S).bind fun d S1 => match d with
  | .bl b => .ok b S1
  | _ => .stuck
theorem rep_bl {K : PySem.W.Frag} {w : Wd} {H : Hp} {b : Bool} {v : V} (h : Rep K w H (.bl b) v) : v = .bl b := by simpa only [Rep] using h
theorem rep_int {K : PySem.W.Frag} {w : Wd} {H : Hp} {b : Int} {v : V} (h : Rep K w H (.int b) v) : v = .int b := by simpa only [Rep] using h
theorem rep_str {K : PySem.W.Frag} {w : Wd} {H : Hp} {b : Str} {v : V} (h : Rep K w H (.str b) v) : v = .str b := by simpa only [Rep] using h
theorem rep_non {K : PySem.W.Frag} {w : Wd} {H : Hp} {v : V} (h : Rep K w H .non v) : v = .non := by simpa only [Rep] using h
theorem of_bl {K : PySem.W.Frag} {w : Wd} {H : Hp} (b : Bool) : Rep K w H (.bl b) (.bl b) := by simp only [Rep]
theorem of_int {K : PySem.W.Frag} {w : Wd} {H : Hp} (b : Int) : Rep K w H (.int b) (.int b) := by simp only [Rep]
theorem of_str {K : PySem.W.Frag} {w : Wd} {H : Hp} (b : Str) : Rep K w H (.str b) (.str b) := by simp only [Rep]
theorem of_non {K : PySem.W.Frag} {w : Wd} {H : Hp} : Rep K w H .non .non := by simp only [Rep]
theorem tOf_test {m : DSt → Store → Res D} {σ : L2.St} {H : Hp} {Q : Bool → Hp → Prop} (q : tOfT X.K X.mg W (mT m) σ H Q) : tTest (tOf X.K X.mg W m) σ H Q := by
  obtain ⟨w, dσ, S, A, R, P⟩ := q
  refine ⟨w, dσ, S, A, R, P.bind fun d S1 w1 H1 x e1 A1 r1 P1 => ?_⟩
  cases d with
  | bl b => exact ⟨b, rep_bl r1, P1.fin A1 rfl⟩
  | _ => exact P1.elim
/-- a comparison as a test -/
theorem pmt_cmp {a b : Expr} {op : CmpOp} {pos : Pos} {ma mb : DSt → Store → Res D} {f : D → D → Store → Res D} (ho : OpD X W (compareOp op) f) (ha : PM X W a ma) (hb : PM X W b mb) (hm : behindInMarks op b = false) : PMT X W (.Compare a [op] [b] pos) (mT (m2 ma mb f)) := by
  obtain ⟨r, h1, h2⟩ := ho
  refine PT.imp (pt_cmpR h1 ha hb hm) fun σ H Q q => ?_
  obtain ⟨w, dσ, S, A, R, P⟩ := q
  refine tOf_two h2 ⟨w, dσ, S, A, R, P.bind fun d S1 w1 H1 x e1 A1 r1 P1 => ?_⟩
  cases d with
  | bl b => exact ⟨b, rep_bl r1, P1.fin A1 rfl⟩
  | _ => exact P1.elim
def mCh (ma mb mc : DSt → Store → Res D) (f g : D → D → Store → Res D) (σ : DSt) (S : Store) : Res D :=
  (ma σ S).bind fun a S1 => (mb σ S1).bind fun b S2 => (f a b S2).bind fun z S3 => match z with
    | .bl true => (mc σ S3).bind fun c S4 => g b c S4
    | .bl false => .ok (.bl false) S3
    | _ => .stuck
/-! ### tests -/
theorem pmt_val {e : Expr} {m : DSt → Store → Res D} (h : PM X W e m) (he : ∀ whole, isTrue e X.env whole = (do let v ← whole; standAt e.pos; holding [v] (truthy v)) := by intro _; rfl) : PMT X W e (mT m) := PT.imp (pt_val h he) fun σ H Q q => tOf_test q
def mNotT (m : DSt → Store → Res Bool) (σ : DSt) (S : Store) : Res Bool := (m σ S).bind fun b S1 => .ok (!b) S1
theorem pmt_not {e : Expr} {pos : Pos} {m : DSt → Store → Res Bool} (h : PMT X W e m) : PMT X W (.UnaryOp .Not e pos) (mNotT m) :=
  PT.imp (pt_not h) fun σ H Q ⟨w, dσ, S, A, R, P⟩ => ⟨w, dσ, S, A, R, P.bind fun b S1 w1 H1 x e1 A1 r1 P1 => by
    cases (show b = x from r1)
    exact P1.fin A1 rfl⟩
end
end L3
namespace L3
open PySem PySem.Spec L2
instance {i j : Int} : Decidable (CMul i j) := by unfold CMul; infer_instance
instance {i j : Int} : Decidable (CMulW i j) := by unfold CMulW; infer_instance
instance {i j : Int} : Decidable (CDivW i j) := by unfold CDivW; infer_instance

/-! ### what may be read -/
def exL (S : Store) : D → Option (List D)
  | .lst ds => some ds
  | .loc l => match S[l]? with
    | some (.lst ds) => some ds
    | _ => none
  | _ => none
def rdL (S : Store) : D → Option (List D)
  | .frz ds => some ds
  | d => exL S d
section
variable {K : PySem.W.Frag} {mg : Str → Option Value} {w : Wd} {H : Hp} {S : Store}
theorem exL_rep {d : D} {ds : List D} {v : V} (A : Ab K w H mg S) (h : exL S d = some ds) (r : Rep K w H d v) : ∃ a vs, v = .ref a ∧ H a = some (.lst vs) ∧ Reps K w H ds vs := by
  cases d with
  | lst xs =>
    simp only [exL, Option.some.injEq] at h
    subst h
    simp only [Rep] at r
    obtain ⟨a, vs, e, f, r⟩ := r
    exact ⟨a, vs, e, f.2.2, r⟩
  | loc l =>
    simp only [exL] at h
    simp only [Rep] at r
    obtain ⟨a, e, rfl⟩ := r
    split at h
    · rename_i xs q
      cases h
      obtain ⟨u, e1, vs, e2, k⟩ := A.ob l a _ e q
      subst e2
      exact ⟨a, vs, rfl, e1, k⟩
    · cases h
  | _ => simp [exL] at h
theorem rdL_rep {d : D} {ds : List D} {v : V} (A : Ab K w H mg S) (h : rdL S d = some ds) (r : Rep K w H d v) : ∃ a vs, v = .ref a ∧ SqL K H a vs ∧ Reps K w H ds vs := by
  cases d with
  | frz xs =>
    simp only [rdL, Option.some.injEq] at h
    subst h
    simp only [Rep] at r
    obtain ⟨a, vs, e, f, r⟩ := r
    exact ⟨a, vs, e, f.sq, r⟩
  | _ =>
    obtain ⟨a, vs, e, f, r⟩ := exL_rep A (by simpa only [rdL] using h) r
    exact ⟨a, vs, e, .of f, r⟩
theorem tup_rep {ds : List D} {v : V} (r : Rep K w H (.tup ds) v) : ∃ a vs, v = .ref a ∧ H a = some (.tup vs) ∧ Reps K w H ds vs := by
  simp only [Rep] at r
  obtain ⟨a, vs, e, f, r⟩ := r
  exact ⟨a, vs, e, f.2.2, r⟩
def rdT : D → Option (List D)
  | .tup ds => some ds
  | .ktp ds => some ds
  | _ => none
theorem rdT_rep {d : D} {ds : List D} {v : V} (h : rdT d = some ds) (r : Rep K w H d v) : ∃ a vs, v = .ref a ∧ SqT K H a vs ∧ Reps K w H ds vs := by
  cases d with
  | tup xs =>
    simp only [rdT, Option.some.injEq] at h
    subst h
    obtain ⟨a, vs, e, f, r⟩ := tup_rep r
    exact ⟨a, vs, e, .of f, r⟩
  | ktp xs =>
    simp only [rdT, Option.some.injEq] at h
    subst h
    simp only [Rep] at r
    obtain ⟨a, vs, e, f, r⟩ := r
    exact ⟨a, vs, e, kp_sq f, r⟩
  | _ => simp [rdT] at h
end

/-! ### arithmetic -/
section
variable {X : Cx} {W : XW}
def addD (d e : D) (S : Store) : Res D := match d, e with
  | .int i, .int j => .ok (.int (i + j)) S
  | .str i, .str j => if i.length + j.length ≤ sizeLine then .ok (.str (i ++ j)) S else .stuck
  | .tup a, .tup b => if a.length + b.length ≤ sizeLine then .ok (.tup (a ++ b)) S else .stuck
  | d, e => match exL S d, exL S e with
    | some a, some b => if a.length + b.length ≤ sizeLine then .ok (.lst (a ++ b)) S else .stuck
    | _, _ => .stuck
theorem od_add : OpD X W (binaryOp .Add) addD := by
  refine ⟨_, op_add.or (op_add_str.or (op_catA.or op_cat)), fun w H S d e x y σ Q A rd re P => ?_⟩
  unfold addD at P
  split at P
  · exact .inl ⟨_, _, rep_int rd, rep_int re, P.fin A (of_int _)⟩
  · split at P
    · rename_i hz
      exact .inr (.inl ⟨_, _, rep_str rd, rep_str re, hz, P.fin A (of_str _)⟩)
    · exact P.elim
  · split at P
    · rename_i ds es hz
      refine .inr (.inr (.inl ?_))
      have rd0 := rd
      have re0 := re
      simp only [Rep] at rd re
      obtain ⟨a, vs, rfl, f, r⟩ := rd
      obtain ⟨b, us, rfl, g, r'⟩ := re
      refine ⟨a, b, vs, us, rfl, rfl, f.sq, g.sq, by rw [← r.length, ← r'.length]; exact hz, fun z => ?_, fun _ z => ?_, fun _ _ p hp => ?_⟩
      · subst z
        have : ds = [] := by have := r.length; simpa using this
        subst this
        exact P.fin A re0
      · subst z
        have : es = [] := by have := r'.length; simpa using this
        subst this
        rw [List.append_nil] at P
        exact P.fin A rd0
      · exact P w _ _ (Ex.new hp) (A.newF hp) (Rep.tupNew A hp (r.append r'))
    · exact P.elim
  · split at P
    · rename_i a b ha hb
      split at P
      · rename_i hz
        obtain ⟨l, vs, rfl, f, r⟩ := exL_rep A ha rd
        obtain ⟨l', us, rfl, g, r'⟩ := exL_rep A hb re
        exact .inr (.inr (.inr ⟨l, l', vs, us, rfl, rfl, f, g, by rw [← r.length, ← r'.length]; exact hz, fun p hp => P w _ _ (Ex.new hp) (A.newF hp) (Rep.lstNew A hp (r.append r'))⟩))
      · exact P.elim
    · exact P.elim
def subD (d e : D) (S : Store) : Res D := match d, e with
  | .int i, .int j => .ok (.int (i - j)) S
  | _, _ => .stuck
theorem od_sub : OpD X W (binaryOp .Sub) subD := by
  refine ⟨_, op_sub, fun w H S d e x y σ Q A rd re P => ?_⟩
  unfold subD at P
  split at P
  · exact ⟨_, _, rep_int rd, rep_int re, P.fin A (of_int _)⟩
  · exact P.elim
/-- a text times an int: see HandS.. -/
def mulD (d e : D) (S : Store) : Res D := match d, e with
  | .int i, .int j => if CMul i j ∨ CMulW i j then .ok (.int (i * j)) S else .stuck
  | d, .int k => match exL S d with
    | some a => if -(2 ^ 63) ≤ k ∧ k < 2 ^ 63 ∧ a.length * k.toNat ≤ sizeLine then .ok (.lst (List.replicate k.toNat a).flatten) S else .stuck
    | none => .stuck
  | _, _ => .stuck
def fdivD (d e : D) (S : Store) : Res D := match d, e with
  | .int i, .int j => if CDivW i j then .ok (.int (i / j)) S else .stuck
  | _, _ => .stuck
def modD (d e : D) (S : Store) : Res D := match d, e with
  | .int i, .int j => if 0 < j then .ok (.int (i % j)) S else .stuck
  | _, _ => .stuck
theorem od_mod : OpD X W (binaryOp .Mod) modD := by
  refine ⟨_, op_mod, fun w H S d e x y σ Q A rd re P => ?_⟩
  unfold modD at P
  split at P
  · split at P
    · rename_i hz
      exact ⟨_, _, rep_int rd, rep_int re, hz, P.fin A (of_int _)⟩
    · exact P.elim
  · exact P.elim
def CPowX (i j : Int) : Prop := 0 ≤ j ∧ (Builtin.Int.intBits i : Int) * j ≤ 2 ^ 27
instance {i j : Int} : Decidable (CPowX i j) := by unfold CPowX; infer_instance
theorem op_powX : OpR X (binaryOp .Pow) (rI CPowX fun i j => .int (i ^ j.toNat)) := opI fun _ _ _ _ _ _ _ hc q => PyProof.Rows.pow_int hc.1 hc.2 q
def powD (d e : D) (S : Store) : Res D := match d, e with
  | .int i, .int j => if CPowX i j then .ok (.int (i ^ j.toNat)) S else .stuck
  | _, _ => .stuck
theorem od_pow : OpD X W (binaryOp .Pow) powD := by
  refine ⟨_, op_powX, fun w H S d e x y σ Q A rd re P => ?_⟩
  unfold powD at P
  split at P
  · split at P
    · rename_i hz
      exact ⟨_, _, rep_int rd, rep_int re, hz, P.fin A (of_int _)⟩
    · exact P.elim
  · exact P.elim

/-! ### order -/
/-- the ints of a tuple -/
def intsOf : List D → Option (List Int)
  | [] => some []
  | .int i :: r => (intsOf r).map (i :: ·)
  | _ => none
def ltD (d e : D) (S : Store) : Res D := match d, e with
  | .int i, .int j => .ok (.bl (decide (i < j))) S
  | .str i, .str j => .ok (.bl (decide (i.cps.toList < j.cps.toList))) S
  | .tup a, .tup b => match intsOf a, intsOf b with
    | some ns, some ms => .ok (.bl (HT.lexLt ns ms)) S
    | _, _ => .stuck
  | _, _ => .stuck
def cmpI (p : Int → Int → Bool) (d e : D) (S : Store) : Res D := match d, e with
  | .int i, .int j => .ok (.bl (p i j)) S
  | _, _ => .stuck
/-! ### equality of data -/
mutual
def toPy : D → Option PyData
  | .non => some .none
  | .bl b => some (.bool b)
  | .int i => some (.int i)
  | .str x => some (.str x)
  | .tup ds => (toPys ds).map .tuple
  | .lst ds => (toPys ds).map .list
  | .frz ds => (toPys ds).map .list
  | .ktp ds => (toPys ds).map .tuple
  | .loc _ => none
  | .exn _ => none
  | .exf _ _ _ _ => none
  | .exk _ _ => none
def toPys : List D → Option (List PyData)
  | [] => some []
  | d :: ds => match toPy d, toPys ds with
    | some p, some ps => some (p :: ps)
    | _, _ => none
end
section
variable {K : PySem.W.Frag} {mg : Str → Option Value} {w : Wd} {H : Hp} {S : Store}
mutual
theorem toPy_rep : ∀ {d : D} {p : PyData} {v : V}, toPy d = some p → Rep K w H d v → Dp K H v p
  | .non, p, v, h, r => by
    simp only [toPy, Option.some.injEq] at h; subst h; rw [rep_non r]; exact .non
  | .bl b, p, v, h, r => by
    simp only [toPy, Option.some.injEq] at h; subst h; rw [rep_bl r]; exact .bl b
  | .int b, p, v, h, r => by
    simp only [toPy, Option.some.injEq] at h; subst h; rw [rep_int r]; exact .int b
  | .str b, p, v, h, r => by
    simp only [toPy, Option.some.injEq] at h; subst h; rw [rep_str r]; exact .str b
  | .tup ds, p, v, h, r => by
    simp only [toPy, Option.map_eq_some_iff] at h
    obtain ⟨ps, h1, rfl⟩ := h
    simp only [Rep] at r
    obtain ⟨a, vs, rfl, f, r⟩ := r
    exact .tup f.sq (toPys_rep h1 r)
  | .lst ds, p, v, h, r => by
    simp only [toPy, Option.map_eq_some_iff] at h
    obtain ⟨ps, h1, rfl⟩ := h
    simp only [Rep] at r
    obtain ⟨a, vs, rfl, f, r⟩ := r
    exact .lst f.sq (toPys_rep h1 r)
  | .frz ds, p, v, h, r => by
    simp only [toPy, Option.map_eq_some_iff] at h
    obtain ⟨ps, h1, rfl⟩ := h
    simp only [Rep] at r
    obtain ⟨a, vs, rfl, f, r⟩ := r
    exact .lst f.sq (toPys_rep h1 r)
  | .ktp ds, p, v, h, r => by
    simp only [toPy, Option.map_eq_some_iff] at h
    obtain ⟨ps, h1, rfl⟩ := h
    simp only [Rep] at r
    obtain ⟨a, vs, rfl, f, r⟩ := r
    exact .tup (kp_sq f) (toPys_rep h1 r)
  | .loc l, p, v, h, r => by simp [toPy] at h
  | .exn _, p, v, h, r => by simp [toPy] at h
  | .exf _ _ _ _, p, v, h, r => by simp [toPy] at h
  | .exk _ _, p, v, h, r => by simp [toPy] at h
theorem toPys_rep : ∀ {ds : List D} {ps : List PyData} {vs : List V}, toPys ds = some ps → Reps K w H ds vs → DpAll K H vs ps
  | [], ps, vs, h, r => by
    simp only [toPys, Option.some.injEq] at h
    simp only [Reps] at r
    subst h r
    exact .nil
  | d :: ds, ps, vs, h, r => by
    simp only [toPys] at h
    split at h
    · rename_i p qs h1 h2
      cases h
      simp only [Reps] at r
      obtain ⟨v, us, rfl, e, r⟩ := r
      exact .cons (toPy_rep h1 e) (toPys_rep h2 r)
    · cases h
end
end
/-- a value as data; of mutable objects the lists alone -/
def pyS (S : Store) : D → Option PyData
  | .loc l => match S[l]? with
    | some (.lst ds) => (toPys ds).map .list
    | _ => none
  | d => toPy d
theorem pyS_rep {K : PySem.W.Frag} {mg : Str → Option Value} {w : Wd} {H : Hp} {S : Store} (A : Ab K w H mg S) {d : D} {p : PyData} {v : V} (h : pyS S d = some p) (r : Rep K w H d v) : Dp K H v p := by
  cases d with
  | loc l =>
    simp only [pyS] at h
    split at h
    · rename_i ds q
      simp only [Option.map_eq_some_iff] at h
      obtain ⟨ps, h1, rfl⟩ := h
      obtain ⟨a, vs, rfl, f, r'⟩ := exL_rep (ds := ds) A (by simp only [exL, q]) r
      exact .lst (.of f) (toPys_rep h1 r')
    · cases h
  | _ => exact toPy_rep (by simpa only [pyS] using h) r
def eqD (neg : Bool) (d e : D) (S : Store) : Res D := match pyS S d, pyS S e with
  | some p, some q => if SeqAt.shaped p = true ∧ SeqAt.shaped q = true then .ok (.bl (xor neg (PyData.eqv p q))) S else .stuck
  | _, _ => .stuck
theorem od_ne (hu : X.A.units + 64 < cLine) : OpD X W (compareOp .NotEq) (eqD true) := by
  refine ⟨_, op_neD hu, fun w H S d e x y σ Q A rd re P => ?_⟩
  unfold eqD at P
  split at P
  · rename_i p q h1 h2
    split at P
    · rename_i hs
      refine ⟨p, q, pyS_rep A h1 rd, pyS_rep A h2 re, hs.1, hs.2, ?_⟩
      rw [Bool.true_xor] at P
      exact P.fin A (of_bl _)
    · exact P.elim
  · exact P.elim
def isND (neg : Bool) (d e : D) (S : Store) : Res D := match d, e with
  | .non, .non => .ok (.bl (!neg)) S
  | _, .non => .ok (.bl neg) S
  | _, _ => .stuck
end
end L3
namespace L3
open PySem PySem.Spec L2

section
variable {K : PySem.W.Frag} {mg : Str → Option Value} {w : Wd} {H : Hp} {S : Store}
theorem Reps.take : ∀ {ds : List D} {vs : List V} (n : Nat), Reps K w H ds vs → Reps K w H (ds.take n) (vs.take n)
  | _, _, 0, _ => by simpa using Reps.nil
  | [], _, n + 1, h => by simp only [Reps] at h; subst h; simpa using Reps.nil
  | d :: ds, _, n + 1, h => by
    simp only [Reps] at h
    obtain ⟨v, r, rfl, h1, h2⟩ := h
    exact .cons h1 (Reps.take n h2)
theorem Reps.drop : ∀ {ds : List D} {vs : List V} (n : Nat), Reps K w H ds vs → Reps K w H (ds.drop n) (vs.drop n)
  | _, _, 0, h => by simpa using h
  | [], _, n + 1, h => by simp only [Reps] at h; subst h; simpa using Reps.nil
  | d :: ds, _, n + 1, h => by
    simp only [Reps] at h
    obtain ⟨v, r, rfl, h1, h2⟩ := h
    exact Reps.drop n h2
theorem Reps.set {d : D} {v : V} (r : Rep K w H d v) : ∀ {ds : List D} {vs : List V} (n : Nat), Reps K w H ds vs → Reps K w H (ds.set n d) (vs.set n v)
  | [], _, n, h => by simp only [Reps] at h; subst h; simpa using Reps.nil
  | d :: ds, _, 0, h => by
    simp only [Reps] at h
    obtain ⟨v, us, rfl, h1, h2⟩ := h
    exact .cons r h2
  | d :: ds, _, n + 1, h => by
    simp only [Reps] at h
    obtain ⟨v, us, rfl, h1, h2⟩ := h
    exact .cons h1 (Reps.set r n h2)
theorem Reps.reverse : ∀ {ds : List D} {vs : List V}, Reps K w H ds vs → Reps K w H ds.reverse vs.reverse
  | [], _, h => by simp only [Reps] at h; subst h; simpa using Reps.nil
  | d :: ds, _, h => by
    simp only [Reps] at h
    obtain ⟨v, us, rfl, h1, h2⟩ := h
    rw [List.reverse_cons, List.reverse_cons]
    exact (Reps.reverse h2).append (.cons h1 .nil)
theorem Reps.eraseIdx : ∀ {ds : List D} {vs : List V} (n : Nat), Reps K w H ds vs → Reps K w H (ds.eraseIdx n) (vs.eraseIdx n)
  | [], _, n, h => by simp only [Reps] at h; subst h; simpa using Reps.nil
  | d :: ds, _, 0, h => by
    simp only [Reps] at h
    obtain ⟨v, us, rfl, h1, h2⟩ := h
    simpa using h2
  | d :: ds, _, n + 1, h => by
    simp only [Reps] at h
    obtain ⟨v, us, rfl, h1, h2⟩ := h
    simpa using Reps.cons h1 (Reps.eraseIdx n h2)
theorem Reps.dropLast {ds : List D} {vs : List V} (h : Reps K w H ds vs) : Reps K w H ds.dropLast vs.dropLast := by
  rw [List.dropLast_eq_take, List.dropLast_eq_take, h.length]
  exact h.take _
theorem Reps.at {ds : List D} {vs : List V} {i : Int} {d : D} (h : Reps K w H ds vs) (e : atI ds i = some d) : ∃ v, atI vs i = some v ∧ Rep K w H d v := by
  unfold atI at e ⊢
  rw [h.length] at e
  cases q : ixN vs.length i with
  | none => rw [q] at e; cases e
  | some j =>
    rw [q] at e
    exact h.get (i := j) e
end

/-! ### dicts -/
def keyOf : D → Option Key
  | .int i => some (.inl i)
  | .str x => some (.inr x)
  | _ => none
def keysOf : List D → Option (List Key)
  | [] => some []
  | d :: r => match keyOf d, keysOf r with
    | some k, some ks => some (k :: ks)
    | _, _ => none
def obK : Ob → Option (List (Key × D))
  | .dK kvs => some kvs
  | .lck (.dK kvs) => some kvs
  | _ => none
def obT : Ob → Option (List (List Key × D))
  | .dT kvs => some kvs
  | .lck (.dT kvs) => some kvs
  | _ => none
def lookK {κ : Type} [DecidableEq κ] (kvs : List (κ × D)) (k : κ) : Option D := (kvs.find? fun kv => decide (kv.1 = k)).map (·.2)
def dlook (S : Store) (d k : D) : Option (Option D) := match d with
  | .loc l => match S[l]? with
    | some o => match obK o, keyOf k with
      | some kvs, some key => some (lookK kvs key)
      | _, _ => match obT o, k with
        | some kvs, .tup ks => match keysOf ks with
          | some key => some (lookK kvs key)
          | none => none
        | _, _ => none
    | none => none
  | _ => none
section
variable {K : PySem.W.Frag} {mg : Str → Option Value} {w : Wd} {H : Hp} {S : Store}
theorem keyOf_rep {d : D} {k : Key} {v : V} (h : keyOf d = some k) (r : Rep K w H d v) : v = kV k := by
  cases d <;> simp only [keyOf, Option.some.injEq, reduceCtorEq] at h
  · subst h; exact rep_int r
  · subst h; exact rep_str r
theorem keysOf_rep : ∀ {ds : List D} {ks : List Key} {vs : List V}, keysOf ds = some ks → Reps K w H ds vs → vs = ks.map kV
  | [], ks, vs, h, r => by
    simp only [keysOf, Option.some.injEq] at h
    simp only [Reps] at r
    subst h r
    rfl
  | d :: ds, ks, vs, h, r => by
    simp only [keysOf] at h
    split at h
    · rename_i k ks' h1 h2
      cases h
      simp only [Reps] at r
      obtain ⟨v, us, rfl, e, r⟩ := r
      rw [keyOf_rep h1 e, keysOf_rep h2 r]
      rfl
    · cases h
theorem RKv.look {κ : Type} [DecidableEq κ] (k : κ) : ∀ {kvs : List (κ × D)} {vs : List (κ × V)}, RKv K w H kvs vs → RepO K w H (lookK kvs k) (valV vs k) ∧ (lookK kvs k = none → valV vs k = none)
  | [], _, h => by
    simp only [RKv] at h; subst h
    exact ⟨trivial, fun _ => rfl⟩
  | (j, d) :: kvs, _, h => by
    obtain ⟨v, r, rfl, h1, h2⟩ := h
    unfold lookK
    by_cases e : j = k
    · rw [valV_pos (p := (j, v)) e, List.find?_cons_of_pos (by simp [e])]
      exact ⟨h1, fun z => by cases z⟩
    · rw [valV_neg (p := (j, v)) e, List.find?_cons_of_neg (by simp [e])]
      exact RKv.look k h2
theorem RKv.length {κ : Type} : ∀ {kvs : List (κ × D)} {vs : List (κ × V)}, RKv K w H kvs vs → kvs.length = vs.length
  | [], _, h => by simp only [RKv] at h; subst h; rfl
  | (j, d) :: kvs, _, h => by
    obtain ⟨v, r, rfl, h1, h2⟩ := h
    simp [RKv.length h2]
theorem obK_rep {o : Ob} {u : HO} {kvs : List (Key × D)} (h : obK o = some kvs) (k : HoOk K w H mg o u) {a : Addr} (e : H a = some u) : ∃ vs, Rd H a (.dK vs) ∧ RKv K w H kvs vs := by
  unfold obK at h
  split at h
  · cases h
    obtain ⟨vs, rfl, r⟩ := k
    exact ⟨vs, .inl e, r⟩
  · cases h
    obtain ⟨od, u', rfl, k⟩ := k
    obtain ⟨vs, rfl, r⟩ := k
    exact ⟨vs, .inr ⟨od, e⟩, r⟩
  · cases h
theorem obT_rep {o : Ob} {u : HO} {kvs : List (List Key × D)} (h : obT o = some kvs) (k : HoOk K w H mg o u) {a : Addr} (e : H a = some u) : ∃ vs, Rd H a (.dT vs) ∧ RKv K w H kvs vs := by
  unfold obT at h
  split at h
  · cases h
    obtain ⟨vs, rfl, r⟩ := k
    exact ⟨vs, .inl e, r⟩
  · cases h
    obtain ⟨od, u', rfl, k⟩ := k
    obtain ⟨vs, rfl, r⟩ := k
    exact ⟨vs, .inr ⟨od, e⟩, r⟩
  · cases h
theorem dlook_rep {d k : D} {o : Option D} {x y : V} (A : Ab K w H mg S) (h : dlook S d k = some o) (rd : Rep K w H d x) (rk : Rep K w H k y) :
    ∃ a r, x = .ref a ∧ DGet H a y r ∧ RepO K w H o r ∧ (o = none → r = none) := by
  unfold dlook at h
  split at h
  · rename_i l
    simp only [Rep] at rd
    obtain ⟨a, el, rfl⟩ := rd
    split at h
    · rename_i ob q
      obtain ⟨u, eu, ko⟩ := A.ob l a ob el q
      split at h
      · rename_i kvs key h1 h2
        cases h
        obtain ⟨vs, hr, r⟩ := obK_rep h1 ko eu
        have := r.look key
        exact ⟨a, _, rfl, .inl ⟨vs, key, hr, keyOf_rep h2 rk, rfl⟩, this.1, this.2⟩
      · split at h
        · rename_i kvs ks h1 hno
          split at h
          · rename_i key h2
            cases h
            obtain ⟨vs, hr, r⟩ := obT_rep h1 ko eu
            obtain ⟨b, us, rfl, f, r'⟩ := tup_rep rk
            have := r.look key
            have e2 := keysOf_rep h2 r'
            subst e2
            exact ⟨a, _, rfl, .inr ⟨vs, key, b, hr, rfl, f, rfl⟩, this.1, this.2⟩
          · cases h
        · cases h
    · cases h
  · cases h
end

/-! ### subscripts -/
section
variable {X : Cx} {W : XW}
def rIxDct : R2 := fun x y H Q => ∃ a v, x = .ref a ∧ DGet H a y (some v) ∧ Q v H
theorem ix_dict (hu : X.A.units + 1 < cLine) : IxR X rIxDct := by
  intro value slice pins s σ H x y v u Q I rx ry h hs
  obtain ⟨a, z, rfl, g, q⟩ := h
  cases rx
  exact PyProof.Rows.tail_any (dict_typeIs I g) PySem.F.slot_dict_getitem.lookup (d_getItem hu I g ry fun w' s' I' r' => ⟨z, H, I', r', q⟩) hs
def seqOf (S : Store) (d : D) : Option (List D) := match rdL S d with
  | some ds => some ds
  | none => rdT d
def ixD (d i : D) (S : Store) : Res D := match d, i with
  | .str z, .int n => if z.length ≤ sizeLine then (match atI z.cps.toList n with
    | some c => .ok (.str ⟨#[c]⟩) S
    | none => .stuck) else .stuck
  | d, i => match seqOf S d with
    | some ds => match i with
      | .int n => match atI ds n with
        | some e => .ok e S
        | none => .stuck
      | _ => .stuck
    | none => match dlook S d i with
      | some (some e) => .ok e S
      | _ => .stuck
theorem od_ix (hu : X.A.units + 1 < cLine) : ∃ r, IxR X r ∧ Op2 X W r ixD := by
  refine ⟨_, ix_list.or (ix_tup.or (ix_str.or (ix_dict hu))), fun w H S d e x y σ Q A rd re P => ?_⟩
  unfold ixD at P
  split at P
  · split at P
    · rename_i hz
      split at P
      · rename_i c hc
        exact .inr (.inr (.inl ⟨_, _, c, rep_str rd, rep_int re, hz, hc, P.fin A (of_str _)⟩))
      · exact P.elim
    · exact P.elim
  · split at P
    · rename_i ds hd
      split at P
      · split at P
        · rename_i n d' hn
          unfold seqOf at hd
          split at hd
          · rename_i xs hx
            cases hd
            obtain ⟨a, vs, rfl, f, r⟩ := rdL_rep A hx rd
            obtain ⟨v, hv, rv⟩ := r.at hn
            exact .inl ⟨a, vs, _, v, rfl, rep_int re, f, hv, P.fin A rv⟩
          · obtain ⟨a, vs, rfl, f, r⟩ := rdT_rep hd rd
            obtain ⟨v, hv, rv⟩ := r.at hn
            exact .inr (.inl ⟨a, vs, _, v, rfl, rep_int re, f, hv, P.fin A rv⟩)
        · exact P.elim
      · exact P.elim
    · split at P
      · rename_i hl
        obtain ⟨a, r, rfl, g, ro, _⟩ := dlook_rep A hl rd re
        cases r with
        | none => exact ro.elim
        | some v => exact .inr (.inr (.inr ⟨a, v, rfl, g, P.fin A ro⟩))
      · exact P.elim
theorem pm_ix {a b : Expr} {pos : Pos} {ma mb : DSt → Store → Res D} (hu : X.A.units + 1 < cLine) (ha : PM X W a ma) (hb : PM X W b mb) (hs : PlainIx b) : PM X W (.Subscript a b pos) (m2 ma mb ixD) :=
  let ⟨_, h1, h2⟩ := od_ix hu
  PE.imp (pe_ix h1 ha hb hs) fun _ _ _ => tOf_two h2
def mNoPart (_ : DSt) (S : Store) : Res (Option Int) := .ok none S
def mPart (m : DSt → Store → Res D) (σ : DSt) (S : Store) : Res (Option Int) := (m σ S).bind fun d S1 => match d with
  | .int i => .ok (some i) S1
  | _ => .stuck
theorem PO.imp {e : Option Expr} {t t' : TO} (h : PO X e t) (k : ∀ σ H Q, t' σ H Q → t σ H Q) : PO X e t' := ⟨fun pins s σ H Q I q => h.run pins s σ H Q I (k σ H Q q)⟩
def cut {α : Type} (xs : List α) (lo hi : Option Int) : List α := (xs.drop (HT.sIx xs.length 0 lo)).take (HT.sIx xs.length xs.length hi - HT.sIx xs.length 0 lo)
theorem Reps.cut {K : PySem.W.Frag} {w : Wd} {H : Hp} {ds : List D} {vs : List V} (h : Reps K w H ds vs) (lo hi : Option Int) : Reps K w H (L3.cut ds lo hi) (cutV vs lo hi) := by
  unfold L3.cut cutV
  rw [h.length]
  exact (h.drop _).take _
def sliceD (d : D) (lo hi : Option Int) (S : Store) : Res D := match d with
  | .str z => if z.length ≤ sizeLine then .ok (.str (cutS z lo hi)) S else .stuck
  | .tup ds => .ok (.tup (L3.cut ds lo hi)) S
  | .ktp ds => if HT.sIx ds.length 0 lo = 0 ∧ HT.sIx ds.length ds.length hi = ds.length then .ok (.ktp ds) S else .ok (.tup (L3.cut ds lo hi)) S
  | d => match rdL S d with
    | some ds => .ok (.lst (L3.cut ds lo hi)) S
    | none => .stuck
def mSl (m : DSt → Store → Res D) (ml mh : DSt → Store → Res (Option Int)) (σ : DSt) (S : Store) : Res D :=
  (m σ S).bind fun d S1 => (ml σ S1).bind fun lo S2 => (mh σ S2).bind fun hi S3 => sliceD d lo hi S3
end
end L3
namespace L3
open PySem PySem.Spec L2

/-! ### argument lists, displays, and, or -/
section
variable {X : Cx} {W : XW}
def mNil (_ : DSt) (S : Store) : Res (List D) := .ok [] S
def mCons (m : DSt → Store → Res D) (ms : DSt → Store → Res (List D)) (σ : DSt) (S : Store) : Res (List D) := (m σ S).bind fun d S1 => (ms σ S1).bind fun ds S2 => .ok (d :: ds) S2
theorem pma_nil : PMA X W [] mNil := PA.imp pa_nil fun σ H Q ⟨w, dσ, S, A, R, P⟩ => P.fin A .nil
theorem pma_cons {e : Expr} {es : List Expr} {m : DSt → Store → Res D} {ms : DSt → Store → Res (List D)} (ha : PM X W e m) (hr : PMA X W es ms) (hs : starEach (e :: es) X.env = (false, eval e X.env) :: starEach es X.env := by rfl) : PMA X W (e :: es) (mCons m ms) :=
  PA.imp (pa_cons ha hr hs) fun σ H Q ⟨w, dσ, S, A, R, P⟩ => ⟨w, dσ, S, A, R, P.bind fun d S1 w1 H1 x e1 A1 r1 P1 => ⟨w1, dσ, S1, A1, R.mono e1, P1.bind fun ds S2 w2 H2 xs e2 A2 r2 P2 => P2.fin A2 (.cons (r1.mono e2) r2)⟩⟩
def mTup (ms : DSt → Store → Res (List D)) (σ : DSt) (S : Store) : Res D := (ms σ S).bind fun ds S1 => if ds.length ≤ sizeLine then .ok (.tup ds) S1 else .stuck
def mLst (ms : DSt → Store → Res (List D)) (σ : DSt) (S : Store) : Res D := (ms σ S).bind fun ds S1 => if ds.length ≤ sizeLine then .ok (.lst ds) S1 else .stuck
/-- a list that will be changed -/
def mLstM (ms : DSt → Store → Res (List D)) (σ : DSt) (S : Store) : Res D := (ms σ S).bind fun ds S1 => if ds.length ≤ sizeLine then .ok (.loc S1.length) (S1 ++ [.lst ds]) else .stuck
theorem pm_lst {es : List Expr} {pos : Pos} {ms : DSt → Store → Res (List D)} (h : PMA X W es ms) : PM X W (.List es pos) (mLst ms) :=
  PE.imp (pe_lst h) fun σ H Q ⟨w, dσ, S, A, R, P⟩ => ⟨w, dσ, S, A, R, P.bind fun ds S1 w1 H1 xs e1 A1 r1 P1 => by
    split at P1
    · rename_i hz
      exact ⟨by rw [← r1.length]; exact hz, fun p hp => P1 w1 _ _ (Ex.new hp) (A1.newF hp) (Rep.lstNew A1 hp r1)⟩
    · exact P1.elim⟩
theorem newLst {K : PySem.W.Frag} {mg : Str → Option Value} {w : Wd} {H : Hp} {S : Store} {p : Addr} {ds : List D} {vs : List V} (A : Ab K w H mg S) (hp : H p = none) (r : Reps K w H ds vs) :
    Ab K ⟨w.M ++ [p], w.B⟩ (upd H p (.lst vs)) mg (S ++ [.lst ds]) := A.newM hp ⟨vs, rfl, r.mono (Ex.newM hp)⟩
def mAndT (a b : DSt → Store → Res Bool) (σ : DSt) (S : Store) : Res Bool := (a σ S).bind fun x S1 => if x = true then b σ S1 else .ok false S1
def mOrT (a b : DSt → Store → Res Bool) (σ : DSt) (S : Store) : Res Bool := (a σ S).bind fun x S1 => if x = true then .ok true S1 else b σ S1
abbrev PMW (X : Cx) (W : XW) (e : Expr) (m : DSt → Store → Res Bool) : Prop := PW X e (tOfT X.K X.mg W m)
theorem PW.imp {e : Expr} {t t' : TT} (h : PW X e t) (k : ∀ σ H Q, t' σ H Q → t σ H Q) : PW X e t' := ⟨fun wh pins s σ H Q I q => h.run wh pins s σ H Q I (k σ H Q q)⟩
theorem pmw_or1 {a : Expr} {pos : Pos} {m : DSt → Store → Res Bool} (h : PMT X W a m) : PMW X W (.BoolOp .Or [a] pos) m := pw_or1 h
theorem pmw_or {a b : Expr} {rest : List Expr} {pos : Pos} {m n : DSt → Store → Res Bool} (h : PMT X W a m) (h2 : PMW X W (.BoolOp .Or (b :: rest) pos) n) : PMW X W (.BoolOp .Or (a :: b :: rest) pos) (mOrT m n) :=
  PW.imp (pw_or h h2) fun σ H Q ⟨w, dσ, S, A, R, P⟩ => ⟨w, dσ, S, A, R, P.bind fun d S1 w1 H1 x e1 A1 r1 P1 => by
    cases (show d = x from r1)
    split at P1
    · rename_i hd
      rw [if_pos hd]
      exact P1.fin A1 rfl
    · rename_i hd
      rw [if_neg hd]
      exact ⟨w1, dσ, S1, A1, R.mono e1, P1⟩⟩
theorem PMW.pt {e : Expr} {m : DSt → Store → Res Bool} (h : PMW X W e m) : PMT X W e m := L2.PW.pt h
/-- and, or, not of truths, as values -/
def mAndV (a b : DSt → Store → Res D) (σ : DSt) (S : Store) : Res D := (a σ S).bind fun x S1 => match x with
  | .bl true => b σ S1
  | .bl false => .ok (.bl false) S1
  | _ => .stuck
def mOrV (a b : DSt → Store → Res D) (σ : DSt) (S : Store) : Res D := (a σ S).bind fun x S1 => match x with
  | .bl true => .ok (.bl true) S1
  | .bl false => b σ S1
  | _ => .stuck
def mNotV (a : DSt → Store → Res D) (σ : DSt) (S : Store) : Res D := (a σ S).bind fun x S1 => match x with
  | .bl k => .ok (.bl (!k)) S1
  | _ => .stuck
def mIf (c : DSt → Store → Res Bool) (a b : DSt → Store → Res D) (σ : DSt) (S : Store) : Res D := (c σ S).bind fun x S1 => if x = true then a σ S1 else b σ S1
def mNeg (m : DSt → Store → Res D) (σ : DSt) (S : Store) : Res D := (m σ S).bind fun d S1 => match d with
  | .int i => .ok (.int (-i)) S1
  | _ => .stuck
end

/-! ### statements -/
inductive Fl where
  | nx (σ : DSt) | rt (d : D) | bk (σ : DSt) | ct (σ : DSt) | ex (c : Str) (fs : List (Str × D)) (σ : DSt)
def PostS (K : PySem.W.Frag) (mg : Str → Option Value) (W : XW) (w : Wd) (H : Hp) (r : Res Fl) (D : Ends) : Prop := match r with
  | .ok (.nx dσ) S => ∀ w' H' σ', Ex w H w' H' → Ab K w' H' mg S → RSt K w' H' dσ σ' → D.nx σ' H'
  | .ok (.bk dσ) S => ∀ w' H' σ', Ex w H w' H' → Ab K w' H' mg S → RSt K w' H' dσ σ' → D.bk σ' H'
  | .ok (.ct dσ) S => ∀ w' H' σ', Ex w H w' H' → Ab K w' H' mg S → RSt K w' H' dσ σ' → D.ct σ' H'
  | .ok (.rt d) S => ∀ w' H' v, Ex w H w' H' → Ab K w' H' mg S → Rep K w' H' d v → D.rt v H'
  | .ok (.ex c fs dσ) S => ∀ w' H' σ' C od, Ex w H w' H' → Ab K w' H' mg S → RSt K w' H' dσ σ' → mg c = some (.ref C) → XRel K w' H' fs od → W (.ref C) od σ' H'
  | _ => False
def liftE {α : Type} (r : Res α) (σ : DSt) (f : α → Store → Res Fl) : Res Fl := match r with
  | .ok a S => f a S
  | .exc c fs S => .ok (.ex c fs σ) S
  | .stuck => .stuck
@[simp] theorem liftE_ok {α : Type} (a : α) (S : Store) (σ : DSt) (f : α → Store → Res Fl) : liftE (.ok a S) σ f = f a S := (rfl)
@[simp] theorem liftE_exc {α : Type} (c : Str) (fs : List (Str × D)) (S : Store) (σ : DSt) (f : α → Store → Res Fl) : liftE (.exc c fs S) σ f = .ok (.ex c fs σ) S := (rfl)
@[simp] theorem liftE_stuck {α : Type} (σ : DSt) (f : α → Store → Res Fl) : liftE .stuck σ f = .stuck := (rfl)
def tOfS (K : PySem.W.Frag) (mg : Str → Option Value) (W : XW) (m : DSt → Store → Res Fl) : TS := fun D σ H => ∃ w dσ S, Ab K w H mg S ∧ RSt K w H dσ σ ∧ PostS K mg W w H (m dσ S) D
abbrev PMS (X : Cx) (W : XW) (s : Stmt) (m : DSt → Store → Res Fl) : Prop := PS X s (tOfS X.K X.mg W m)
abbrev PMSs (X : Cx) (W : XW) (s : List Stmt) (m : DSt → Store → Res Fl) : Prop := PSs X s (tOfS X.K X.mg W m)
section
variable {α β : Type} {K : PySem.W.Frag} {mg : Str → Option Value} {R : Wd → Hp → α → β → Prop} {W : XW} {σ : L2.St} {w w' : Wd} {H H' : Hp} {D : Ends}
theorem PostS.ex {r : Res Fl} (h : PostS K mg W w H r D) (e : Ex w H w' H') : PostS K mg W w' H' r D := by
  cases r with
  | ok a S => cases a with
    | nx d => exact fun w2 H2 v e2 => h w2 H2 v (e.trans e2)
    | bk d => exact fun w2 H2 v e2 => h w2 H2 v (e.trans e2)
    | ct d => exact fun w2 H2 v e2 => h w2 H2 v (e.trans e2)
    | rt d => exact fun w2 H2 v e2 => h w2 H2 v (e.trans e2)
    | ex c fs d => exact fun w2 H2 v C od e2 => h w2 H2 v C od (e.trans e2)
  | exc c fs S => exact h
  | stuck => exact h
theorem PostS.bindE {r : Res α} {dσ : DSt} {f : α → Store → Res Fl} {Q' : β → Hp → Prop} (h : PostS K mg W w H (liftE r dσ f) D) (q : RSt K w H dσ σ)
    (k : ∀ a S1 w1 H1 v, Ex w H w1 H1 → Ab K w1 H1 mg S1 → R w1 H1 a v → PostS K mg W w1 H1 (f a S1) D → Q' v H1) : Post K mg R W σ w H r Q' := by
  cases r with
  | ok a S => exact fun w2 H2 v e2 A2 r2 => k a S w2 H2 v e2 A2 r2 (PostS.ex h e2)
  | exc c fs S => exact fun w2 H2 C od e2 A2 g x => h w2 H2 σ C od e2 A2 (q.mono e2) g x
  | stuck => exact h
theorem PostS.nx {dσ : DSt} {S : Store} (h : PostS K mg W w H (.ok (.nx dσ) S) D) (A : Ab K w H mg S) (r : RSt K w H dσ σ) : D.nx σ H := h w H σ (Ex.refl _ _) A r
theorem RSt.set {dσ : DSt} {d : L3.D} {v : V} (h : RSt K w H dσ σ) (r : Rep K w H d v) (i : Nat) : RSt K w H (dσ.set i (some d)) (σ.set i (some v)) := by
  refine ⟨by simpa using h.1, fun j e hj => ?_⟩
  by_cases z : i = j
  · subst z
    by_cases hl : i < dσ.length
    · rw [List.getElem?_set_self hl] at hj
      cases hj
      exact ⟨v, by rw [List.getElem?_set_self (by rw [← h.1]; exact hl)], r⟩
    · rw [List.getElem?_eq_none (by simpa using hl)] at hj
      cases hj
  · rw [List.getElem?_set_ne z] at hj ⊢
    exact h.2 j e hj
end
def mSkip (σ : DSt) (S : Store) : Res Fl := .ok (.nx σ) S
def thenS (r : Res Fl) (f : DSt → Store → Res Fl) : Res Fl := match r with
  | .ok (.nx σ) S => f σ S
  | r => r
@[simp] theorem thenS_nx (σ : DSt) (S : Store) (f : DSt → Store → Res Fl) : thenS (.ok (.nx σ) S) f = f σ S := (rfl)
@[simp] theorem thenS_rt (d : D) (S : Store) (f : DSt → Store → Res Fl) : thenS (.ok (.rt d) S) f = .ok (.rt d) S := (rfl)
@[simp] theorem thenS_bk (d : DSt) (S : Store) (f : DSt → Store → Res Fl) : thenS (.ok (.bk d) S) f = .ok (.bk d) S := (rfl)
@[simp] theorem thenS_ct (d : DSt) (S : Store) (f : DSt → Store → Res Fl) : thenS (.ok (.ct d) S) f = .ok (.ct d) S := (rfl)
@[simp] theorem thenS_ex (c : Str) (fs : List (Str × D)) (d : DSt) (S : Store) (f : DSt → Store → Res Fl) : thenS (.ok (.ex c fs d) S) f = .ok (.ex c fs d) S := (rfl)
@[simp] theorem thenS_stuck (f : DSt → Store → Res Fl) : thenS .stuck f = .stuck := (rfl)
def mSeq (a b : DSt → Store → Res Fl) (σ : DSt) (S : Store) : Res Fl := thenS (a σ S) b
theorem PostS.seq {K : PySem.W.Frag} {mg : Str → Option Value} {W : XW} {w : Wd} {H : Hp} {D : Ends} {r : Res Fl} {f : DSt → Store → Res Fl} (h : PostS K mg W w H (thenS r f) D) : PostS K mg W w H r { D with nx := tOfS K mg W f D } := by
  cases r with
  | ok a S => cases a with
    | nx d => exact fun w2 H2 σ2 e2 A2 r2 => ⟨w2, d, S, A2, r2, PostS.ex h e2⟩
    | bk d => exact h
    | ct d => exact h
    | rt d => exact h
    | ex c fs d => exact h
  | exc c fs S => exact h
  | stuck => exact h
section
variable {X : Cx} {W : XW} {st : Stmt} {rest : List Stmt} {pos : Pos} {e : Expr} {m : DSt → Store → Res D}
theorem pms_nil : PMSs X W [] mSkip := PSs.imp pss_nil fun D σ H ⟨w, dσ, S, A, R, P⟩ => P.nx A R
theorem pms_cons {a b : DSt → Store → Res Fl} (h1 : PMS X W st a) (h2 : PMSs X W rest b) : PMSs X W (st :: rest) (mSeq a b) :=
  PSs.imp (pss_cons h1 h2) fun D σ H ⟨w, dσ, S, A, R, P⟩ => ⟨w, dσ, S, A, R, P.seq⟩
theorem pms_one {a : DSt → Store → Res Fl} (h1 : PMS X W st a) : PMSs X W [st] a := pss_one h1
def mDo (m : DSt → Store → Res D) (σ : DSt) (S : Store) : Res Fl := liftE (m σ S) σ fun _ S1 => .ok (.nx σ) S1
def mRet (m : DSt → Store → Res D) (σ : DSt) (S : Store) : Res Fl := liftE (m σ S) σ fun d S1 => .ok (.rt d) S1
theorem pms_ret (he : PM X W e m) : PMS X W (.Return (some e) pos) (mRet m) :=
  PS.imp (ps_ret he) fun D σ H ⟨w, dσ, S, A, R, P⟩ => ⟨w, dσ, S, A, R, P.bindE R fun d S1 w1 H1 v e1 A1 r1 P1 => P1 w1 H1 v (Ex.refl _ _) A1 r1⟩
def mIfS (c : DSt → Store → Res Bool) (a b : DSt → Store → Res Fl) (σ : DSt) (S : Store) : Res Fl := liftE (c σ S) σ fun x S1 => if x = true then a σ S1 else b σ S1
theorem pms_if {c : Expr} {a b : List Stmt} {mc : DSt → Store → Res Bool} {ma mb : DSt → Store → Res Fl} (hc : PMT X W c mc) (ha : PMSs X W a ma) (hb : PMSs X W b mb) : PMS X W (.If c a b pos) (mIfS mc ma mb) :=
  PS.imp (ps_if hc ha hb) fun D σ H ⟨w, dσ, S, A, R, P⟩ => ⟨w, dσ, S, A, R, P.bindE R fun d S1 w1 H1 v e1 A1 r1 P1 => by
    cases (show d = v from r1)
    split at P1
    · rename_i hd
      rw [if_pos hd]
      exact ⟨w1, dσ, S1, A1, R.mono e1, P1⟩
    · rename_i hd
      rw [if_neg hd]
      exact ⟨w1, dσ, S1, A1, R.mono e1, P1⟩⟩
def mSet (i : Nat) (m : DSt → Store → Res D) (σ : DSt) (S : Store) : Res Fl := liftE (m σ S) σ fun d S1 => .ok (.nx (σ.set i (some d))) S1
theorem pms_set {i : Nat} {x : Str} {pos' : Pos} (hN : X.N.Nodup) (hi : X.N[i]? = some x) (hx : Loc X.env.scope x) (he : PM X W e m) (hs : swapsWith e (some (.Name x pos')) pos.line X.env = pure false := by rfl)
    (hf : X.fn x = true ∨ X.env.scope.names.lookup x = some .local := by first | exact .inl rfl | exact .inr rfl | assumption) : PMS X W (.Assign [.Name x pos'] e pos) (mSet i m) :=
  PS.imp (ps_set hN hi hx he hs hf) fun D σ H ⟨w, dσ, S, A, R, P⟩ => ⟨w, dσ, S, A, R, P.bindE R fun d S1 w1 H1 v e1 A1 r1 P1 => P1.nx A1 ((R.mono e1).set r1 i)⟩
end
end L3
namespace L3
open PySem PySem.Spec L2

/-! ### targets -/
def bindG {α β : Type} (r : Res α) (f : α → Store → Res β) : Res β := match r with
  | .ok a S => f a S
  | _ => .stuck
@[simp] theorem bindG_ok {α β : Type} (a : α) (S : Store) (f : α → Store → Res β) : bindG (.ok a S) f = f a S := (rfl)
@[simp] theorem bindG_stuck {α β : Type} (f : α → Store → Res β) : bindG (.stuck : Res α) f = .stuck := (rfl)
def PostG (K : PySem.W.Frag) (mg : Str → Option Value) (w : Wd) (H : Hp) (r : Res DSt) (Q : L2.St → Hp → Prop) : Prop := match r with
  | .ok dσ S => ∀ w' H' σ', Ex w H w' H' → Ab K w' H' mg S → RSt K w' H' dσ σ' → Q σ' H'
  | _ => False
section
variable {α β : Type} {K : PySem.W.Frag} {mg : Str → Option Value} {R : Wd → Hp → α → β → Prop} {W : XW} {σ : L2.St} {w w' : Wd} {H H' : Hp}
theorem PostG.ex {r : Res DSt} {Q : L2.St → Hp → Prop} (h : PostG K mg w H r Q) (e : Ex w H w' H') : PostG K mg w' H' r Q := by
  cases r with
  | ok a S => exact fun w2 H2 v e2 => h w2 H2 v (e.trans e2)
  | exc c fs S => exact h
  | stuck => exact h
theorem PostG.bind {r : Res α} {f : α → Store → Res DSt} {Q : L2.St → Hp → Prop} {Q' : β → Hp → Prop} (h : PostG K mg w H (bindG r f) Q)
    (k : ∀ a S1 w1 H1 v, Ex w H w1 H1 → Ab K w1 H1 mg S1 → R w1 H1 a v → PostG K mg w1 H1 (f a S1) Q → Q' v H1) : Post K mg R W σ w H r Q' := by
  cases r with
  | ok a S => exact fun w2 H2 v e2 A2 r2 => k a S w2 H2 v e2 A2 r2 (PostG.ex h e2)
  | exc c fs S => exact h.elim
  | stuck => exact h
theorem PostG.bindG {r : Res DSt} {f : DSt → Store → Res DSt} {Q Q' : L2.St → Hp → Prop} (h : PostG K mg w H (bindG r f) Q)
    (k : ∀ dσ S1 w1 H1 v, Ex w H w1 H1 → Ab K w1 H1 mg S1 → RSt K w1 H1 dσ v → PostG K mg w1 H1 (f dσ S1) Q → Q' v H1) : PostG K mg w H r Q' := by
  cases r with
  | ok a S => exact fun w2 H2 v e2 A2 r2 => k a S w2 H2 v e2 A2 r2 (PostG.ex h e2)
  | exc c fs S => exact h.elim
  | stuck => exact h
theorem PostG.fin {dσ : DSt} {S : Store} {Q : L2.St → Hp → Prop} (h : PostG K mg w H (.ok dσ S) Q) (A : Ab K w H mg S) (r : RSt K w H dσ σ) : Q σ H := h w H σ (Ex.refl _ _) A r
end
def tOfG (K : PySem.W.Frag) (mg : Str → Option Value) (m : D → DSt → Store → Res DSt) : TG := fun v σ H Q => ∃ w dσ S d, Ab K w H mg S ∧ RSt K w H dσ σ ∧ Rep K w H d v ∧ PostG K mg w H (m d dσ S) Q
def tOfGs (K : PySem.W.Frag) (mg : Str → Option Value) (m : List D → DSt → Store → Res DSt) : TGs := fun v σ H Q => ∃ w dσ S d, Ab K w H mg S ∧ RSt K w H dσ σ ∧ Reps K w H d v ∧ PostG K mg w H (m d dσ S) Q
abbrev PMG (X : Cx) (e : Expr) (m : D → DSt → Store → Res DSt) : Prop := PG X e (tOfG X.K X.mg m)
abbrev PMGs (X : Cx) (e : List Expr) (m : List D → DSt → Store → Res DSt) : Prop := PGs X e (tOfGs X.K X.mg m)
section
variable {X : Cx} {W : XW} {pos : Pos}
theorem PG.imp {e : Expr} {t t' : TG} (h : PG X e t) (k : ∀ v σ H Q, t' v σ H Q → t v σ H Q) : PG X e t' := ⟨fun pins s σ H v u Q I r q => h.run pins s σ H v u Q I r (k v σ H Q q)⟩
theorem PGs.imp {e : List Expr} {t t' : TGs} (h : PGs X e t) (k : ∀ v σ H Q, t' v σ H Q → t v σ H Q) : PGs X e t' := ⟨fun pins s σ H v u Q I r q => h.run pins s σ H v u Q I r (k v σ H Q q)⟩
def gtName (i : Nat) (d : D) (σ : DSt) (S : Store) : Res DSt := .ok (σ.set i (some d)) S
theorem pmg_name {i : Nat} {x : Str} (hN : X.N.Nodup) (hi : X.N[i]? = some x) (hx : Loc X.env.scope x) (hf : X.fn x = true ∨ X.env.scope.names.lookup x = some .local := by first | exact .inl rfl | exact .inr rfl | assumption) : PMG X (.Name x pos) (gtName i) :=
  PG.imp (pg_name hN hi hx hf) fun v σ H Q ⟨w, dσ, S, d, A, R, r, P⟩ => P.fin A (R.set r i)
def gtNil (ds : List D) (σ : DSt) (S : Store) : Res DSt := match ds with
  | [] => .ok σ S
  | _ => .stuck
def gtCons (f : D → DSt → Store → Res DSt) (g : List D → DSt → Store → Res DSt) (ds : List D) (σ : DSt) (S : Store) : Res DSt := match ds with
  | d :: r => bindG (f d σ S) fun σ1 S1 => g r σ1 S1
  | [] => .stuck
theorem pmgs_nil : PMGs X [] gtNil := PGs.imp pgs_nil fun v σ H Q ⟨w, dσ, S, d, A, R, r, P⟩ => by
  cases d with
  | nil => simp only [Reps] at r; exact ⟨r, P.fin A R⟩
  | cons d ds => exact P.elim
theorem pmgs_cons {e : Expr} {es : List Expr} {f : D → DSt → Store → Res DSt} {g : List D → DSt → Store → Res DSt} (h1 : PMG X e f) (h2 : PMGs X es g)
    (hs : (assignEach (e :: es) X.env).map (·.2) = assign e X.env :: (assignEach es X.env).map (·.2) := by rfl) : PMGs X (e :: es) (gtCons f g) :=
  PGs.imp (pgs_cons h1 h2 hs) fun v σ H Q ⟨w, dσ, S, d, A, R, r, P⟩ => by
    cases d with
    | nil => exact P.elim
    | cons d ds =>
      simp only [Reps] at r
      obtain ⟨v', r', rfl, r1, r2⟩ := r
      exact ⟨v', r', rfl, w, dσ, S, d, A, R, r1, PostG.bindG P fun dσ1 S1 w1 H1 σ1 e1 A1 R1 P1 => ⟨w1, dσ1, S1, ds, A1, R1, r2.mono e1, P1⟩⟩
def gtTup (n : Nat) (g : List D → DSt → Store → Res DSt) (d : D) (σ : DSt) (S : Store) : Res DSt := match rdT d with
  | some ds => if ds.length = n then g ds σ S else .stuck
  | none => .stuck
theorem pmg_tup {es : List Expr} {k : Nat} {g : List D → DSt → Store → Res DSt} {n : Nat} (hc : X.calm = true) (h : PMGs X es g)
    (hn : (assignEach es X.env).length = n := by rfl) (hst : (assignEach es X.env).findIdx? (·.1) = none := by rfl) : PMG X (.Tuple es k pos) (gtTup n g) :=
  PG.imp (pg_tup hc h hn hst) fun v σ H Q ⟨w, dσ, S, d, A, R, r, P⟩ => by
    unfold gtTup at P
    split at P
    · rename_i ds hd
      split at P
      · rename_i hl
        obtain ⟨a, vs, rfl, f, r'⟩ := rdT_rep hd r
        exact ⟨a, vs, rfl, f, by rw [← r'.length]; exact hl, w, dσ, S, ds, A, R, r', P⟩
      · exact P.elim
    · exact P.elim
theorem PSet.or {t t' : TSet} (h : PSet X t) (h' : PSet X t') : PSet X (fun o i v H Q => t o i v H Q ∨ t' o i v H Q) := by
  intro pins s σ H o i v ov iv u Q I r1 r2 r3 q
  rcases q with q | q
  · exact h pins s σ H o i v ov iv u Q I r1 r2 r3 q
  · exact h' pins s σ H o i v ov iv u Q I r1 r2 r3 q
def putD {κ : Type} [DecidableEq κ] (kvs : List (κ × D)) (k : κ) (v : D) : List (κ × D) := if (kvs.any fun kv => decide (kv.1 = k)) = true then kvs.map (fun kv => if kv.1 = k then (kv.1, v) else kv) else kvs ++ [(k, v)]
theorem RKv.any {κ : Type} [DecidableEq κ] (k : κ) {K : PySem.W.Frag} {w : Wd} {H : Hp} : ∀ {kvs : List (κ × D)} {vs : List (κ × V)}, RKv K w H kvs vs → (kvs.any fun kv => decide (kv.1 = k)) = vs.any fun kv => decide (kv.1 = k)
  | [], _, h => by simp only [RKv] at h; subst h; rfl
  | (j, d) :: kvs, _, h => by
    obtain ⟨v, r, rfl, h1, h2⟩ := h
    simp only [List.any_cons, RKv.any k h2]
theorem RKv.repl {κ : Type} [DecidableEq κ] (k : κ) {K : PySem.W.Frag} {w : Wd} {H : Hp} {d : D} {v : V} (r : Rep K w H d v) : ∀ {kvs : List (κ × D)} {vs : List (κ × V)}, RKv K w H kvs vs →
    RKv K w H (kvs.map fun kv => if kv.1 = k then (kv.1, d) else kv) (vs.map fun kv => if kv.1 = k then (kv.1, v) else kv)
  | [], _, h => by simp only [RKv] at h; subst h; rfl
  | (j, d') :: kvs, _, h => by
    obtain ⟨v', us, rfl, h1, h2⟩ := h
    simp only [List.map_cons]
    by_cases e : j = k
    · rw [if_pos e, if_pos e]
      exact ⟨_, _, rfl, r, RKv.repl k r h2⟩
    · rw [if_neg e, if_neg e]
      exact ⟨_, _, rfl, h1, RKv.repl k r h2⟩
theorem RKv.snoc {κ : Type} (k : κ) {K : PySem.W.Frag} {w : Wd} {H : Hp} {d : D} {v : V} (r : Rep K w H d v) : ∀ {kvs : List (κ × D)} {vs : List (κ × V)}, RKv K w H kvs vs → RKv K w H (kvs ++ [(k, d)]) (vs ++ [(k, v)])
  | [], _, h => by simp only [RKv] at h; subst h; exact ⟨_, _, rfl, r, rfl⟩
  | (j, d') :: kvs, _, h => by
    obtain ⟨v', us, rfl, h1, h2⟩ := h
    exact ⟨_, _, rfl, h1, RKv.snoc k r h2⟩
theorem RKv.put {κ : Type} [DecidableEq κ] (k : κ) {K : PySem.W.Frag} {w : Wd} {H : Hp} {d : D} {v : V} (r : Rep K w H d v) {kvs : List (κ × D)} {vs : List (κ × V)} (h : RKv K w H kvs vs) : RKv K w H (putD kvs k d) (putK vs k v) := by
  have e : putK vs k v = if (vs.any fun kv => decide (kv.1 = k)) = true then vs.map (fun kv => if kv.1 = k then (kv.1, v) else kv) else vs ++ [(k, v)] := rfl
  rw [e]
  unfold putD
  rw [RKv.any k h]
  split
  · exact RKv.repl k r h
  · exact RKv.snoc k r h
def setD (o i v : D) (S : Store) : Res Unit := match o with
  | .loc l => match S[l]? with
    | some (.lst ds) => match i with
      | .int k => match ixN ds.length k with
        | some j => .ok () (S.set l (.lst (ds.set j v)))
        | none => .stuck
      | _ => .stuck
    | some (.dK kvs) => match keyOf i with
      | some k => if kvs.length < sizeLine then .ok () (S.set l (.dK (putD kvs k v))) else .stuck
      | none => .stuck
    | some (.dT kvs) => match i with
      | .tup ks => match keysOf ks with
        | some k => if kvs.length < sizeLine then .ok () (S.set l (.dT (putD kvs k v))) else .stuck
        | none => .stuck
      | _ => .stuck
    | _ => .stuck
  | _ => .stuck
def gtSub (mo mi : DSt → Store → Res D) (f : D → D → D → Store → Res Unit) (d : D) (σ : DSt) (S : Store) : Res DSt :=
  bindG (mo σ S) fun o S1 => bindG (mi σ S1) fun i S2 => bindG (f o i d S2) fun _ S3 => .ok σ S3
/-- target = value -/
def mAsg (m : DSt → Store → Res D) (g : D → DSt → Store → Res DSt) (σ : DSt) (S : Store) : Res Fl := liftE (m σ S) σ fun d S1 => bindG (g d σ S1) fun σ2 S2 => .ok (.nx σ2) S2
theorem PostS.bindG {K : PySem.W.Frag} {mg : Str → Option Value} {W : XW} {w : Wd} {H : Hp} {D : Ends} {r : Res DSt} {f : DSt → Store → Res Fl} {Q' : L2.St → Hp → Prop} (h : PostS K mg W w H (L3.bindG r f) D)
    (k : ∀ dσ S1 w1 H1 v, Ex w H w1 H1 → Ab K w1 H1 mg S1 → RSt K w1 H1 dσ v → PostS K mg W w1 H1 (f dσ S1) D → Q' v H1) : PostG K mg w H r Q' := by
  cases r with
  | ok a S => exact fun w2 H2 v e2 A2 r2 => k a S w2 H2 v e2 A2 r2 (PostS.ex h e2)
  | exc c fs S => exact h.elim
  | stuck => exact h
/-- a, b = x, y -/
def mPar (i j : Nat) (ms : DSt → Store → Res (List D)) (σ : DSt) (S : Store) : Res Fl := liftE (ms σ S) σ fun ds S1 => match ds with
  | [a, b] => .ok (.nx ((σ.set i (some a)).set j (some b))) S1
  | _ => .stuck
end

/-! ### while -/
/-- n turns at most -/
def whileN (c : DSt → Store → Res Bool) (b : DSt → Store → Res Fl) : Nat → DSt → Store → Option (Res Fl)
  | 0, _, _ => none
  | n + 1, σ, S => match c σ S with
    | .ok true S1 => match b σ S1 with
      | .ok (.nx σ2) S2 => whileN c b n σ2 S2
      | .ok (.ct σ2) S2 => whileN c b n σ2 S2
      | .ok (.bk σ2) S2 => some (.ok (.nx σ2) S2)
      | r => some r
    | .ok false S1 => some (.ok (.nx σ) S1)
    | .exc k fs S1 => some (.ok (.ex k fs σ) S1)
    | .stuck => some .stuck
open Classical in
noncomputable def mWhile (c : DSt → Store → Res Bool) (b : DSt → Store → Res Fl) (σ : DSt) (S : Store) : Res Fl :=
  if h : ∃ n r, whileN c b n σ S = some r then Classical.choose (Classical.choose_spec h) else .stuck
section
variable {X : Cx} {W : XW} {pos : Pos}
end
end L3
namespace L3
open PySem PySem.Spec L2
open Classical

/-! ### what is walked -/
structure Src where
  items : List D
  guard : List (Nat × Ob)
def gOk (g : List (Nat × Ob)) (S : Store) : Prop := ∀ p ∈ g, S[p.1]? = some p.2
@[simp] theorem gOk_nil (S : Store) : gOk [] S = True := by simp [gOk]
@[simp] theorem gOk_cons (p : Nat × Ob) (g : List (Nat × Ob)) (S : Store) : gOk (p :: g) S = (S[p.1]? = some p.2 ∧ gOk g S) := by simp [gOk]
/-- later, maybe within a list that is being made -/
structure ExJ (w : Wd) (H : Hp) (w' : Wd) (H' : Hp) : Prop where
  pre : ∃ t, w'.M = w.M ++ t
  bn : ∀ b ∈ w'.B, b ∈ w.B ∨ H b = none
  keep : ∀ a u, H a = some u → a ∉ w.M → a ∉ w.B → H' a = some u ∧ a ∉ w'.M
  fz : ∀ a od u, H a = some (.frz od u) → H' a = some (.frz od u)
theorem Ex.j {w w' : Wd} {H H' : Hp} (e : Ex w H w' H') : ExJ w H w' H' := ⟨e.pre, fun b hb => .inl (by rw [← e.bk]; exact hb), fun a u h n _ => e.keep a u h n, e.fz⟩
section
variable {K : PySem.W.Frag} {mg : Str → Option Value} {w w' : Wd} {H H' : Hp} {S : Store}
theorem ExJ.get (e : ExJ w H w' H') {l : Nat} {a : Addr} (h : w.M[l]? = some a) : w'.M[l]? = some a := by
  obtain ⟨t, ht⟩ := e.pre
  rw [ht]
  obtain ⟨h1, h2⟩ := List.getElem?_eq_some_iff.mp h
  rw [List.getElem?_append_left h1]; exact h
theorem ExJ.at (e : ExJ w H w' H') {a : Addr} {u : HO} (n : a ∉ w.M) (b : a ∉ w.B) (h : H a = some u) : a ∉ w'.M ∧ a ∉ w'.B ∧ H' a = some u := by
  obtain ⟨h1, n1⟩ := e.keep a u h n b
  refine ⟨n1, fun z => ?_, h1⟩
  rcases e.bn a z with z | z
  · exact b z
  · rw [h] at z; cases z
theorem ExJ.rd (e : ExJ w H w' H') {a : Addr} {u : HO} (n : a ∉ w.M) (b : a ∉ w.B) (h : Rd H a u) : a ∉ w'.M ∧ a ∉ w'.B ∧ Rd H' a u := by
  rcases h with h | ⟨o, h⟩
  · obtain ⟨x, y, z⟩ := e.at n b h
    exact ⟨x, y, .inl z⟩
  · obtain ⟨x, y, z⟩ := e.at n b h
    exact ⟨x, y, .inr ⟨o, z⟩⟩
theorem Rep.monoJ (e : ExJ w H w' H') {d : D} {v : V} (h : Rep K w H d v) : Rep K w' H' d v :=
  h.gen (fun _ _ ⟨n, b, f⟩ => e.at n b f) (fun _ _ f => f.elim (fun ⟨n, b, f⟩ => .inl (e.rd n b f)) .inr) (fun _ _ ⟨n, b, f⟩ => e.at n b f) (fun _ _ f => f.by fun a u f n b => e.at n b f) (fun _ _ ⟨n, b, f⟩ => e.at n b f) fun _ _ => e.get
theorem Reps.monoJ (e : ExJ w H w' H') {d : List D} {v : List V} (h : Reps K w H d v) : Reps K w' H' d v :=
  h.gen (fun _ _ ⟨n, b, f⟩ => e.at n b f) (fun _ _ f => f.elim (fun ⟨n, b, f⟩ => .inl (e.rd n b f)) .inr) (fun _ _ ⟨n, b, f⟩ => e.at n b f) (fun _ _ f => f.by fun a u f n b => e.at n b f) (fun _ _ ⟨n, b, f⟩ => e.at n b f) fun _ _ => e.get
theorem RSt.monoJ (e : ExJ w H w' H') {ds : DSt} {vs : L2.St} (h : RSt K w H ds vs) : RSt K w' H' ds vs := h.gen fun _ _ r => r.monoJ e
theorem HoOk.monoJ (e : ExJ w H w' H') {o : Ob} {u : HO} (h : HoOk K w H mg o u) : HoOk K w' H' mg o u := h.gen (fun _ _ r => r.monoJ e) fun _ _ r => r.monoJ e
end
def JOk (K : PySem.W.Frag) (mg : Str → Option Value) (w : Wd) (H : Hp) (J : It) (src : Src) : Prop := ∀ w' H' S i, ExJ w H w' H' → Ab K w' H' mg S → gOk src.guard S →
  (∀ d, src.items[i]? = some d → J.go i H' ∧ ∀ x H2, J.yld i H' x H2 → ∃ w2, Ex w' H' w2 H2 ∧ Ab K w2 H2 mg S ∧ Rep K w2 H2 d x) ∧ (src.items.length ≤ i → J.stop i H')
def RI (K : PySem.W.Frag) (mg : Str → Option Value) (w : Wd) (H : Hp) (src : Src) (J : It) : Prop := JOk K mg w H J src ∧ src.items.length ≤ sizeLine
def tOfI (K : PySem.W.Frag) (mg : Str → Option Value) (W : XW) (m : DSt → Store → Res Src) : TI := fun σ H R => ∃ w dσ S, Ab K w H mg S ∧ RSt K w H dσ σ ∧ Post K mg (RI K mg) W σ w H (m dσ S) R
abbrev PMI (X : Cx) (W : XW) (tg e : Expr) (m : DSt → Store → Res Src) : Prop := PI X tg e (tOfI X.K X.mg W m)

/-! ### for -/
noncomputable def forGo (gd : List (Nat × Ob)) (g : D → DSt → Store → Res DSt) (b : DSt → Store → Res Fl) : List D → DSt → Store → Res Fl
  | [], σ, S => if gOk gd S then .ok (.nx σ) S else .stuck
  | d :: ds, σ, S => if gOk gd S then bindG (g d σ S) fun σ1 S1 => match b σ1 S1 with
    | .ok (.nx σ2) S2 => forGo gd g b ds σ2 S2
    | .ok (.ct σ2) S2 => forGo gd g b ds σ2 S2
    | .ok (.bk σ2) S2 => .ok (.nx σ2) S2
    | r => r
    else .stuck
noncomputable def mFor (mi : DSt → Store → Res Src) (g : D → DSt → Store → Res DSt) (b : DSt → Store → Res Fl) (σ : DSt) (S : Store) : Res Fl := liftE (mi σ S) σ fun src S1 => forGo src.guard g b src.items σ S1
section
variable {X : Cx} {W : XW} {pos : Pos}
theorem pms_for {tg iter : Expr} {body : List Stmt} {mi : DSt → Store → Res Src} {g : D → DSt → Store → Res DSt} {mb : DSt → Store → Res Fl} (hp : PassesOwn (model X.prog X.w) X.A X.env X.xe) (hc : X.calm = true) (hi : PMI X W tg iter mi) (hg : PMG X tg g) (hb : PMSs X W body mb)
    (hs : ∀ x, foldedSetIterable iter X.env x = pure x := by intro _; rfl) : PMS X W (.For tg iter body [] pos) (mFor mi g mb) := by
  refine PS.imp (ps_for hp hc hi hg hb hs) fun D σ H ⟨w, dσ, S, A, R, P⟩ => ⟨w, dσ, S, A, R, P.bindE R fun src S1 w1 H1 J e1 A1 rj P1 => ?_⟩
  obtain ⟨hJ, _⟩ := rj
  refine ⟨fun i m σ H => m = src.items.length - i ∧ i ≤ src.items.length ∧ ∃ w dσ S, Ex w1 H1 w H ∧ Ab X.K w H X.mg S ∧ RSt X.K w H dσ σ ∧ PostS X.K X.mg W w H (forGo src.guard g mb (src.items.drop i) dσ S) D,
    ⟨_, rfl, Nat.zero_le _, w1, dσ, S1, Ex.refl _ _, A1, R.mono e1, P1⟩, ?_⟩
  rintro i m σ H ⟨rfl, hi, w, dσ, S, ex, A, R, P⟩
  by_cases hlt : i < src.items.length
  · rw [List.drop_eq_getElem_cons hlt] at P
    simp only [forGo] at P
    split at P
    · rename_i hgd
      obtain ⟨go, yl⟩ := (hJ w H S i ex.j A hgd).1 src.items[i] (List.getElem?_eq_getElem hlt)
      refine .inr ⟨go, fun σ' H' => ∃ w dσ S, Ex w1 H1 w H' ∧ Ab X.K w H' X.mg S ∧ RSt X.K w H' dσ σ' ∧ PostS X.K X.mg W w H' (forGo src.guard g mb (src.items.drop (i + 1)) dσ S) D,
        fun σ' H' h => ⟨src.items.length - (i + 1), by omega, rfl, hlt, h⟩, fun x H' y => ?_⟩
      obtain ⟨w2, e2, A2, r2⟩ := yl x H' y
      have P2 := P.ex e2
      refine ⟨w2, dσ, S, src.items[i], A2, R.mono e2, r2, PostS.bindG P2 fun dσ3 S3 w3 H3 σ3 e3 A3 R3 P3 => ?_⟩
      refine ⟨w3, dσ3, S3, A3, R3, ?_⟩
      cases hq : mb dσ3 S3 with
      | ok fl S4 => cases fl with
        | nx σ4 => rw [hq] at P3; exact fun w5 H5 σ5 e5 A5 R5 => ⟨w5, σ4, S4, ((ex.trans e2).trans e3).trans e5, A5, R5, P3.ex e5⟩
        | ct σ4 => rw [hq] at P3; exact fun w5 H5 σ5 e5 A5 R5 => ⟨w5, σ4, S4, ((ex.trans e2).trans e3).trans e5, A5, R5, P3.ex e5⟩
        | bk σ4 => rw [hq] at P3; exact P3
        | rt d => rw [hq] at P3; exact P3
        | ex k fs d => rw [hq] at P3; exact P3
      | exc k fs S4 => rw [hq] at P3; exact P3.elim
      | stuck => rw [hq] at P3; exact P3.elim
    · exact P.elim
  · have e : i = src.items.length := by omega
    subst e
    rw [List.drop_length] at P
    simp only [forGo] at P
    split at P
    · rename_i hgd
      exact .inl ⟨(hJ w H S _ ex.j A hgd).2 (Nat.le_refl _), P.nx A R⟩
    · exact P.elim
end

/-! ### targets that store names alone -/
def FrS (σ σ' : L2.St) (is : List Nat) : Prop := σ'.length = σ.length ∧ ∀ j, j ∉ is → σ'[j]? = σ[j]?
theorem FrS.refl (σ : L2.St) : FrS σ σ [] := ⟨rfl, fun _ _ => rfl⟩
theorem FrS.trans {σ σ1 σ2 : L2.St} {is js : List Nat} (a : FrS σ σ1 is) (b : FrS σ1 σ2 js) : FrS σ σ2 (is ++ js) :=
  ⟨b.1.trans a.1, fun j hj => by
    simp only [List.mem_append, not_or] at hj
    exact (b.2 j hj.2).trans (a.2 j hj.1)⟩
def PostX (K : PySem.W.Frag) (mg : Str → Option Value) (is : List Nat) (σ : L2.St) (w : Wd) (H : Hp) (r : Res DSt) (Q : L2.St → Hp → Prop) : Prop := match r with
  | .ok dσ S => ∀ w' H' σ', Ex w H w' H' → Ab K w' H' mg S → RSt K w' H' dσ σ' → FrS σ σ' is → Q σ' H'
  | _ => False
def tOfX (K : PySem.W.Frag) (mg : Str → Option Value) (is : List Nat) (m : D → DSt → Store → Res DSt) : TG := fun v σ H Q => ∃ w dσ S d, Ab K w H mg S ∧ RSt K w H dσ σ ∧ Rep K w H d v ∧ PostX K mg is σ w H (m d dσ S) Q
abbrev PMX (X : Cx) (is : List Nat) (e : Expr) (m : D → DSt → Store → Res DSt) : Prop := PG X e (tOfX X.K X.mg is m)
section
variable {X : Cx} {pos : Pos}
theorem pmx_name {i : Nat} {x : Str} (hN : X.N.Nodup) (hi : X.N[i]? = some x) (hx : Loc X.env.scope x) (hf : X.fn x = true ∨ X.env.scope.names.lookup x = some .local := by first | exact .inl rfl | exact .inr rfl | assumption) : PMX X [i] (.Name x pos) (gtName i) :=
  PG.imp (pg_name hN hi hx hf) fun v σ H Q ⟨w, dσ, S, d, A, R, r, P⟩ => P w H _ (Ex.refl _ _) A (R.set r i) ⟨by simp, fun j hj => by
    simp only [List.mem_singleton] at hj
    rw [List.getElem?_set_ne (Ne.symm hj)]⟩
end

/-! ### list comprehensions -/
/-- the slots of the block's own names -/
def dwipe (σ : DSt) : List Nat → DSt
  | [] => σ
  | v :: vs => (dwipe σ vs).set v none
theorem dwipe_rep {K : PySem.W.Frag} {w : Wd} {H : Hp} {dσ : DSt} {σ : L2.St} (R : RSt K w H dσ σ) : ∀ vs : List Nat, RSt K w H (dwipe dσ vs) (wipe σ vs)
  | [] => R
  | v :: vs => by
    have ih := dwipe_rep R vs
    unfold dwipe wipe
    refine ⟨by simpa using ih.1, fun j d hj => ?_⟩
    by_cases z : v = j
    · subst z
      by_cases hl : v < (dwipe dσ vs).length
      · rw [List.getElem?_set_self hl] at hj; cases hj
      · rw [List.getElem?_eq_none (by simpa using hl)] at hj; cases hj
    · rw [List.getElem?_set_ne z] at hj ⊢
      exact ih.2 j d hj
theorem wipe_len (σ : L2.St) (vs : List Nat) : (wipe σ vs).length = σ.length := wipe_length σ vs
theorem wipe_get (σ : L2.St) : ∀ (vs : List Nat) (j : Nat), (wipe σ vs)[j]? = if j ∈ vs ∧ j < σ.length then some none else σ[j]?
  | [], j => by simp [wipe]
  | v :: vs, j => by
    unfold wipe
    have ih := wipe_get σ vs j
    by_cases z : v = j
    · subst z
      by_cases hl : v < σ.length
      · rw [List.getElem?_set_self (by rw [wipe_len]; exact hl), if_pos ⟨List.mem_cons_self, hl⟩]
      · rw [List.getElem?_eq_none (by rw [List.length_set, wipe_len]; omega), if_neg (fun q => hl q.2), List.getElem?_eq_none (by omega)]
    · rw [List.getElem?_set_ne z, ih]
      have : (j ∈ v :: vs) ↔ j ∈ vs := by
        constructor
        · intro h
          rcases List.mem_cons.mp h with e | h
          · exact absurd e.symm z
          · exact h
        · exact List.mem_cons_of_mem _
      simp only [this]
theorem wipe_fr {σ σ2 : L2.St} {vs is : List Nat} (h : FrS (wipe σ vs) σ2 is) (hs : ∀ i ∈ is, i ∈ vs) : wipe σ2 vs = wipe σ vs := by
  have hlen : σ2.length = σ.length := by rw [h.1, wipe_len]
  refine List.ext_getElem? fun j => ?_
  rw [wipe_get, wipe_get, hlen]
  by_cases c : j ∈ vs ∧ j < σ.length
  · rw [if_pos c, if_pos c]
  · rw [if_neg c, if_neg c]
    by_cases hj : j ∈ vs
    · have : ¬ j < σ.length := fun z => c ⟨hj, z⟩
      rw [List.getElem?_eq_none (by omega), List.getElem?_eq_none (by omega)]
    · rw [h.2 j (fun z => hj (hs j z)), wipe_get, if_neg c]
abbrev W0 : XW := fun _ _ _ _ => False
noncomputable def lcGo (gd : List (Nat × Ob)) (g : D → DSt → Store → Res DSt) (t : DSt → Store → Res Bool) (e : DSt → Store → Res D) (σ : DSt) : List D → Store → Res (List D)
  | [], S => if gOk gd S then .ok [] S else .stuck
  | d :: ds, S => if gOk gd S then bindG (g d σ S) fun σ1 S1 => bindG (t σ1 S1) fun k S2 =>
      if k = true then bindG (e σ1 S2) fun y S3 => bindG (lcGo gd g t e σ ds S3) fun ys S4 => .ok (y :: ys) S4
      else lcGo gd g t e σ ds S2
    else .stuck
noncomputable def mLc (mi : DSt → Store → Res Src) (g : D → DSt → Store → Res DSt) (t : DSt → Store → Res Bool) (e : DSt → Store → Res D) (vs : List Nat) (σ : DSt) (S : Store) : Res D :=
  (mi σ S).bind fun src S1 => bindG (lcGo src.guard g t e (dwipe σ vs) src.items S1) fun ys S2 => .ok (.lst ys) S2
/-- the list will be changed -/
noncomputable def mLcM (mi : DSt → Store → Res Src) (g : D → DSt → Store → Res DSt) (t : DSt → Store → Res Bool) (e : DSt → Store → Res D) (vs : List Nat) (σ : DSt) (S : Store) : Res D :=
  (mi σ S).bind fun src S1 => bindG (lcGo src.guard g t e (dwipe σ vs) src.items S1) fun ys S2 => .ok (.loc S2.length) (S2 ++ [.lst ys])
/-- the state within the making of the list at p -/
structure Mk (w1 : Wd) (H1 : Hp) (p : Addr) (w : Wd) (H : Hp) : Prop where
  pre : ∃ t, w.M = w1.M ++ t
  bk : w.B = p :: w1.B
  keep : ∀ a u, H1 a = some u → a ∉ w1.M → H a = some u ∧ a ∉ w.M
  fz : ∀ a od u, H1 a = some (.frz od u) → H a = some (.frz od u)
section
variable {K : PySem.W.Frag} {mg : Str → Option Value} {w1 w w' : Wd} {H1 H H' : Hp} {p : Addr} {S : Store}
theorem Mk.j (m : L3.Mk w1 H1 p w H) (hp : H1 p = none) : ExJ w1 H1 w H := ⟨m.pre, fun b hb => by
  rw [m.bk] at hb
  rcases List.mem_cons.mp hb with rfl | hb
  · exact .inr hp
  · exact .inl hb, fun a u h n _ => m.keep a u h n, m.fz⟩
theorem Mk.step (m : L3.Mk w1 H1 p w H) (e : Ex w H w' H') : L3.Mk w1 H1 p w' H' := by
  obtain ⟨t, ht⟩ := m.pre
  obtain ⟨t', ht'⟩ := e.pre
  exact ⟨⟨t ++ t', by rw [ht', ht, List.append_assoc]⟩, e.bk.trans m.bk, fun a u h n => let ⟨h1, n1⟩ := m.keep a u h n; e.keep a u h1 n1, fun a od u h => e.fz a od u (m.fz a od u h)⟩
theorem Mk.wr (m : L3.Mk w1 H1 p w H) (hp : H1 p = none) (o : HO) : L3.Mk w1 H1 p w (upd H p o) :=
  ⟨m.pre, m.bk, fun a u h n => let ⟨h1, n1⟩ := m.keep a u h n; ⟨by rw [upd_ne (ne_new h hp)]; exact h1, n1⟩, fun a od u h => by rw [upd_ne (ne_new h hp)]; exact m.fz a od u h⟩
theorem Mk.fin (m : L3.Mk w1 H1 p w H) : Ex w1 H1 ⟨w.M, w1.B⟩ H := ⟨m.pre, rfl, m.keep, m.fz⟩
/-- writing the list that is made -/
theorem Rep.wrB (hb : p ∈ w.B) {o : HO} {d : D} {v : V} (h : Rep K w H d v) : Rep K w (upd H p o) d v := by
  have ne : ∀ {a : Addr}, a ∉ w.B → a ≠ p := fun n z => n (by rw [z]; exact hb)
  refine h.gen (fun a xs ⟨n, b, f⟩ => ⟨n, b, by rw [upd_ne (ne b)]; exact f⟩) (fun a xs f => ?_) (fun a xs ⟨n, b, f⟩ => ⟨n, b, by rw [upd_ne (ne b)]; exact f⟩) (fun a xs f => f.by fun a u f n b => ⟨n, b, by rw [upd_ne (ne b)]; exact f⟩) (fun a _ ⟨n, b, f⟩ => ⟨n, b, by rw [upd_ne (ne b)]; exact f⟩) fun _ _ q => q
  rcases f with ⟨n, b, f | ⟨o', f⟩⟩ | f
  · exact .inl ⟨n, b, .inl (by rw [upd_ne (ne b)]; exact f)⟩
  · exact .inl ⟨n, b, .inr ⟨o', by rw [upd_ne (ne b)]; exact f⟩⟩
  · exact .inr f
theorem Reps.wrB (hb : p ∈ w.B) {o : HO} : ∀ {d : List D} {v : List V}, Reps K w H d v → Reps K w (upd H p o) d v
  | [], _, h => by simpa only [Reps] using h
  | d :: ds, _, h => by
    simp only [Reps] at h
    obtain ⟨v, r, rfl, h1, h2⟩ := h
    exact .cons (h1.wrB hb) (Reps.wrB hb h2)
theorem Ab.wrB (A : Ab K w H mg S) (hb : p ∈ w.B) (xs : List V) : Ab K w (upd H p (.lst xs)) mg S := by
  have np := A.bm p hb
  refine ⟨A.len, A.nd, A.bm, fun a ha => ?_, fun l a ob h1 h2 => ?_⟩
  · by_cases z : a = p
    · subst z; exact ⟨xs, upd_same⟩
    · rw [upd_ne z]; exact A.bt a ha
  · obtain ⟨u, e, k⟩ := A.ob l a ob h1 h2
    refine ⟨u, by rw [upd_ne (fun z => np (by rw [← z]; exact List.mem_of_getElem? h1))]; exact e, k.gen (fun _ _ r => r.wrB hb) fun _ _ r => r.wrB hb⟩
theorem Ab.inB (A : Ab K w H mg S) (hp : H p = none) (xs : List V) : Ab K ⟨w.M, p :: w.B⟩ (upd H p (.lst xs)) mg S ∧ L3.Mk w H p ⟨w.M, p :: w.B⟩ (upd H p (.lst xs)) := by
  have m : L3.Mk w H p ⟨w.M, p :: w.B⟩ (upd H p (.lst xs)) := ⟨⟨[], by simp⟩, rfl, fun a u h n => ⟨by rw [upd_ne (ne_new h hp)]; exact h, n⟩, fun a od u h => by rw [upd_ne (ne_new h hp)]; exact h⟩
  refine ⟨⟨A.len, A.nd, fun a ha => ?_, fun a ha => ?_, fun l a ob h1 h2 => ?_⟩, m⟩
  · rcases List.mem_cons.mp ha with rfl | ha
    · exact A.new hp
    · exact A.bm a ha
  · rcases List.mem_cons.mp ha with rfl | ha
    · exact ⟨xs, upd_same⟩
    · obtain ⟨u, e⟩ := A.bt a ha
      exact ⟨u, by rw [upd_ne (ne_new e hp)]; exact e⟩
  · obtain ⟨u, e, k⟩ := A.ob l a ob h1 h2
    exact ⟨u, by rw [upd_ne (ne_new e hp)]; exact e, k.monoJ (m.j hp)⟩
theorem Rep.outB {M B : List Addr} {d : D} {v : V} (h : Rep K ⟨M, p :: B⟩ H d v) : Rep K ⟨M, B⟩ H d v :=
  Rep.gen (w := ⟨M, p :: B⟩) (w' := ⟨M, B⟩) (fun a xs ⟨n, b, f⟩ => ⟨n, fun z => b (List.mem_cons_of_mem _ z), f⟩) (fun a xs f => f.elim (fun ⟨n, b, f⟩ => .inl ⟨n, fun z => b (List.mem_cons_of_mem _ z), f⟩) .inr) (fun a xs ⟨n, b, f⟩ => ⟨n, fun z => b (List.mem_cons_of_mem _ z), f⟩) (fun a xs f => PlT.by (w := ⟨M, p :: B⟩) (w' := ⟨M, B⟩) (fun a u f n b => ⟨n, fun z => b (List.mem_cons_of_mem _ z), f⟩) f) (fun _ _ ⟨n, b, f⟩ => ⟨n, fun z => b (List.mem_cons_of_mem _ z), f⟩) (fun _ _ q => q) h
theorem Reps.outB {M B : List Addr} : ∀ {d : List D} {v : List V}, Reps K ⟨M, p :: B⟩ H d v → Reps K ⟨M, B⟩ H d v
  | [], _, h => by simpa only [Reps] using h
  | d :: ds, _, h => by
    simp only [Reps] at h
    obtain ⟨v, r, rfl, h1, h2⟩ := h
    exact .cons h1.outB (Reps.outB h2)
theorem Ab.outB {M B : List Addr} (A : Ab K ⟨M, p :: B⟩ H mg S) : Ab K ⟨M, B⟩ H mg S :=
  ⟨A.len, A.nd, fun a ha => A.bm a (List.mem_cons_of_mem _ ha), fun a ha => A.bt a (List.mem_cons_of_mem _ ha), fun l a ob h1 h2 => let ⟨u, e, k⟩ := A.ob l a ob h1 h2; ⟨u, e, k.gen (fun _ _ r => r.outB) fun _ _ r => r.outB⟩⟩
end
section
variable {X : Cx} {W : XW} {pos : Pos}
/-- both forms: what follows the block is told of the made list at p -/
theorem lc_imp {g : D → DSt → Store → Res DSt} {t : DSt → Store → Res Bool} {e : DSt → Store → Res D} {vs is : List Nat} (hs : ∀ i ∈ is, i ∈ vs) {σ : L2.St} {H : Hp} {Q : VK} {fin : List D → Store → Res D}
    (hfin : ∀ {w1 H1 p w S ys vs'}, Ab X.K w1 H1 X.mg S → w1.B = p :: w.B → H p = none → p ∉ w.B → H1 p = some (.lst vs') → Reps X.K w1 H1 ys vs' → Ex w H ⟨w1.M, w.B⟩ H1 → Post X.K X.mg (Rep X.K) W σ w H (fin ys S) Q → Q (.ref p) H1)
    {w : Wd} {dσ : DSt} {S : Store} (A : Ab X.K w H X.mg S) (R : RSt X.K w H dσ σ) {src : Src} {J : It} (hJ : JOk X.K X.mg w H J src) (hz : src.items.length ≤ sizeLine)
    (P : Post X.K X.mg (Rep X.K) W σ w H (bindG (lcGo src.guard g t e (dwipe dσ vs) src.items S) fin) Q) :
    ∀ p, H p = none → ∃ W' : Nat → Nat → Hp → Prop, (∃ m, W' 0 m (upd H p (.lst []))) ∧ ∀ i m H, W' i m H →
      (J.stop i H ∧ Q (.ref p) H) ∨ (J.go i H ∧ ∃ Nx : Hp → Prop, (∀ H', Nx H' → ∃ m', m' < m ∧ W' (i + 1) m' H') ∧ ∀ x H', J.yld i H x H' → tOfX X.K X.mg is g x (wipe σ vs) H' fun σ2 H2 => wipe σ2 vs = wipe σ vs ∧ tOfT X.K X.mg W0 t σ2 H2 fun b H3 =>
        if b = true then tOf X.K X.mg W0 e σ2 H3 fun y H4 => ∃ acc, H4 p = some (.lst acc) ∧ acc.length < sizeLine ∧ Nx (upd H4 p (.lst (acc ++ [y]))) else Nx H3) := by
  intro p hp
  have pB := A.newB hp
  obtain ⟨A0, m0⟩ := A.inB hp []
  have R0 := dwipe_rep R vs
  -- the invariant
  refine ⟨fun i m H2 => m = src.items.length - i ∧ i ≤ src.items.length ∧ ∃ w2 S2 ys vs', Ab X.K w2 H2 X.mg S2 ∧ L3.Mk w H p w2 H2 ∧ H2 p = some (.lst vs') ∧ Reps X.K w2 H2 ys vs' ∧ vs'.length ≤ i ∧
      Post X.K X.mg (Rep X.K) W σ w H (bindG (lcGo src.guard g t e (dwipe dσ vs) (src.items.drop i) S2) fun zs S3 => fin (ys ++ zs) S3) Q,
    ⟨_, rfl, Nat.zero_le _, _, S, [], [], A0, m0, upd_same, .nil, Nat.le_refl _, P⟩, ?_⟩
  rintro i m H2 ⟨rfl, hi, w2, S2, ys, vs', A2, m2, e2, r2, hl, P2⟩
  by_cases hlt : i < src.items.length
  · rw [List.drop_eq_getElem_cons hlt] at P2
    simp only [lcGo] at P2
    split at P2
    · rename_i hgd
      obtain ⟨go, yl⟩ := (hJ w2 H2 S2 i (m2.j hp) A2 hgd).1 src.items[i] (List.getElem?_eq_getElem hlt)
      refine .inr ⟨go, fun H3 => ∃ w3 S3 ys vs', Ab X.K w3 H3 X.mg S3 ∧ L3.Mk w H p w3 H3 ∧ H3 p = some (.lst vs') ∧ Reps X.K w3 H3 ys vs' ∧ vs'.length ≤ i + 1 ∧
        Post X.K X.mg (Rep X.K) W σ w H (bindG (lcGo src.guard g t e (dwipe dσ vs) (src.items.drop (i + 1)) S3) fun zs S3 => fin (ys ++ zs) S3) Q,
        fun H' h => ⟨src.items.length - (i + 1), by omega, rfl, hlt, h⟩, fun x H' y => ?_⟩
      obtain ⟨w3, e3, A3, r3⟩ := yl x H' y
      have m3 := m2.step e3
      refine ⟨w3, dwipe dσ vs, S2, src.items[i], A3, R0.monoJ (m3.j hp), r3, ?_⟩
      cases hq : g src.items[i] (dwipe dσ vs) S2 with
      | exc _ _ _ => rw [hq] at P2; exact P2.elim
      | stuck => rw [hq] at P2; exact P2.elim
      | ok dσ4 S4 =>
      rw [hq] at P2
      simp only [bindG_ok] at P2
      refine fun w4 H4 σ4 e4 A4 R4 F4 => ⟨wipe_fr F4 hs, w4, dσ4, S4, A4, R4, ?_⟩
      cases hq5 : t dσ4 S4 with
      | exc _ _ _ => rw [hq5] at P2; exact P2.elim
      | stuck => rw [hq5] at P2; exact P2.elim
      | ok k S5 =>
      rw [hq5] at P2
      simp only [bindG_ok] at P2
      refine fun w5 H5 k' e5 A5 hk => ?_
      cases (show k = k' from hk)
      have m5 := (m3.step e4).step e5
      have b2 : p ∉ w2.M := A2.bm p (by rw [m2.bk]; exact List.mem_cons_self)
      have at5 := ((e3.trans e4).trans e5).keep p _ e2 b2
      have r5 := ((r2.mono e3).mono e4).mono e5
      cases k with
      | false =>
        rw [if_neg Bool.false_ne_true] at P2 ⊢
        exact ⟨w5, S5, ys, vs', A5, m5, at5.1, r5, Nat.le_succ_of_le hl, P2⟩
      | true =>
        rw [if_pos rfl] at P2 ⊢
        refine ⟨w5, dσ4, S5, A5, R4.mono e5, ?_⟩
        cases hq6 : e dσ4 S5 with
        | exc _ _ _ => rw [hq6] at P2; exact P2.elim
        | stuck => rw [hq6] at P2; exact P2.elim
        | ok d S6 =>
        rw [hq6] at P2
        simp only [bindG_ok] at P2
        refine fun w6 H6 v e6 A6 r6 => ?_
        have m6 := m5.step e6
        have at6 := e6.keep p _ at5.1 at5.2
        have hb6 : p ∈ w6.B := by rw [m6.bk]; exact List.mem_cons_self
        refine ⟨vs', at6.1, by omega, w6, S6, ys ++ [d], vs' ++ [v], A6.wrB hb6 _, m6.wr hp _, upd_same, ((r5.mono e6).append (.cons r6 .nil)).wrB hb6, by simp; omega, ?_⟩
        cases hq7 : lcGo src.guard g t e (dwipe dσ vs) (src.items.drop (i + 1)) S6 with
        | exc _ _ _ => rw [hq7] at P2; exact P2.elim
        | stuck => rw [hq7] at P2; exact P2.elim
        | ok zs S7 =>
          rw [hq7] at P2
          simp only [bindG_ok, List.append_assoc, List.singleton_append] at P2 ⊢
          exact P2
    · exact P2.elim
  · have ei : i = src.items.length := by omega
    subst ei
    rw [List.drop_length] at P2
    simp only [lcGo] at P2
    split at P2
    · rename_i hgd
      simp only [bindG_ok, List.append_nil] at P2
      exact .inl ⟨(hJ w2 H2 S2 _ (m2.j hp) A2 hgd).2 (Nat.le_refl _), hfin A2 m2.bk hp pB e2 r2 m2.fin P2⟩
    · exact P2.elim
theorem fin_lst {σ : L2.St} {w1 : Wd} {H1 : Hp} {p : Addr} {w : Wd} {H : Hp} {S : Store} {ys : List D} {vs' : List V} {Q : VK} (A : Ab X.K w1 H1 X.mg S) (hb : w1.B = p :: w.B) (hpB : p ∉ w.B) (e : H1 p = some (.lst vs')) (r : Reps X.K w1 H1 ys vs') (ex : Ex w H ⟨w1.M, w.B⟩ H1)
    (P : Post X.K X.mg (Rep X.K) W σ w H (.ok (.lst ys) S) Q) : Q (.ref p) H1 := by
  obtain ⟨M, B⟩ := w1
  simp only at hb
  subst hb
  refine P ⟨M, w.B⟩ H1 _ ex A.outB ?_
  simp only [Rep]
  exact ⟨p, vs', rfl, ⟨A.bm p List.mem_cons_self, hpB, e⟩, r.outB⟩
section
variable {elt tg iter : Expr} {ifs : List Expr} {scope : Scope} {own : List (Str × Nat)} {mi : DSt → Store → Res Src} {g : D → DSt → Store → Res DSt} {t : DSt → Store → Res Bool} {e : DSt → Store → Res D} {is : List Nat}
theorem pmt_one {c : Expr} {m : DSt → Store → Res Bool} (h : PMT X W c m) : PTs X [c] (tOfT X.K X.mg W m) := pts_one h
theorem pm_lc (hc : X.calm = true) (hN : X.N.Nodup) (hi : PMI X W tg iter mi) (ok : BlkOk X.N X.env.scope scope own)
    (hg : ∀ (s : Shared) (H : Hp) (C : Addr) (cl : List (Str × Addr)) (fp : List Addr), PMX (X.blk s H scope (compEnvC scope cl C X.env) fp) is tg g)
    (ht : ∀ (s : Shared) (H : Hp) (C : Addr) (cl : List (Str × Addr)) (fp : List Addr), PTs (X.blk s H scope (compEnvC scope cl C X.env) fp) ifs (tOfT X.K X.mg W0 t))
    (he : ∀ (s : Shared) (H : Hp) (C : Addr) (cl : List (Str × Addr)) (fp : List Addr), PM (X.blk s H scope (compEnvC scope cl C X.env) fp) W0 elt e) (his : ∀ i ∈ is, i ∈ own.map (·.2)) (hs : ∀ x, foldedSetIterable iter X.env x = pure x := by intro _; rfl) :
    PM X W (.ListComp elt [⟨tg, iter, ifs, 0⟩] scope pos) (mLc mi g t e (own.map (·.2))) :=
  PE.imp (pe_lc hc hN hi ok hg ht he hs) fun σ H Q ⟨w, dσ, S, A, R, P⟩ => ⟨w, dσ, S, A, R, P.bind fun src S1 w1 H1 J e1 A1 rj P1 =>
    lc_imp his (fun A' hb _ hpB e' r' ex P' => fin_lst A' hb hpB e' r' ex P') A1 (R.mono e1) rj.1 rj.2 P1⟩
end
end
end L3
namespace L3
open PySem PySem.Spec L2

section
variable {X : Cx} {W : XW} {tg : Expr} {pos : Pos}
theorem PI.imp {iter : Expr} {t t' : TI} (h : PI X tg iter t) (k : ∀ σ H R, t' σ H R → t σ H R) : PI X tg iter t' := ⟨fun pins s σ H R I q => h.run pins s σ H R I (k σ H R q)⟩
def signsOf (z : Str) : List D := z.cps.toList.map fun c => .str ⟨#[c]⟩
def seqSrc (d : D) (S : Store) : Option Src := match d with
  | .str z => if z.length ≤ sizeLine then some ⟨signsOf z, []⟩ else none
  | .tup ds => some ⟨ds, []⟩
  | .ktp ds => some ⟨ds, []⟩
  | .lst ds => some ⟨ds, []⟩
  | .frz ds => some ⟨ds, []⟩
  | .loc l => match S[l]? with
    | some (.lst ds) => some ⟨ds, [(l, .lst ds)]⟩
    | _ => none
  | _ => none
def mSeqI (m : DSt → Store → Res D) (σ : DSt) (S : Store) : Res Src := (m σ S).bind fun d S1 => match seqSrc d S1 with
  | some src => .ok src S1
  | none => .stuck
section
variable {K : PySem.W.Frag} {mg : Str → Option Value} {w : Wd} {H : Hp} {S : Store}
end
/-! ### ranges -/
def rangeD (lo c : Int) (n : Nat) : List D := (List.range n).map fun (i : Nat) => D.int (lo + (i : Int) * c)
theorem rangeD_len (lo c : Int) (n : Nat) : (rangeD lo c n).length = n := by simp [rangeD]
theorem rangeD_get {lo c : Int} {n i : Nat} {d : D} (h : (rangeD lo c n)[i]? = some d) : i < n ∧ d = .int (lo + (i : Int) * c) := by
  unfold rangeD at h
  obtain ⟨h1, h2⟩ := List.getElem?_eq_some_iff.mp h
  simp at h1 h2
  exact ⟨h1, h2.symm⟩
theorem jok_range {K : PySem.W.Frag} {mg : Str → Option Value} {w : Wd} {H : Hp} (lo : Int) (n : Nat) : JOk K mg w H (Itr lo n) ⟨rangeD lo 1 n, []⟩ := by
  intro w' H' S' i e A g
  refine ⟨fun d hd => ?_, fun hl => by show n ≤ i; rw [← rangeD_len lo 1 n]; exact hl⟩
  obtain ⟨h1, rfl⟩ := rangeD_get hd
  refine ⟨h1, fun x H2 ⟨e2, y⟩ => ?_⟩
  subst e2 y
  exact ⟨w', Ex.refl _ _, A, by rw [Int.mul_one]; exact of_int _⟩
def mRng1 (ms : DSt → Store → Res (List D)) (σ : DSt) (S : Store) : Res Src := (ms σ S).bind fun ds S1 => match ds with
  | [.int j] => if j ≤ sizeLine ∧ -(2 ^ 62) ≤ j then .ok ⟨rangeD 0 1 j.toNat, []⟩ S1 else .stuck
  | _ => .stuck
def mRng2 (ms : DSt → Store → Res (List D)) (σ : DSt) (S : Store) : Res Src := (ms σ S).bind fun ds S1 => match ds with
  | [.int i, .int j] => if -(2 ^ 62) ≤ i ∧ i < 2 ^ 62 ∧ -(2 ^ 62) ≤ j ∧ j < 2 ^ 62 ∧ (j - i).toNat ≤ sizeLine then .ok ⟨rangeD i 1 (j - i).toNat, []⟩ S1 else .stuck
  | _ => .stuck
/-- downward by ones -/
def mRng3 (ms : DSt → Store → Res (List D)) (σ : DSt) (S : Store) : Res Src := (ms σ S).bind fun ds S1 => match ds with
  | [.int i, .int j, .int c] => if c = -1 ∧ -(2 ^ 62) ≤ i ∧ i < 2 ^ 62 ∧ -(2 ^ 62) ≤ j ∧ j < 2 ^ 62 ∧ (i - j).toNat ≤ sizeLine then .ok ⟨rangeD i (-1) (i - j).toNat, []⟩ S1 else .stuck
  | _ => .stuck
theorem reps1 {K : PySem.W.Frag} {w : Wd} {H : Hp} {d : D} {vs : List V} (h : Reps K w H [d] vs) : ∃ v, vs = [v] ∧ Rep K w H d v := by
  simp only [Reps] at h
  obtain ⟨v, r, rfl, h1, rfl⟩ := h
  exact ⟨v, rfl, h1⟩
theorem reps2 {K : PySem.W.Frag} {w : Wd} {H : Hp} {d e : D} {vs : List V} (h : Reps K w H [d, e] vs) : ∃ v u, vs = [v, u] ∧ Rep K w H d v ∧ Rep K w H e u := by
  simp only [Reps] at h
  obtain ⟨v, r, rfl, h1, u, r', rfl, h2, rfl⟩ := h
  exact ⟨v, u, rfl, h1, h2⟩
theorem pmi_range1 {a : Expr} {ms : DSt → Store → Res (List D)} {p : Pos} (hg : Gl X "range") (hm : X.mg "range" = none) (ha : PMA X W [a] ms) (hs : starEach [a] X.env = [(false, eval a X.env)] := by rfl) : PMI X W tg (.Call (.Name "range" p) [a] [] pos) (mRng1 ms) := by
  refine PI.imp (pi_range1 hg hm ha hs) fun σ H R ⟨w, dσ, S, A, Rs, P⟩ => ⟨w, dσ, S, A, Rs, P.bind fun ds S1 w1 H1 vs e1 A1 r1 P1 => ?_⟩
  split at P1
  · split at P1
    · rename_i j hz
      obtain ⟨v, rfl, r⟩ := reps1 r1
      refine ⟨j, by rw [rep_int r], hz.2, ?_, P1.fin A1 ⟨jok_range 0 j.toNat, ?_⟩⟩
      · have : (sizeLine : Int) < 2 ^ 62 := by decide
        omega
      · show (rangeD 0 1 j.toNat).length ≤ sizeLine
        rw [rangeD_len]; omega
    · exact P1.elim
  · exact P1.elim
/-! ### enumerate, zip -/
def enumD (k : Nat) : List D → List D
  | [] => []
  | d :: ds => .tup [.int k, d] :: enumD (k + 1) ds
theorem enumD_len : ∀ (k : Nat) (ds : List D), (enumD k ds).length = ds.length
  | _, [] => rfl
  | k, d :: ds => by simp [enumD, enumD_len (k + 1) ds]
theorem enumD_get : ∀ {k i : Nat} {ds : List D} {e : D}, (enumD k ds)[i]? = some e → ∃ d, ds[i]? = some d ∧ e = .tup [.int ((k + i : Nat) : Int), d]
  | _, _, [], _, h => by simp [enumD] at h
  | k, 0, d :: ds, e, h => by
    simp [enumD] at h
    exact ⟨d, by simp, by rw [← h]; rfl⟩
  | k, i + 1, d :: ds, e, h => by
    simp [enumD] at h
    obtain ⟨d', h1, h2⟩ := enumD_get h
    exact ⟨d', by simpa using h1, by rw [h2]; congr 3; omega⟩
def zipD : List D → List D → List D
  | a :: as, b :: bs => .tup [a, b] :: zipD as bs
  | _, _ => []
theorem yldTup {K : PySem.W.Frag} {mg : Str → Option Value} {w : Wd} {H : Hp} {S : Store} (A : Ab K w H mg S) {T : Addr} {x : V} {d e : D} {y : V} (hT : H T = none) (rd : Rep K w H d x) (re : Rep K w H e y) :
    ∃ w2, Ex w H w2 (upd H T (.tup [x, y])) ∧ Ab K w2 (upd H T (.tup [x, y])) mg S ∧ Rep K w2 (upd H T (.tup [x, y])) (.tup [d, e]) (.ref T) :=
  ⟨w, Ex.new hT, A.newF hT, Rep.tupNew A hT (.cons rd (.cons re .nil))⟩
/-- a list that is read -/
def lstSrc (d : D) (S : Store) : Option Src := match d with
  | .lst ds => some ⟨ds, []⟩
  | .frz ds => some ⟨ds, []⟩
  | .loc l => match S[l]? with
    | some (.lst ds) => some ⟨ds, [(l, .lst ds)]⟩
    | _ => none
  | _ => none
theorem lst_st {K : PySem.W.Frag} {mg : Str → Option Value} {w : Wd} {H : Hp} {S : Store} {d : D} {src : Src} {v : V} (A : Ab K w H mg S) (h : lstSrc d S = some src) (r : Rep K w H d v) :
    ∃ a vs, v = .ref a ∧ SqL K H a vs ∧ Reps K w H src.items vs ∧ ∀ w' H' S', ExJ w H w' H' → Ab K w' H' mg S' → gOk src.guard S' → ∃ vs', SqL K H' a vs' ∧ Reps K w' H' src.items vs' := by
  cases d with
  | lst es =>
    simp only [lstSrc, Option.some.injEq] at h
    subst h
    simp only [Rep] at r
    obtain ⟨a, vs, rfl, ⟨n, b, f⟩, r⟩ := r
    exact ⟨a, vs, rfl, .of f, r, fun w' H' S' e A' g => ⟨vs, .of (e.at n b f).2.2, r.monoJ e⟩⟩
  | frz es =>
    simp only [lstSrc, Option.some.injEq] at h
    subst h
    simp only [Rep] at r
    obtain ⟨a, vs, rfl, f, r⟩ := r
    refine ⟨a, vs, rfl, f.sq, r, fun w' H' S' e A' g => ⟨vs, ?_, r.monoJ e⟩⟩
    have f' : FzL K w' H' a vs := f.elim (fun ⟨n, b, f⟩ => .inl (e.rd n b f)) .inr
    exact f'.sq
  | loc l =>
    simp only [lstSrc] at h
    split at h
    · rename_i es q
      simp only [Option.some.injEq] at h
      subst h
      simp only [Rep] at r
      obtain ⟨a, el, rfl⟩ := r
      obtain ⟨u, eu, vs, rfl, r⟩ := A.ob l a _ el q
      refine ⟨a, vs, rfl, .of eu, r, fun w' H' S' e A' g => ?_⟩
      obtain ⟨u', eu', vs', rfl, r'⟩ := A'.ob l a _ (e.get el) (g (l, _) List.mem_cons_self)
      exact ⟨vs', .of eu', r'⟩
    · cases h
  | _ => simp [lstSrc] at h
/-- an argument list, the sizes of what stands told -/
theorem PA.szd {es : List Expr} {t : TA} (h : PA X es t) : PA X es (fun σ H Q => t σ H fun vs H1 => ((∀ a xs, SqL X.K H1 a xs → xs.length ≤ sizeLine) → (∀ a xs, SqT X.K H1 a xs → xs.length ≤ sizeLine) → Q vs H1)) := by
  refine ⟨fun ps pins s σ H Q I q => ?_⟩
  refine thn (h.run ps pins s σ H _ I q) fun us s1 ⟨vs, H1, I1, r1, q1⟩ => ⟨vs, H1, I1, r1, q1 (fun a xs hq => ?_) fun a xs hq => ?_⟩
  · obtain ⟨_, _, _, hz⟩ := I1.list hq
    exact hz
  · obtain ⟨_, _, _, hz⟩ := I1.tuple hq
    exact hz
def mEnum (ms : DSt → Store → Res (List D)) (σ : DSt) (S : Store) : Res Src := (ms σ S).bind fun ds S1 => match ds with
  | [d] => match lstSrc d S1 with
    | some src => .ok ⟨enumD 0 src.items, src.guard⟩ S1
    | none => .stuck
  | _ => .stuck
theorem pmi_enum {e : Expr} {ms : DSt → Store → Res (List D)} {p tpos : Pos} {elts : List Expr} {kk : Nat} (hg : Gl X "enumerate") (hm : X.mg "enumerate" = none) (ha : PMA X W [e] ms) (hs : starEach [e] X.env = [(false, eval e X.env)] := by rfl) :
    PMI X W (.Tuple elts kk tpos) (.Call (.Name "enumerate" p) [e] [] pos) (mEnum ms) := by
  refine PI.imp (pi_enum hg hm (PA.szd ha) hs) fun σ H R ⟨w, dσ, S, A, Rs, P⟩ => ⟨w, dσ, S, A, Rs, P.bind fun ds S1 w1 H1 vs e1 A1 r1 P1 szL szT => ?_⟩
  split at P1
  · split at P1
    · rename_i d _ src hs
      obtain ⟨v, rfl, r⟩ := reps1 r1
      obtain ⟨a, us, rfl, hq, ru, st⟩ := lst_st A1 hs r
      refine ⟨a, us, rfl, hq, P1.fin A1 ⟨fun w' H' S' i e' A' g => ?_, by show (enumD 0 src.items).length ≤ sizeLine; rw [enumD_len, ru.length]; exact szL a us hq⟩⟩
      obtain ⟨us', hq', ru'⟩ := st w' H' S' e' A' g
      refine ⟨fun d' hd => ?_, fun hl => ⟨us', hq', ?_⟩⟩
      · obtain ⟨d'', h1, rfl⟩ := enumD_get hd
        obtain ⟨u, hu, ru''⟩ := ru'.get h1
        refine ⟨⟨us', u, hq', hu⟩, fun x H2 y => ?_⟩
        obtain ⟨T, x', rfl, hT, rfl, f⟩ := y
        have hx := f us' hq'
        rw [hu] at hx
        cases hx
        rw [Nat.zero_add]
        exact yldTup A' hT (of_int _) ru''
      · have : (enumD 0 src.items).length ≤ i := hl
        rw [enumD_len, ru'.length] at this
        exact this
    · exact P1.elim
  · exact P1.elim
def mZip (ms : DSt → Store → Res (List D)) (σ : DSt) (S : Store) : Res Src := (ms σ S).bind fun ds S1 => match ds with
  | [d, e] => match lstSrc d S1, lstSrc e S1 with
    | some s1, some s2 => .ok ⟨zipD s1.items s2.items, s1.guard ++ s2.guard⟩ S1
    | _, _ => match rdT d, rdT e with
      | some a, some b => .ok ⟨zipD a b, []⟩ S1
      | _, _ => .stuck
  | _ => .stuck
end
end L3
namespace L3
open PySem PySem.Spec L2

/-! ### defs -/
/-- a def's promise by a function (nothing is raised) -/
def spD (K : PySem.W.Frag) (mg : Str → Option Value) (n : Nat) (den : List D → Store → Res D) : Sp := fun vs H Q _ => ∃ w ds S, Ab K w H mg S ∧ Reps K w H ds vs ∧ ds.length = n ∧
  (match den ds S with
  | .ok d S' => ∀ w' H' v, Ex w H w' H' → Ab K w' H' mg S' → Rep K w' H' d v → Q v H'
  | _ => False)
def noX {α : Type} (r : Res α) : Res α := match r with
  | .ok a S => .ok a S
  | _ => .stuck
@[simp] theorem noX_ok {α : Type} (a : α) (S : Store) : noX (.ok a S) = .ok a S := (rfl)
@[simp] theorem noX_stuck {α : Type} : noX (.stuck : Res α) = .stuck := (rfl)
@[simp] theorem noX_exc {α : Type} (c : Str) (fs : List (Str × D)) (S : Store) : noX (.exc c fs S : Res α) = .stuck := (rfl)
def mCall (n : Nat) (den : List D → Store → Res D) (ms : DSt → Store → Res (List D)) (σ : DSt) (S : Store) : Res D := (ms σ S).bind fun ds S1 => if ds.length = n then noX (den ds S1) else .stuck
section
variable {X : Cx} {W : XW} {k : Nat} {f : Addr} {fd : FuncData} {ps : List Str} {x m : Str} {p pos apos : Pos} {e o : Expr} {es : List Expr} {den : List D → Store → Res D} {n : Nat}
theorem callP {σ : L2.St} {w : Wd} {H : Hp} {S : Store} {ds : List D} {vs : List V} {Q : VK} (A : Ab X.K w H X.mg S) (r : Reps X.K w H ds vs) (P : Post X.K X.mg (Rep X.K) W σ w H (if ds.length = n then noX (den ds S) else .stuck) Q) : spD X.K X.mg n den vs H Q E0 := by
  split at P
  · rename_i hl
    refine ⟨w, ds, S, A, r, hl, ?_⟩
    cases hd : den ds S with
    | ok d S2 => rw [hd] at P; exact P
    | exc c fs S2 => rw [hd] at P; exact P.elim
    | stuck => rw [hd] at P; exact P.elim
  · exact P.elim
theorem pm_call {ms : DSt → Store → Res (List D)} (F : FnOk X.prog X.w X.K X.mg X.base CX0 k f fd ps (spD X.K X.mg n den)) (hr : Room k X.A) (hg : Gl X x) (hm : X.mg x = some (.ref f)) (hk : PySem.W.keepIn X.K (.ref f) = true) (hb : Binds X.K fd ps [])
    (ha : PMA X W (e :: es) ms) (hdb : (x == ("__debug__" : Str)) = false := by decide) (he : starEach (e :: es) X.env = (false, eval e X.env) :: starEach es X.env := by rfl) (hpl : (backTo pos (starEach es X.env)).any (·.1) = false := by rfl) :
    PM X W (.Call (.Name x p) (e :: es) [] pos) (mCall n den ms) :=
  PE.imp (pe_call F hr hg hm hk hb .nil pass0 ha hdb he hpl) fun σ H Q ⟨w, dσ, S, A, R, P⟩ => ⟨w, dσ, S, A, R, P.bind fun ds S1 w1 H1 vs e1 A1 r1 P1 => by
    rw [List.append_nil]
    exact callP A1 r1 P1⟩
/-- o.m(..) -/
def insOf (S : Store) (d : D) : Option (Str × List (Str × D)) := match d with
  | .loc l => match S[l]? with
    | some (.ins C fs) => some (C, fs)
    | _ => none
  | _ => none
end

/-! ### a def's own promise -/
def denOf (n : Nat) (m : DSt → Store → Res Fl) (ds : List D) (S : Store) : Res D := match m (ds.map some ++ List.replicate (n - ds.length) none) S with
  | .ok (.rt d) S' => .ok d S'
  | .ok (.nx _) S' => .ok .non S'
  | .ok (.ex c fs _) S' => .exc c fs S'
  | _ => .stuck
theorem start_rep {K : PySem.W.Frag} {w : Wd} {H : Hp} {ds : List D} {vs : List V} (r : Reps K w H ds vs) (N : List Str) : RSt K w H (ds.map some ++ List.replicate (N.length - ds.length) none) (L2.start N vs) := by
  have hl := r.length
  unfold L2.start
  refine ⟨by simp [hl], fun i d h => ?_⟩
  by_cases hi : i < ds.length
  · rw [List.getElem?_append_left (by simpa using hi), List.getElem?_map] at h
    cases hd : ds[i]? with
    | none => rw [hd] at h; cases h
    | some d' =>
      rw [hd] at h
      have e : d' = d := by simpa using h
      subst e
      obtain ⟨v, hv, rv⟩ := r.get hd
      exact ⟨v, by rw [List.getElem?_append_left (by simp; omega), List.getElem?_map, hv]; rfl, rv⟩
  · rw [List.getElem?_append_right (by simpa using hi)] at h
    have := List.mem_of_getElem? h
    simp at this
section
variable {P : Program} {w : World} {K : PySem.W.Frag} {mg : Str → Option Value} {base : Heap}
theorem fn_den {x qual : Str} {st : Stmt} {f : Addr} {fd : FuncData} {N ps : List Str} {k : Nat} {m : DSt → Store → Res Fl} (F : Fun K x qual st f fd) (S : FnScope N ps (defScope st))
    (hbody : ∀ (cdv : Value) (A : Around) (outer : List Env) (s : Shared) (H : Hp) (E : XK), Room k (A.deeper (PyProof.Rows.envOfC qual (defScope st) s.heap.objs.size f cdv)) →
      PMSs (cxOf CX0 P w K mg base N qual (defScope st) f cdv A outer s H E).nox W0 (defBody st) m) : FnOk P w K mg base CX0 (k + 1) f fd ps (spD K mg ps.length (denOf N.length m)) := by
  refine F.ok S (fun vs H Q E h => ?_) (fun cdv A outer s H vs Q E hr h => ⟨_, hbody cdv A outer s H E hr, ?_⟩)
  · obtain ⟨w, ds, S, A, r, hl, _⟩ := h
    rw [← r.length]; exact hl
  · obtain ⟨w, ds, S, A, r, hl, P⟩ := h
    refine ⟨w, _, S, A, start_rep r N, ?_⟩
    unfold denOf at P
    split at P
    · rename_i d S' hd
      split at hd
      · rename_i d' S'' hm
        cases hd
        rw [hm]
        exact P
      · rename_i σ' S'' hm
        cases hd
        rw [hm]
        exact fun w' H' σ2 e A' R => P w' H' _ e A' of_non
      · cases hd
      · cases hd
    · exact P.elim
end

/-! ### what a call has made and left behind may be forgotten -/
mutual
def D.sc (n : Nat) : D → Bool
  | .tup ds => D.scs n ds
  | .ktp ds => D.scs n ds
  | .lst ds => D.scs n ds
  | .frz ds => D.scs n ds
  | .loc l => decide (l < n)
  | .exf _ _ _ _ => true
  | .exk _ _ => true
  | _ => true
def D.scs (n : Nat) : List D → Bool
  | [] => true
  | d :: ds => d.sc n && D.scs n ds
end
def scK {κ : Type} (n : Nat) (kvs : List (κ × D)) : Bool := kvs.all fun p => p.2.sc n
def Ob.sc (n : Nat) : Ob → Bool
  | .lst ds => D.scs n ds
  | .dK kvs => scK n kvs
  | .dT kvs => scK n kvs
  | .dN kvs => scK n kvs
  | .ins _ fs => scK n fs
  | .lck o => o.sc n
section
variable {K : PySem.W.Frag} {mg : Str → Option Value} {w w' : Wd} {H H' : Hp}
mutual
theorem rep_sc : ∀ {d : D} {v : V}, Rep K w H d v → d.sc w.M.length = true
  | .non, _, _ => rfl
  | .bl _, _, _ => rfl
  | .int _, _, _ => rfl
  | .str _, _, _ => rfl
  | .tup ds, _, h => by
    simp only [Rep] at h
    obtain ⟨a, vs, rfl, f, r⟩ := h
    simp only [D.sc]
    exact reps_sc r
  | .ktp ds, _, h => by
    simp only [Rep] at h
    obtain ⟨a, vs, rfl, f, r⟩ := h
    simp only [D.sc]
    exact reps_sc r
  | .lst ds, _, h => by
    simp only [Rep] at h
    obtain ⟨a, vs, rfl, f, r⟩ := h
    simp only [D.sc]
    exact reps_sc r
  | .frz ds, _, h => by
    simp only [Rep] at h
    obtain ⟨a, vs, rfl, f, r⟩ := h
    simp only [D.sc]
    exact reps_sc r
  | .loc l, _, h => by
    simp only [Rep] at h
    obtain ⟨a, e, _⟩ := h
    simp only [D.sc]
    exact decide_eq_true (List.getElem?_eq_some_iff.mp e).1
  | .exn _, _, _ => rfl
  | .exf _ _ _ _, _, _ => rfl
  | .exk _ _, _, _ => rfl
theorem reps_sc : ∀ {ds : List D} {vs : List V}, Reps K w H ds vs → D.scs w.M.length ds = true
  | [], _, _ => rfl
  | d :: ds, _, h => by
    simp only [Reps] at h
    obtain ⟨v, r, rfl, h1, h2⟩ := h
    simp only [D.scs, Bool.and_eq_true]
    exact ⟨rep_sc h1, reps_sc h2⟩
end
theorem rkv_sc {κ : Type} : ∀ {kvs : List (κ × D)} {vs : List (κ × V)}, RKv K w H kvs vs → scK w.M.length kvs = true
  | [], _, _ => rfl
  | (j, d) :: kvs, _, h => by
    obtain ⟨v, r, rfl, h1, h2⟩ := h
    have := rkv_sc h2
    unfold scK at this ⊢
    rw [List.all_cons, Bool.and_eq_true]
    exact ⟨rep_sc h1, this⟩
theorem rnv_sc : ∀ {kvs : List (NK × D)} {xs : List (NK × Addr × Value)}, RNv K w H kvs xs → scK w.M.length kvs = true
  | [], _, _ => rfl
  | (j, d) :: kvs, _, h => by
    obtain ⟨p, u, v, r, rfl, h1, h2, h3, h4⟩ := h
    have := rnv_sc h4
    unfold scK at this ⊢
    rw [List.all_cons, Bool.and_eq_true]
    exact ⟨rep_sc h3, this⟩
theorem ints_sc (n : Nat) : ∀ t : List Int, D.scs n (t.map D.int) = true
  | [] => rfl
  | _ :: t => by simp only [List.map_cons, D.scs, D.sc, Bool.true_and]; exact ints_sc n t
theorem nk_sc (n : Nat) (k : NK) : (nkD k).sc n = true := by
  have : ∀ k : NK, D.scs n (k.map fun t => D.tup (t.map D.int)) = true := fun k => by
    induction k with
    | nil => rfl
    | cons t k ih =>
      rw [List.map_cons]
      simp only [D.scs, D.sc, ints_sc, ih, Bool.and_self]
  unfold nkD
  simp only [D.sc]
  exact this k
theorem ho_sc : ∀ {o : Ob} {u : HO}, HoOk K w H mg o u → o.sc w.M.length = true
  | .lst ds, _, h => let ⟨_, _, r⟩ := h; reps_sc r
  | .dK ds, _, h => let ⟨_, _, r⟩ := h; rkv_sc r
  | .dT ds, _, h => let ⟨_, _, r⟩ := h; rkv_sc r
  | .dN ds, _, h => let ⟨_, _, _, r, _⟩ := h; rnv_sc r
  | .ins C ds, _, h => let ⟨_, _, _, _, _, r⟩ := h; rkv_sc r
  | .lck o, _, h => let ⟨_, _, _, r⟩ := h; ho_sc (o := o) r
/-- the later world cut to the earlier one -/
theorem cutL (hM : ∃ t, w'.M = w.M ++ t) (hB : w'.B = w.B) {a : Addr} {xs : List V} (h : FzL K w' H' a xs) : FzL K w H' a xs := by
  obtain ⟨t, ht⟩ := hM
  rcases h with ⟨n, b, h⟩ | h
  · exact .inl ⟨fun z => n (by rw [ht]; exact List.mem_append_left _ z), by rw [← hB]; exact b, h⟩
  · exact .inr h
mutual
theorem rep_cut (hM : ∃ t, w'.M = w.M ++ t) (hB : w'.B = w.B) : ∀ {d : D} {v : V}, Rep K w' H' d v → d.sc w.M.length = true → Rep K w H' d v
  | .non, _, h, _ => by simpa only [Rep] using h
  | .exn _, _, h, _ => by simpa only [Rep] using h
  | .exf _ _ _ _, _, h, _ => by
    obtain ⟨t, ht⟩ := hM
    simp only [Rep] at h ⊢
    exact ⟨h.1, fun z => h.2.1 (by rw [ht]; exact List.mem_append_left _ z), by rw [← hB]; exact h.2.2.1, h.2.2.2⟩
  | .exk c fl, _, h, _ => by
    obtain ⟨t, ht⟩ := hM
    simp only [Rep] at h ⊢
    obtain ⟨a, A, e, g, k⟩ := h
    have q : ∀ {x u}, FzE w' H' x u → FzE w H' x u := fun h => ⟨fun z => h.1 (by rw [ht]; exact List.mem_append_left _ z), by rw [← hB]; exact h.2.1, h.2.2⟩
    refine ⟨a, A, e, g, ?_⟩
    match fl, k with
    | none, k => exact q k
    | some (f, i), ⟨d, k1, k2⟩ => exact ⟨d, q k1, q k2⟩
  | .bl _, _, h, _ => by simpa only [Rep] using h
  | .int _, _, h, _ => by simpa only [Rep] using h
  | .str _, _, h, _ => by simpa only [Rep] using h
  | .tup ds, _, h, s => by
    simp only [Rep] at h ⊢
    simp only [D.sc] at s
    obtain ⟨a, vs, e, ⟨n, b, f⟩, r⟩ := h
    obtain ⟨t, ht⟩ := id hM
    exact ⟨a, vs, e, ⟨fun z => n (by rw [ht]; exact List.mem_append_left _ z), by rw [← hB]; exact b, f⟩, reps_cut hM hB r s⟩
  | .ktp ds, _, h, s => by
    simp only [Rep] at h ⊢
    simp only [D.sc] at s
    obtain ⟨a, vs, e, f, r⟩ := h
    obtain ⟨t, ht⟩ := id hM
    exact ⟨a, vs, e, f.imp_right fun f => f.by fun a u f n b => ⟨fun z => n (by rw [ht]; exact List.mem_append_left _ z), by rw [← hB]; exact b, f⟩, reps_cut hM hB r s⟩
  | .lst ds, _, h, s => by
    simp only [Rep] at h ⊢
    simp only [D.sc] at s
    obtain ⟨a, vs, e, ⟨n, b, f⟩, r⟩ := h
    obtain ⟨t, ht⟩ := id hM
    exact ⟨a, vs, e, ⟨fun z => n (by rw [ht]; exact List.mem_append_left _ z), by rw [← hB]; exact b, f⟩, reps_cut hM hB r s⟩
  | .frz ds, _, h, s => by
    simp only [Rep] at h ⊢
    simp only [D.sc] at s
    obtain ⟨a, vs, e, f, r⟩ := h
    exact ⟨a, vs, e, cutL hM hB f, reps_cut hM hB r s⟩
  | .loc l, _, h, s => by
    simp only [Rep] at h ⊢
    simp only [D.sc] at s
    obtain ⟨a, e, rfl⟩ := h
    obtain ⟨t, ht⟩ := hM
    refine ⟨a, ?_, rfl⟩
    rw [ht, List.getElem?_append_left (of_decide_eq_true s)] at e
    exact e
theorem reps_cut (hM : ∃ t, w'.M = w.M ++ t) (hB : w'.B = w.B) : ∀ {ds : List D} {vs : List V}, Reps K w' H' ds vs → D.scs w.M.length ds = true → Reps K w H' ds vs
  | [], _, h, _ => by simpa only [Reps] using h
  | d :: ds, _, h, s => by
    simp only [Reps] at h ⊢
    simp only [D.scs, Bool.and_eq_true] at s
    obtain ⟨v, r, e, h1, h2⟩ := h
    exact ⟨v, r, e, rep_cut hM hB h1 s.1, reps_cut hM hB h2 s.2⟩
end
theorem rkv_cut {κ : Type} (hM : ∃ t, w'.M = w.M ++ t) (hB : w'.B = w.B) : ∀ {kvs : List (κ × D)} {vs : List (κ × V)}, RKv K w' H' kvs vs → scK w.M.length kvs = true → RKv K w H' kvs vs
  | [], _, h, _ => h
  | (j, d) :: kvs, _, h, s => by
    obtain ⟨v, r, e, h1, h2⟩ := h
    unfold scK at s
    rw [List.all_cons, Bool.and_eq_true] at s
    exact ⟨v, r, e, rep_cut hM hB h1 s.1, rkv_cut hM hB h2 s.2⟩
theorem rnv_cut (hM : ∃ t, w'.M = w.M ++ t) (hB : w'.B = w.B) : ∀ {kvs : List (NK × D)} {xs : List (NK × Addr × Value)}, RNv K w' H' kvs xs → scK w.M.length kvs = true → RNv K w H' kvs xs
  | [], _, h, _ => h
  | (j, d) :: kvs, _, h, s => by
    obtain ⟨p, u, v, r, e, h1, h2, h3, h4⟩ := h
    unfold scK at s
    rw [List.all_cons, Bool.and_eq_true] at s
    exact ⟨p, u, v, r, e, rep_cut hM hB h1 (nk_sc _ _), h2, rep_cut hM hB h3 s.1, rnv_cut hM hB h4 s.2⟩
theorem ho_cut (hM : ∃ t, w'.M = w.M ++ t) (hB : w'.B = w.B) : ∀ {o : Ob} {u : HO}, HoOk K w' H' mg o u → o.sc w.M.length = true → HoOk K w H' mg o u
  | .lst ds, _, h, s => let ⟨vs, e, r⟩ := h; ⟨vs, e, reps_cut hM hB r s⟩
  | .dK ds, _, h, s => let ⟨vs, e, r⟩ := h; ⟨vs, e, rkv_cut hM hB r s⟩
  | .dT ds, _, h, s => let ⟨vs, e, r⟩ := h; ⟨vs, e, rkv_cut hM hB r s⟩
  | .dN ds, _, h, s => let ⟨a, xs, e, r, n⟩ := h; ⟨a, xs, e, rnv_cut hM hB r s, n⟩
  | .ins C ds, _, h, s => let ⟨A, dx, vs, m, e, r⟩ := h; ⟨A, dx, vs, m, e, rkv_cut hM hB r s⟩
  | .lck o, _, h, s => let ⟨od, u', e, r⟩ := h; ⟨od, u', e, ho_cut (o := o) hM hB r s⟩
end
open Classical in
noncomputable def gcD (den : List D → Store → Res D) (ds : List D) (S : Store) : Res D := match den ds S with
  | .ok d S' => if S.length ≤ S'.length ∧ d.sc S.length = true ∧ (∀ i < S.length, S'[i]? = S[i]? ∨ ∃ o, S'[i]? = some o ∧ o.sc S.length = true) then .ok d (S'.take S.length) else .ok d S'
  | r => r
theorem spD_gc {K : PySem.W.Frag} {mg : Str → Option Value} {n : Nat} {den : List D → Store → Res D} {vs : List V} {H : Hp} {Q : VK} {E : XK} (h : spD K mg n (gcD den) vs H Q E) : spD K mg n den vs H Q E := by
  obtain ⟨w, ds, S, A, r, hl, P⟩ := h
  refine ⟨w, ds, S, A, r, hl, ?_⟩
  unfold gcD at P
  cases hd : den ds S with
  | exc c fs S' => rw [hd] at P; exact P
  | stuck => rw [hd] at P; exact P
  | ok d S' =>
    rw [hd] at P
    simp only at P
    by_cases hc : S.length ≤ S'.length ∧ d.sc S.length = true ∧ (∀ i < S.length, S'[i]? = S[i]? ∨ ∃ o, S'[i]? = some o ∧ o.sc S.length = true)
    · rw [if_pos hc] at P
      obtain ⟨hlen, hds, hob⟩ := hc
      intro w' H' v e A' rv
      have hB := e.bk
      obtain ⟨t, ht⟩ := id e.pre
      rw [← A.len] at hds hob
      refine P w H' v ⟨⟨[], by simp⟩, rfl, fun a u ha n => ?_, e.fz⟩ ⟨?_, A.nd, fun a ha hm => ?_, fun a ha => ?_, fun l a o h1 h2 => ?_⟩ (rep_cut e.pre hB rv hds)
      · exact ⟨(e.keep a u ha n).1, n⟩
      · rw [List.length_take, A.len]; omega
      · exact A.bm a ha hm
      · exact A'.bt a (by rw [hB]; exact ha)
      · have hl1 : l < w.M.length := (List.getElem?_eq_some_iff.mp h1).1
        rw [List.getElem?_take_of_lt (by rw [← A.len]; exact hl1)] at h2
        obtain ⟨u, eu, k⟩ := A'.ob l a o (e.get h1) h2
        refine ⟨u, eu, ho_cut e.pre hB k ?_⟩
        rcases hob l hl1 with z | ⟨o', z, s⟩
        · rw [h2] at z
          obtain ⟨u0, _, k0⟩ := A.ob l a o h1 z.symm
          exact ho_sc k0
        · rw [h2] at z
          cases z
          exact s
    · rw [if_neg hc] at P
      exact P
theorem fn_gc {P : Program} {w : World} {K : PySem.W.Frag} {mg : Str → Option Value} {base : Heap} {k : Nat} {f : Addr} {fd : FuncData} {ps : List Str} {n : Nat} {den : List D → Store → Res D} (F : FnOk P w K mg base CX0 k f fd ps (spD K mg n den)) : FnOk P w K mg base CX0 k f fd ps (spD K mg n (gcD den)) :=
  F.imp fun _ _ _ _ h => spD_gc h
theorem gcD_ok {den : List D → Store → Res D} {ds : List D} {S S1 g : Store} {d : D} (h : den ds S = .ok d (S1 ++ g)) (hl : S1.length = S.length) (hd : d.sc S.length = true) (ho : ∀ i < S.length, S1[i]? = S[i]? ∨ ∃ o, S1[i]? = some o ∧ o.sc S.length = true) : gcD den ds S = .ok d S1 := by
  unfold gcD
  rw [h]
  simp only
  have hc : S.length ≤ (S1 ++ g).length ∧ d.sc S.length = true ∧ (∀ i < S.length, (S1 ++ g)[i]? = S[i]? ∨ ∃ o, (S1 ++ g)[i]? = some o ∧ o.sc S.length = true) :=
    ⟨by rw [List.length_append]; omega, hd, fun i hi => by rw [List.getElem?_append_left (by omega)]; exact ho i hi⟩
  rw [if_pos hc, ← hl, List.take_left]
theorem gcD_pure {den : List D → Store → Res D} {ds : List D} {S g : Store} {d : D} (h : den ds S = .ok d (S ++ g)) (hd : d.sc S.length = true) : gcD den ds S = .ok d S := gcD_ok h rfl hd fun _ _ => .inl rfl
end L3
namespace L3
open PySem PySem.Spec L2

/-! ### built-in functions -/
def mCB (g : List D → Store → Res D) (ms : DSt → Store → Res (List D)) (σ : DSt) (S : Store) : Res D := (ms σ S).bind fun ds S1 => g ds S1
def CallD (X : Cx) (W : XW) (f : Value) (g : List D → Store → Res D) : Prop := ∃ r, CallR X f r ∧ ∀ w H S ds vs σ Q, Ab X.K w H X.mg S → Reps X.K w H ds vs → Post X.K X.mg (Rep X.K) W σ w H (g ds S) Q → r vs H Q
section
variable {X : Cx} {W : XW} {x : Str} {p pos cpos apos : Pos} {e o : Expr} {es : List Expr} {g : List D → Store → Res D} {ms : DSt → Store → Res (List D)} {bid T : String}
theorem pm_callB (hc : CallD X W (.builtin bid) g) (hg : Gl X x) (hm : X.mg x = none) (hv : bootBuiltins x = some (.builtin bid)) (ha : PMA X W (e :: es) ms) (hn : x ≠ "__name__" := by decide) (hdb : (x == ("__debug__" : Str)) = false := by decide)
    (he : starEach (e :: es) X.env = (false, eval e X.env) :: starEach es X.env := by rfl) (hpl : (backTo pos (starEach es X.env)).any (·.1) = false := by rfl) : PM X W (.Call (.Name x p) (e :: es) [] pos) (mCB g ms) := by
  obtain ⟨r, h1, h2⟩ := hc
  exact PE.imp (pe_callB h1 hg hm hv ha hn hdb he hpl) fun σ H Q ⟨w, dσ, S, A, R, P⟩ => ⟨w, dσ, S, A, R, P.bind fun ds S1 w1 H1 vs e1 A1 r1 P1 => h2 w1 H1 S1 ds vs σ Q A1 r1 P1⟩
theorem pm_callTy (hc : CallD X W (.type T) g) (hg : Gl X x) (hm : X.mg x = none) (hv : bootBuiltins x = some (.type T)) (ha : PMA X W (e :: es) ms) (hn : x ≠ "__name__" := by decide) (hdb : (x == ("__debug__" : Str)) = false := by decide)
    (he : starEach (e :: es) X.env = (false, eval e X.env) :: starEach es X.env := by rfl) (hpl : (backTo pos (starEach es X.env)).any (·.1) = false := by rfl) : PM X W (.Call (.Name x p) (e :: es) [] pos) (mCB g ms) := by
  obtain ⟨r, h1, h2⟩ := hc
  exact PE.imp (pe_callTy h1 hg hm hv ha hn hdb he hpl) fun σ H Q ⟨w, dσ, S, A, R, P⟩ => ⟨w, dσ, S, A, R, P.bind fun ds S1 w1 H1 vs e1 A1 r1 P1 => h2 w1 H1 S1 ds vs σ Q A1 r1 P1⟩
def lenD (ds : List D) (S : Store) : Res D := match ds with
  | [.str z] => if z.length ≤ sizeLine then .ok (.int z.length) S else .stuck
  | [d] => match seqOf S d with
    | some es => .ok (.int es.length) S
    | none => .stuck
  | _ => .stuck
theorem cd_len : CallD X W (.builtin "len") lenD := by
  refine ⟨_, call_len, fun w H S ds vs σ Q A r P => ?_⟩
  unfold lenD at P
  split at P
  · split at P
    · rename_i z hz
      obtain ⟨v, rfl, r1⟩ := reps1 r
      exact ⟨_, _, rfl, by rw [rep_str r1]; exact ⟨hz, rfl⟩, P.fin A (of_int _)⟩
    · exact P.elim
  · split at P
    · rename_i d hno _ es hs
      obtain ⟨v, rfl, r1⟩ := reps1 r
      unfold seqOf at hs
      split at hs
      · rename_i es' h
        cases hs
        obtain ⟨a, vs, rfl, f, r'⟩ := rdL_rep A h r1
        exact ⟨_, _, rfl, .inl ⟨vs, f, rfl⟩, by rw [← r'.length]; exact P.fin A (of_int _)⟩
      · obtain ⟨a, vs, rfl, f, r'⟩ := rdT_rep hs r1
        exact ⟨_, _, rfl, .inr ⟨vs, f, rfl⟩, by rw [← r'.length]; exact P.fin A (of_int _)⟩
    · exact P.elim
  · exact P.elim
def absD (ds : List D) (S : Store) : Res D := match ds with
  | [.int i] => .ok (.int (if i < 0 then -i else i)) S
  | _ => .stuck
def max2D (ds : List D) (S : Store) : Res D := match ds with
  | [.int i, .int j] => .ok (.int (if j > i then j else i)) S
  | _ => .stuck
theorem cd_max2 (hc : X.calm = true) : CallD X W (.builtin "max") max2D := by
  refine ⟨_, call_max2 hc, fun w H S ds vs σ Q A r P => ?_⟩
  unfold max2D at P
  split at P
  · obtain ⟨v, u, rfl, r1, r2⟩ := reps2 r
    exact ⟨_, _, by rw [rep_int r1, rep_int r2], P.fin A (of_int _)⟩
  · exact P.elim
def min2D (ds : List D) (S : Store) : Res D := match ds with
  | [.int i, .int j] => .ok (.int (if j < i then j else i)) S
  | _ => .stuck
theorem cd_min2 (hc : X.calm = true) : CallD X W (.builtin "min") min2D := by
  refine ⟨_, call_min2 hc, fun w H S ds vs σ Q A r P => ?_⟩
  unfold min2D at P
  split at P
  · obtain ⟨v, u, rfl, r1, r2⟩ := reps2 r
    exact ⟨_, _, by rw [rep_int r1, rep_int r2], P.fin A (of_int _)⟩
  · exact P.elim
def intD (ds : List D) (S : Store) : Res D := match ds with
  | [.int i] => .ok (.int i) S
  | [.bl k] => .ok (.int (if k = true then 1 else 0)) S
  | [.str z] => match PySem.intText? z with
    | some n => if z.length ≤ 640 then .ok (.int n) S else .stuck
    | none => .stuck
  | _ => .stuck
def blsOf : List D → Option (List Bool)
  | [] => some []
  | .bl i :: r => (blsOf r).map (i :: ·)
  | _ => none
def onBls (f : List Bool → D) (ds : List D) (S : Store) : Res D := match ds with
  | [d] => match rdL S d with
    | some es => match blsOf es with
      | some bs => .ok (f bs) S
      | none => .stuck
    | none => .stuck
  | _ => .stuck
/-- list(text) -/
theorem call_list_text (hc : X.calm = true) : CallR X (.type "list") (fun xs H Q => ∃ z : Str, xs = [.str z] ∧ z.length ≤ sizeLine ∧ ∀ l, H l = none → Q (.ref l) (upd H l (.lst (z.cps.toList.map fun c => V.str ⟨#[c]⟩)))) := by
  intro pins s σ H xs us Q I r h
  obtain ⟨z, rfl, hz, q⟩ := h
  obtain ⟨u, rfl, t, rfl⟩ := vals1 r
  have hz' : z.cps.size ≤ sizeLine := hz
  refine PySem.call_list_str (hn := hz') (I.ok.hd hc) z t fun h' tk acc' c' hk hS' hacc => ?_
  have hl : acc'.size = z.cps.size := hacc.1
  have rv : Vals (z.cps.toList.map fun c => V.str ⟨#[c]⟩) acc'.toList := by
    have key : ∀ (cs : List Nat) (vs : List Value), vs.length = cs.length → (∀ (i : Nat) (v : Value), vs[i]? = some v → ∃ c u, cs[i]? = some c ∧ v = .str ⟨#[c]⟩ u) → Vals (cs.map fun c => V.str ⟨#[c]⟩) vs := by
      intro cs
      induction cs with
      | nil => intro vs h _; cases vs with
        | nil => exact .nil
        | cons v vs => simp at h
      | cons c cs ih =>
        intro vs h hv
        cases vs with
        | nil => simp at h
        | cons v vs =>
          obtain ⟨c', u, e1, e2⟩ := hv 0 v (by simp)
          simp at e1
          subst e1
          exact .cons ⟨u, e2⟩ (ih vs (by simpa using h) fun i v' e => by
            obtain ⟨c'', u', e3, e4⟩ := hv (i + 1) v' (by simpa using e)
            exact ⟨c'', u', by simpa using e3, e4⟩)
    refine key _ _ (by simp [hl]) fun i v e => ?_
    have hi : i < acc'.size := by
      have := (List.getElem?_eq_some_iff.mp e).1
      simpa using this
    have hv : acc'[i]? = some v := by simpa using e
    obtain ⟨c, u', hc1, rfl⟩ := hacc.2 i v hv
    exact ⟨c, u', by simpa using hc1, rfl⟩
  exact ⟨.ref _, upd H s.heap.objs.size (.lst (z.cps.toList.map fun c => V.str ⟨#[c]⟩)), I.laid (t' := tk) hk (Nat.le_refl _) ⟨by simpa using hz', acc'.toList, c', rv, by simpa using hS'⟩, rfl, q _ (I.hok.fresh (Nat.le_refl _))⟩
end
end L3
namespace L3
open PySem PySem.Spec L2

section
variable {X : Cx} {W : XW} {x : Str} {p pos cpos apos : Pos} {e o : Expr} {es : List Expr} {ms : DSt → Store → Res (List D)} {T : String}
/-! ### list(..), tuple(..) -/
def itemsOf (S : Store) (d : D) : Option (List D) := match d with
  | .str z => if z.length ≤ sizeLine then some (signsOf z) else none
  | d => seqOf S d
theorem signs_rep {K : PySem.W.Frag} {w : Wd} {H : Hp} : ∀ cs : List Nat, Reps K w H (cs.map fun c => D.str ⟨#[c]⟩) (cs.map fun c => V.str ⟨#[c]⟩)
  | [] => .nil
  | c :: cs => .cons (of_str _) (signs_rep cs)
def listD (mu : Bool) (ds : List D) (S : Store) : Res D := match ds with
  | [d] => match itemsOf S d with
    | some es => if mu = true then .ok (.loc S.length) (S ++ [.lst es]) else .ok (.lst es) S
    | none => .stuck
  | _ => .stuck
theorem newL {K : PySem.W.Frag} {mg : Str → Option Value} {W : XW} {σ : L2.St} {w : Wd} {H : Hp} {S : Store} {Q : VK} {es : List D} {vs : List V} {mu : Bool} (A : Ab K w H mg S) (r : Reps K w H es vs)
    (P : Post K mg (Rep K) W σ w H (if mu = true then .ok (.loc S.length) (S ++ [.lst es]) else .ok (.lst es) S) Q) : ∀ l, H l = none → Q (.ref l) (upd H l (.lst vs)) := by
  intro l hl
  split at P
  · exact P _ _ _ (Ex.newM hl) (newLst A hl r) (Rep.locNew A)
  · exact P w _ _ (Ex.new hl) (A.newF hl) (Rep.lstNew A hl r)
theorem cd_list (hc : X.calm = true) (mu : Bool) : CallD X W (.type "list") (listD mu) := by
  refine ⟨_, call_list_of.or (call_list_text hc), fun w H S ds vs σ Q A r P => ?_⟩
  unfold listD at P
  split at P
  · rename_i d
    obtain ⟨v, rfl, r1⟩ := reps1 r
    split at P
    · rename_i es h1
      unfold itemsOf at h1
      split at h1
      · split at h1
        · rename_i z hz
          cases h1
          exact .inr ⟨z, by rw [rep_str r1], hz, newL A (signs_rep _) P⟩
        · cases h1
      · unfold seqOf at h1
        split at h1
        · rename_i h2
          cases h1
          obtain ⟨a, us, rfl, f, r'⟩ := rdL_rep A h2 r1
          exact .inl ⟨a, us, rfl, .inl f, newL A r' P⟩
        · obtain ⟨a, us, rfl, f, r'⟩ := rdT_rep h1 r1
          exact .inl ⟨a, us, rfl, .inr f, newL A r' P⟩
    · exact P.elim
  · exact P.elim
def tupleD (ds : List D) (S : Store) : Res D := match ds with
  | [d] => match rdL S d with
    | some es => .ok (.tup es) S
    | none => match d with
      | .tup es => .ok (.tup es) S
      | _ => .stuck
  | _ => .stuck
/-! ### isinstance(x, a built-in class) -/
def tyName (S : Store) : D → Option String
  | .non => some "NoneType"
  | .bl _ => some "bool"
  | .int _ => some "int"
  | .str _ => some "str"
  | .tup _ => some "tuple"
  | .ktp _ => some "tuple"
  | .lst _ => some "list"
  | .frz _ => none
  | .loc l => match S[l]? with
    | some (.lst _) => some "list"
    | some (.dK _) => some "dict"
    | some (.dT _) => some "dict"
    | _ => none
  | .exn _ => none
  | .exf _ _ _ _ => none
  | .exk _ _ => none
def isiD (T : String) (d : D) (S : Store) : Res D := match tyName S d with
  | some n => match kitB n T with
    | some b => .ok (.bl b) S
    | none => .stuck
  | none => .stuck
/-- the receiver is of the type -/
def tyOk (T : String) (S : Store) (d : D) : Bool := match d with
  | .str _ => T == "str"
  | .lst _ => T == "list"
  | .frz _ => T == "list"
  | .loc l => match S[l]? with
    | some (.lst _) => T == "list"
    | some (.dK _) => T == "dict"
    | some (.dT _) => T == "dict"
    | _ => false
  | _ => false
def mBM (T : String) (g : D → List D → Store → Res D) (mo : DSt → Store → Res D) (ms : DSt → Store → Res (List D)) (σ : DSt) (S : Store) : Res D :=
  (mo σ S).bind fun d S1 => if tyOk T S1 d = true then (ms σ S1).bind fun ds S2 => g d ds S2 else .stuck
/-- a mutable list -/
def mutL (S : Store) : D → Option (Nat × List D)
  | .loc l => match S[l]? with
    | some (.lst ds) => some (l, ds)
    | _ => none
  | _ => none
def appendD (d : D) (ds : List D) (S : Store) : Res D := match mutL S d, ds with
  | some (l, es), [e] => if es.length < sizeLine then .ok .non (S.set l (.lst (es ++ [e]))) else .stuck
  | _, _ => .stuck
def extendD (d : D) (ds : List D) (S : Store) : Res D := match mutL S d, ds with
  | some (l, es), [e] => match exL S e with
    | some fs => if es.length + fs.length ≤ sizeLine then .ok .non (S.set l (.lst (es ++ fs))) else .stuck
    | none => .stuck
  | _, _ => .stuck
def popD (d : D) (ds : List D) (S : Store) : Res D := match mutL S d, ds with
  | some (l, es), [] => match es[es.length - 1]? with
    | some e => .ok e (S.set l (.lst es.dropLast))
    | none => .stuck
  | some (l, es), [.int i] => if -(2 ^ 63) ≤ i ∧ i < 2 ^ 63 then (match seqIndex? i es.length with
    | some k => match es[k]? with
      | some e => .ok e (S.set l (.lst (es.eraseIdx k)))
      | none => .stuck
    | none => .stuck) else .stuck
  | _, _ => .stuck
/-! ### a text times an int; a text backwards -/
def repS (z : Str) (n : Nat) : Str := ⟨(List.replicate n z.cps.toList).flatten.toArray⟩
def mulX (d e : D) (S : Store) : Res D := match d, e with
  | .str z, .int i => if -(2 ^ 63) ≤ i ∧ i < 2 ^ 63 ∧ z.length * i.toNat ≤ 16777216 then .ok (.str (repS z i.toNat)) S else .stuck
  | d, e => mulD d e S
end
end L3
namespace L3
open PySem PySem.Spec L2
def revS (z : Str) : Str := ⟨z.cps.toList.reverse.toArray⟩
def revD (d : D) (S : Store) : Res D := match d with
  | .str z => if z.length ≤ sizeLine then .ok (.str (revS z)) S else .stuck
  | d => match rdL S d with
    | some ds => .ok (.lst ds.reverse) S
    | none => .stuck
section
variable {X : Cx} {W : XW} {pos : Pos} {elt tg iter : Expr} {ifs : List Expr} {scope : Scope} {own : List (Str × Nat)} {mi : DSt → Store → Res Src} {g : D → DSt → Store → Res DSt} {t : DSt → Store → Res Bool} {e : DSt → Store → Res D} {is : List Nat}
end
theorem bb_len : bootBuiltins "len" = some (.builtin "len") := by decide +kernel
theorem bb_max : bootBuiltins "max" = some (.builtin "max") := by decide +kernel
theorem bb_min : bootBuiltins "min" = some (.builtin "min") := by decide +kernel
theorem bb_isinstance : bootBuiltins "isinstance" = some (.builtin "isinstance") := by decide +kernel
theorem bb_list : bootBuiltins "list" = some (.type "list") := by decide +kernel
end L3
namespace L3
open PySem PySem.Spec L2
/-! ### the law's own promise -/
/-- at a script of ints the law says True -/
def Says (den : List D → Store → Res D) : Prop := ∀ ns : List Int, ns.length ≤ 63 → ∃ S', den [.frz (ns.map D.int)] [] = .ok (.bl true) S'
def spOut (K : PySem.W.Frag) (den : List D → Store → Res D) : Sp := fun vs H Q E => ∀ mg, spD K mg 1 den vs H Q E
theorem FnOk.out {P : Program} {w : World} {K : PySem.W.Frag} {mg : Str → Option Value} {base : Heap} {k : Nat} {f : Addr} {fd : FuncData} {ps : List Str} {den : List D → Store → Res D} (F : FnOk P w K mg base CX0 k f fd ps (spD K mg 1 den)) :
    FnOk P w K mg base CX0 k f fd ps (spOut K den) := F.imp fun _ _ _ _ h => h mg
theorem reps_ints {K : PySem.W.Frag} {w : Wd} {H : Hp} : ∀ ns : List Int, Reps K w H (ns.map D.int) (ns.map V.int)
  | [] => .nil
  | n :: ns => .cons rfl (reps_ints ns)
theorem says_out {K : PySem.W.Frag} {den : List D → Store → Res D} (h : Says den) {H : Hp} {a : Addr} {ns : List Int} (hl : ns.length ≤ 63) (hS : SqL K H a (ns.map V.int)) : spOut K den [.ref a] H (fun v _ => v = .bl true) E0 := by
  intro mg
  obtain ⟨S', e⟩ := h ns hl
  refine ⟨⟨[], []⟩, [.frz (ns.map D.int)], [], ⟨rfl, List.nodup_nil, fun _ h => (List.not_mem_nil h).elim, fun _ h => (List.not_mem_nil h).elim, fun l a o h => by simp at h⟩, .cons ⟨a, _, rfl, ?_, reps_ints ns⟩ .nil, rfl, ?_⟩
  · rcases hS with h | h
    · exact .inl ⟨List.not_mem_nil, List.not_mem_nil, h⟩
    · exact .inr (.inr h)
  · rw [e]
    exact fun w' H' v _ _ r => r
end L3
namespace L3
open PySem PySem.Spec L2

/-! ### in, not in; how often a text stands in a text -/
section
variable {X : Cx} {W : XW}
end
end L3
namespace L3
open PySem PySem.Spec L2

/-! ### texts cut up; the greatest of a list -/
section
variable {X : Cx} {W : XW}
end
end L3
namespace L3
open PySem PySem.Spec L2

/-! ### sorted(list) -/
def encD (d : D) : PyData := (toPy d).getD .none
noncomputable def dLe (a b : D) : Bool := PySem.W.dataLe false encD a b
/-- things that can be put in order -/
def Srt (es : List D) : Prop := (∃ ps, toPys es = some ps) ∧ PySem.W.AllAlike (es.map encD) ∧ PySem.W.Sortable (es.map encD) ∧ ∀ d ∈ es, (encD d).depth ≤ 60
open Classical in
noncomputable def sortedD (ds : List D) (S : Store) : Res D := match ds with
  | [d] => match rdL S d with
    | some es => if Srt es ∧ es.length ≤ sizeLine then .ok (.lst (es.mergeSort dLe)) S else .stuck
    | none => .stuck
  | _ => .stuck
section
variable {K : PySem.W.Frag} {w : Wd} {H : Hp}
end
end L3
namespace L3
open PySem PySem.Spec L2

/-! ### walking over a dict: it is locked meanwhile -/
def Ob.isDct : Ob → Bool
  | .dK _ => true
  | .dT _ => true
  | .dN _ => true
  | _ => false
open Classical in
/-- what the expression md tells (nothing else happens), if it is a dict of the store -/
noncomputable def dctAt (md : DSt → Store → Res D) (σ : DSt) (S : Store) : Option (Nat × Ob) := match md σ S with
  | .ok (.loc l) S1 => if S1 = S then (match S[l]? with
    | some o => if o.isDct = true then some (l, o) else none
    | none => none) else none
  | _ => none
open Classical in
noncomputable def lockE (md m : DSt → Store → Res D) (σ : DSt) (S : Store) : Res D := match dctAt md σ S with
  | some (l, o) => match m σ (S.set l (.lck o)) with
    | .ok d S' => if S'[l]? = some (.lck o) then .ok d (S'.set l o) else .stuck
    | _ => .stuck
  | none => m σ S
open Classical in
noncomputable def lockS (md : DSt → Store → Res D) (m : DSt → Store → Res Fl) (σ : DSt) (S : Store) : Res Fl := match dctAt md σ S with
  | some (l, o) => match m σ (S.set l (.lck o)) with
    | .ok (.ex _ _ _) _ => .stuck
    | .ok fl S' => if S'[l]? = some (.lck o) then .ok fl (S'.set l o) else .stuck
    | _ => .stuck
  | none => m σ S
section
variable {K : PySem.W.Frag} {mg : Str → Option Value} {w : Wd} {H : Hp} {S : Store}
/-- writing at a mutable object's place leaves what data stand for -/
theorem Rep.wrM {a : Addr} {o : HO} (hm : a ∈ w.M) {d : D} {v : V} (h : Rep K w H d v) : Rep K w (upd H a o) d v := by
  have ne : ∀ {b : Addr}, b ∉ w.M → b ≠ a := fun n z => n (by rw [z]; exact hm)
  refine h.gen (fun b xs ⟨n, c, f⟩ => ⟨n, c, by rw [upd_ne (ne n)]; exact f⟩) (fun b xs f => ?_) (fun b xs ⟨n, c, f⟩ => ⟨n, c, by rw [upd_ne (ne n)]; exact f⟩) (fun b xs f => f.by fun a u f n c => ⟨n, c, by rw [upd_ne (ne n)]; exact f⟩) (fun b _ ⟨n, c, f⟩ => ⟨n, c, by rw [upd_ne (ne n)]; exact f⟩) fun _ _ q => q
  rcases f with ⟨n, c, f | ⟨o', f⟩⟩ | f
  · exact .inl ⟨n, c, .inl (by rw [upd_ne (ne n)]; exact f)⟩
  · exact .inl ⟨n, c, .inr ⟨o', by rw [upd_ne (ne n)]; exact f⟩⟩
  · exact .inr f
theorem Reps.wrM {a : Addr} {o : HO} (hm : a ∈ w.M) : ∀ {ds : List D} {vs : List V}, Reps K w H ds vs → Reps K w (upd H a o) ds vs
  | [], _, h => by simpa only [Reps] using h
  | d :: ds, _, h => by
    simp only [Reps] at h
    obtain ⟨v, r, rfl, h1, h2⟩ := h
    exact .cons (h1.wrM hm) (Reps.wrM hm h2)
theorem HoOk.wrM {a : Addr} {o : HO} (hm : a ∈ w.M) {ob : Ob} {u : HO} (h : HoOk K w H mg ob u) : HoOk K w (upd H a o) mg ob u := h.gen (fun _ _ r => r.wrM hm) fun _ _ r => r.wrM hm
theorem Ab.put (A : Ab K w H mg S) {l : Nat} {a : Addr} {o : HO} {ob : Ob} (hm : w.M[l]? = some a) (k : HoOk K w H mg ob o) : Ab K w (upd H a o) mg (S.set l ob) := by
  have hmem : a ∈ w.M := List.mem_of_getElem? hm
  refine ⟨by simp [A.len], A.nd, A.bm, fun b hb => ?_, fun l' a' ob' h1 h2 => ?_⟩
  · obtain ⟨u, e⟩ := A.bt b hb
    exact ⟨u, by rw [upd_ne (fun z : b = a => A.bm b hb (by rw [z]; exact hmem))]; exact e⟩
  by_cases hl : l' = l
  · subst hl
    rw [hm] at h1; cases h1
    have : l' < S.length := by rw [← A.len]; exact (List.getElem?_eq_some_iff.mp hm).1
    rw [List.getElem?_set_self this] at h2
    cases h2
    exact ⟨o, upd_same, k.wrM hmem⟩
  · rw [List.getElem?_set_ne (Ne.symm hl)] at h2
    obtain ⟨u, e, k'⟩ := A.ob l' a' ob' h1 h2
    have hne : a' ≠ a := fun z => by
      subst z
      obtain ⟨q1, q2⟩ := List.getElem?_eq_some_iff.mp h1
      obtain ⟨q3, q4⟩ := List.getElem?_eq_some_iff.mp hm
      exact hl ((List.getElem_inj A.nd).mp (q2.trans q4.symm))
    exact ⟨u, by rw [upd_ne hne]; exact e, k'.wrM hmem⟩
end
section
variable {X : Cx} {W : XW}
theorem PE.or {e : Expr} {t1 t2 : TE} (h1 : PE X e t1) (h2 : PE X e t2) : PE X e (fun σ H Q => t1 σ H Q ∨ t2 σ H Q) := ⟨fun pins s σ H Q I h => h.elim (h1.run pins s σ H Q I) (h2.run pins s σ H Q I)⟩
theorem PS.or {e : Stmt} {t1 t2 : TS} (h1 : PS X e t1) (h2 : PS X e t2) : PS X e (fun D σ H => t1 D σ H ∨ t2 D σ H) := ⟨fun pins s σ H Q I h => h.elim (h1.run pins s σ H Q I) (h2.run pins s σ H Q I)⟩
end
end L3
namespace L3
open PySem PySem.Spec L2

/-! ### the keys of a locked dict -/
def keyD : Key → D
  | .inl i => .int i
  | .inr x => .str x
def keysD (k : List Key) : D := .tup (k.map keyD)
section
variable {K : PySem.W.Frag} {mg : Str → Option Value} {w : Wd} {H : Hp} {S : Store}
end
theorem PI.or {X : Cx} {tg e : Expr} {t1 t2 : TI} (h1 : PI X tg e t1) (h2 : PI X tg e t2) : PI X tg e (fun σ H R => t1 σ H R ∨ t2 σ H R) := ⟨fun pins s σ H R I h => h.elim (h1.run pins s σ H R I) (h2.run pins s σ H R I)⟩
end L3
namespace L3
open PySem PySem.Spec L2

/-! ### dict(pairs) with tuple keys -/
structure Ent where
  p : Addr
  k : List Key
  b : Addr
  v : V
section
variable {X : Cx} {pins : List (Addr × Obj)} {σ : L2.St} {H : Hp} {s : Shared}
end
end L3
namespace L3
open PySem PySem.Spec L2

section
variable {K : PySem.W.Frag} {w : Wd} {H : Hp}
end
theorem RKv.mono {κ : Type} {K : PySem.W.Frag} {w w' : Wd} {H H' : Hp} (e : Ex w H w' H') : ∀ {kvs : List (κ × D)} {vs : List (κ × V)}, RKv K w H kvs vs → RKv K w' H' kvs vs
  | [], _, h => h
  | (k, d) :: kvs, _, h => by
    simp only [RKv] at h ⊢
    obtain ⟨v, r, rfl, r1, r2⟩ := h
    exact ⟨v, r, rfl, r1.mono e, RKv.mono e r2⟩
/-- d.get(k), d.get(k, x) -/
def isDl (S : Store) : D → Bool
  | .loc l => match S[l]? with
    | some o => (obK o).isSome || (obT o).isSome
    | none => false
  | _ => false
def mGet1 (mo mk : DSt → Store → Res D) (σ : DSt) (S : Store) : Res D := (mo σ S).bind fun d S1 => if isDl S1 d = true then (mk σ S1).bind fun k S2 => match dlook S2 d k with
  | some (some v) => .ok v S2
  | some none => .ok .non S2
  | none => .stuck else .stuck
def mGet2 (mo mk mx : DSt → Store → Res D) (σ : DSt) (S : Store) : Res D := (mo σ S).bind fun d S1 => if isDl S1 d = true then (mk σ S1).bind fun k S2 => (mx σ S2).bind fun x S3 => match dlook S3 d k with
  | some (some v) => .ok v S3
  | some none => .ok x S3
  | none => .stuck else .stuck
section
variable {X : Cx} {W : XW}
end
end L3
namespace L3
open PySem PySem.Spec L2

section
variable {X : Cx} {pins : List (Addr × Obj)} {σ : L2.St} {H : Hp} {s : Shared} {d : Addr} {o : Obj}
end
section
variable {K : PySem.W.Frag} {mg : Str → Option Value} {w : Wd} {H : Hp} {S : Store}
end
end L3
namespace L3
open PySem PySem.Spec L2
/-! ### tuples of the module -/
def KRep (K : PySem.W.Frag) (d : D) (v : V) : Prop := ∀ w H, Rep K w H d v
def KReps (K : PySem.W.Frag) (ds : List D) (vs : List V) : Prop := ∀ w H, Reps K w H ds vs
theorem KReps.nil {K : PySem.W.Frag} : KReps K [] [] := fun _ _ => .nil
theorem KReps.cons {K : PySem.W.Frag} {d : D} {v : V} {ds : List D} {vs : List V} (h : KRep K d v) (t : KReps K ds vs) : KReps K (d :: ds) (v :: vs) := fun w H => .cons (h w H) (t w H)
end L3
namespace L3
open PySem PySem.Spec L2
/-! ### new lists that are handed back and change no more: they freeze -/
def fzD (S : Store) (n : Nat) : Nat → D → Option D
  | 0, d => if d.sc n = true then some d else none
  | k + 1, d => if d.sc n = true then some d else match d with
    | .loc l => match S[l]? with
      | some (.lst ds) => (ds.mapM (fzD S n k)).map D.lst
      | _ => none
    | .tup ds => (ds.mapM (fzD S n k)).map D.tup
    | .lst ds => (ds.mapM (fzD S n k)).map D.lst
    | _ => none
section
variable {K : PySem.W.Frag} {mg : Str → Option Value} {w w' : Wd} {H' : Hp} {S' : Store}
end
/-- what stood before stands, or is of what stood before -/
def Kept (S S' : Store) : Prop := S.length ≤ S'.length ∧ ∀ i < S.length, S'[i]? = S[i]? ∨ ∃ o, S'[i]? = some o ∧ o.sc S.length = true
theorem Ab.cut {K : PySem.W.Frag} {mg : Str → Option Value} {w w' : Wd} {H H' : Hp} {S S' : Store} (A : Ab K w H mg S) (A' : Ab K w' H' mg S') (e : Ex w H w' H') (hk : Kept S S') : Ex w H w H' ∧ Ab K w H' mg (S'.take S.length) := by
  obtain ⟨hlen, hob⟩ := hk
  have hB := e.bk
  obtain ⟨t, ht⟩ := id e.pre
  rw [← A.len] at hob
  refine ⟨⟨⟨[], by simp⟩, rfl, fun a u ha n => ⟨(e.keep a u ha n).1, n⟩, e.fz⟩, ⟨?_, A.nd, fun a ha hm => A.bm a ha hm, fun a ha => A'.bt a (by rw [hB]; exact ha), fun l a o h1 h2 => ?_⟩⟩
  · rw [List.length_take, A.len]; omega
  · have hl1 : l < w.M.length := (List.getElem?_eq_some_iff.mp h1).1
    rw [List.getElem?_take_of_lt (by rw [← A.len]; exact hl1)] at h2
    obtain ⟨u, eu, k⟩ := A'.ob l a o (e.get h1) h2
    refine ⟨u, eu, ho_cut e.pre hB k ?_⟩
    rcases hob l hl1 with z | ⟨o', z, s⟩
    · rw [h2] at z
      obtain ⟨u0, _, k0⟩ := A.ob l a o h1 z.symm
      exact ho_sc k0
    · rw [h2] at z
      cases z
      exact s
open Classical in
noncomputable def gcF (den : List D → Store → Res D) (ds : List D) (S : Store) : Res D := match den ds S with
  | .ok d S' => if Kept S S' then (match fzD S' S.length 8 d with
    | some d' => .ok d' (S'.take S.length)
    | none => .ok d S') else .ok d S'
  | r => r
/-! ### one new object is handed back: it alone is kept -/
def freshL (n : Nat) : D → Option Nat
  | .loc l => if n ≤ l then some l else none
  | .tup ds => ds.findSome? fun d => match d with
    | .loc l => if n ≤ l then some l else none
    | _ => none
  | _ => none
def rm1 (n l : Nat) : D → Option D
  | .loc m => if m = l then some (.loc n) else if m < n then some (.loc m) else none
  | d => if d.sc n = true then some d else none
def rmD (n l : Nat) : D → Option D
  | .tup ds => (ds.mapM (rm1 n l)).map D.tup
  | d => rm1 n l d
section
variable {K : PySem.W.Frag} {mg : Str → Option Value} {w w' : Wd} {H' : Hp} {S' : Store}
end
open Classical in
noncomputable def gcO (den : List D → Store → Res D) (ds : List D) (S : Store) : Res D := match den ds S with
  | .ok d S' => match freshL S.length d with
    | some l => match S'[l]?, rmD S.length l d with
      | some o, some d' => if Kept S S' ∧ S.length ≤ l ∧ o.sc S.length = true then .ok d' (S'.take S.length ++ [o]) else .ok d S'
      | _, _ => .ok d S'
    | none => if Kept S S' ∧ d.sc S.length = true then .ok d (S'.take S.length) else .ok d S'
  | r => r
/-! how they are used -/
theorem Kept.of {S S1 g : Store} (hl : S1.length = S.length) (ho : ∀ i < S.length, S1[i]? = S[i]? ∨ ∃ o, S1[i]? = some o ∧ o.sc S.length = true) : Kept S (S1 ++ g) :=
  ⟨by rw [List.length_append]; omega, fun i hi => by rw [List.getElem?_append_left (by omega)]; exact ho i hi⟩
end L3
namespace L3
open PySem PySem.Spec L2
section
variable {X : Cx} {W : XW}
/-! ### new lists that will be changed: x + y, sorted(x), x[a:b] -/
def addMD (d e : D) (S : Store) : Res D := match exL S d, exL S e with
  | some a, some b => if a.length + b.length ≤ sizeLine then .ok (.loc S.length) (S ++ [.lst (a ++ b)]) else .stuck
  | _, _ => .stuck
open Classical in
noncomputable def sortedMD (ds : List D) (S : Store) : Res D := match ds with
  | [d] => match rdL S d with
    | some es => if Srt es ∧ es.length ≤ sizeLine then .ok (.loc S.length) (S ++ [.lst (es.mergeSort dLe)]) else .stuck
    | none => .stuck
  | _ => .stuck
end
end L3
namespace L3
open PySem PySem.Spec L2
/-! ### o.f = e, o.f += e, x += e -/
def putFD (f : Str) (d : D) : List (Str × D) → List (Str × D)
  | [] => [(f, d)]
  | (g, x) :: r => if g = f then (g, d) :: r else (g, x) :: putFD f d r
section
variable {X : Cx} {W : XW} {o e value : Expr} {f : Str} {pos pos' tpos : Pos}
open Classical in
noncomputable def setFD (cs : List Str) (f : Str) (d o : D) (σ : DSt) (S : Store) : Res Fl := match o with
  | .loc l => match S[l]? with
    | some (.ins C fs) => if C ∈ cs ∧ fs.length < 1000 then .ok (.nx σ) (S.set l (.ins C (putFD f d fs))) else .stuck
    | _ => .stuck
  | _ => .stuck
open Classical in
noncomputable def augFD (cs : List Str) (f : Str) (C : Str) (d o : D) (σ : DSt) (S : Store) : Res Fl := match insOf S o, o with
  | some (C2, fs), .loc l => if C2 = C ∧ C ∈ cs ∧ fs.length < 1000 then .ok (.nx σ) (S.set l (.ins C (putFD f d fs))) else .stuck
  | _, _ => .stuck
open Classical in
noncomputable def mAugF (cs : List Str) (f : Str) (mo mv : DSt → Store → Res D) (σ : DSt) (S : Store) : Res Fl := liftE (mo σ S) σ fun o S1 => match insOf S1 o with
  | some (C, fs) => if C ∈ cs then (match fs.lookup f with
    | some (.int a) => liftE (mv σ S1) σ fun d S2 => match d with
      | .int b => augFD cs f C (.int (a + b)) o σ S2
      | _ => .stuck
    | _ => .stuck) else .stuck
  | none => .stuck
end
def FldIn (K : PySem.W.Frag) (mg : Str → Option Value) (f : Str) (cs : List Str) : Prop := ∀ c ∈ cs, ∃ C, mg c = some (.ref C) ∧ Cls K C ∧ NoAttr K C f
theorem FldIn.nil {K : PySem.W.Frag} {mg : Str → Option Value} {f : Str} : FldIn K mg f [] := fun c h => (List.not_mem_nil h).elim
theorem FldIn.cons {K : PySem.W.Frag} {mg : Str → Option Value} {f c : Str} {C : Addr} {cs : List Str} (h1 : mg c = some (.ref C)) (h2 : Cls K C) (h3 : NoAttr K C f) (h : FldIn K mg f cs) : FldIn K mg f (c :: cs) := fun d hd => by
  rcases List.mem_cons.mp hd with rfl | hd
  · exact ⟨C, h1, h2, h3⟩
  · exact h d hd
end L3
namespace L3
open PySem PySem.Spec L2
section
variable {X : Cx} {W : XW}
end
end L3
namespace L3
open PySem PySem.Spec L2
section
variable {X : Cx} {W : XW}
end
/-! ### a def that is called where nothing is being shown -/
structure FnG (P : Program) (w : World) (K : PySem.W.Frag) (mg : Str → Option Value) (base : Heap) (k : Nat) (f : Addr) (fd : FuncData) (ps : List Str) (sp : Sp) : Prop where
  len : ∀ us H Q E, sp us H Q E → us.length = ps.length
  run : ∀ (A : Around) (fr : List Env) (s : Shared) (H : Hp) (args : Args) (us : List Value) (vs : List V) (Q : VK) (E : XK), A.guards = some [] → Room k A → Env0 P w K mg base A fr s H → BindsTo s fd args (ps.zip us) → Vals vs us → sp vs H Q E →
    codeAny (model P w) A (.call (.ref f) args) (CR CX0 fr P w H s Q E) s
section
variable {P : Program} {w : World} {K : PySem.W.Frag} {mg : Str → Option Value} {base : Heap}
end
end L3
namespace L3
open PySem PySem.Spec L2 PyProof.Rows
section
variable {X : Cx} {W : XW}
end
theorem FnG.out {P : Program} {w : World} {K : PySem.W.Frag} {mg : Str → Option Value} {base : Heap} {k : Nat} {f : Addr} {fd : FuncData} {ps : List Str} {den : List D → Store → Res D} (F : FnG P w K mg base k f fd ps (spD K mg 1 den)) :
    FnG P w K mg base k f fd ps (spOut K den) :=
  ⟨fun us H Q E h => F.len us H Q E (h mg), fun A fr s H args us vs Q E g r e b v h => F.run A fr s H args us vs Q E g r e b v (h mg)⟩
section
variable {P : Program} {w : World} {K : PySem.W.Frag} {mg mb : Str → Option Value} {k : Nat} {fa a : Addr} {fd : FuncData} {x : Str} {sp : Sp} {s : Shared} {vs : List Value} {ns : List Int}
open Classical in
/-- the script alone is seen, if the module does not hold it -/
noncomputable def scriptH (K : PySem.W.Frag) (a : Addr) (vs : List Value) (ns : List Int) : Hp := fun b =>
  if b = a ∧ K.lookup a = none then some (.frz { cls := .type "list", data := .seq vs.toArray } (.lst (ns.map V.int))) else none
end
end L3
namespace L3
open PySem PySem.Spec L2 HT PyProof.Rows PySem.SeqAt PySem.MeetsSeq PySem.MeetsSeq2 PySem.MeetsSeq3
/-! ### t[::-1] of a tuple -/
section
variable {prog : Program} {w : World} {A : Around} {E : Value → Shared → Prop} {s : Shared}
end
end L3
namespace L3
open PySem PySem.Spec L2 PyProof.Rows
/-! ### tuples that are known exactly: tuple(xs), dict(t) -/
section
variable {X : Cx} {W : XW}
def tupleXD (ds : List D) (S : Store) : Res D := match ds with
  | [d] => match rdL S d with
    | some es => .ok (.ktp es) S
    | none => .stuck
  | _ => .stuck
/-- the object stands exactly so -/
def ExT (K : PySem.W.Frag) (H : Hp) (a : Addr) (xs : List V) : Prop := KcT K a xs ∨ ∃ (o : Obj) (its : Array Value) (n : Nat), H a = some (.frz o (.tup xs)) ∧ o.cls = .type "tuple" ∧ o.dict = none ∧ o.data = .seq its n
theorem ExT.at {pins : List (Addr × Obj)} {σ : L2.St} {H : Hp} {s : Shared} (I : Inv X pins σ H s) {a : Addr} {xs : List V} (h : ExT X.K H a xs) :
    ∃ (o : Obj) (its : List Value) (n : Nat), s.heap.get? a = some o ∧ o.cls = .type "tuple" ∧ o.dict = none ∧ o.data = .seq its.toArray n ∧ Vals xs its ∧ xs.length ≤ sizeLine := by
  rcases h with ⟨o, its, n, h1, h2, h3, h4, h5, h6⟩ | ⟨o, its, n, h1, h2, h3, h4⟩
  · exact ⟨o, its.toList, n, I.kIn a o h1, h2, h3, by rw [Array.toArray_toList]; exact h4, h6, by rw [h6.length, Array.length_toList]; exact h5⟩
  · obtain ⟨g, hz, its2, rv, ⟨o2, g2, g3, n2, g4⟩⟩ := (show ObjOk X.prog X.w H s.heap a (.frz o (.tup xs)) from I.hok a _ h1)
    rw [g] at g2
    cases g2
    exact ⟨o, its2, n2, g, h2, h3, g4, rv, hz⟩
open Classical in
theorem list_of {n : Nat} {P : Nat → Value → Prop} (h : ∀ j < n, ∃ u, P j u) : ∃ us : List Value, us.length = n ∧ ∀ j < n, ∃ u, us[j]? = some u ∧ P j u := by
  refine ⟨(List.range n).map fun j => if h : ∃ u, P j u then Classical.choose h else .none, by simp, fun j hj => ?_⟩
  refine ⟨_, by rw [List.getElem?_map, List.getElem?_range hj]; rfl, ?_⟩
  show P j (if h : ∃ u, P j u then Classical.choose h else Value.none)
  rw [dif_pos (h j hj)]
  exact Classical.choose_spec (h j hj)
end
end L3
namespace L3
open PySem PySem.Spec PyProof.Rows L2
/-! ### enumerate of a tuple -/
set_option maxHeartbeats 1000000 in
theorem meets_enum1 {v : Value} {o : Obj} {H : Heap → Prop} (B : Begins v o H) :
    Meets (Builtin.«enumerate.__new__» ⟨[.type "enumerate", v], []⟩) (fun _ R s => H s.heap ∧
      R (.ok (.ret (.ref (s.heap.push o).objs.size))) { s with heap := (s.heap.push o).push { cls := .type "enumerate", data := .fields #[.none, .bool false, .ref s.heap.objs.size, rawInt 0, .none, .none] } }) :=
  .of_wp fun prog w A R s h => by
    obtain ⟨hp, g, d, tk, os⟩ := s; obtain ⟨h1, h⟩ := h
    have hsub := sub_enumerate
    have q1 : ∀ {A' : Around} {E : Value → Shared → Prop} {Q : Value → Shared → Prop}, Q (.ref hp.objs.size) ⟨hp.push o, g, d, tk, os⟩ → wpAny (model prog w) A' (pyIter v) Q E ⟨hp, g, d, tk, os⟩ :=
      fun q => B.iter prog w _ _ ⟨hp, g, d, tk, os⟩ _ h1 q
    wp_walk using q1
    refine wpAny_stack_any fun st => wpAny_pure ?_
    split
    · rename_i c _ _ _ _ _
      cases (c == Value.type "enumerate")
      · wp_walk using q1
        exact ⟨_, rfl, h⟩
      · wp_walk using q1
        exact ⟨_, rfl, h⟩
    · wp_walk using q1
      exact ⟨_, rfl, h⟩
def enumSrc (d : D) (S : Store) : Option Src := match lstSrc d S with
  | some s => some s
  | none => (rdT d).map fun ds => ⟨ds, []⟩
def mEnumA (ms : DSt → Store → Res (List D)) (σ : DSt) (S : Store) : Res Src := (ms σ S).bind fun ds S1 => match ds with
  | [d] => match enumSrc d S1 with
    | some src => .ok ⟨enumD 0 src.items, src.guard⟩ S1
    | none => .stuck
  | _ => .stuck
end L3
namespace L3
open PySem PySem.Spec PyProof.Rows L2
/-! ### is True, is False -/
def isBD (neg : Bool) (d e : D) (S : Store) : Res D := match d, e with
  | .bl a, .bl b => .ok (.bl (xor neg (decide (a = b)))) S
  | _, _ => .stuck
section
variable {X : Cx} {W : XW}
end
/-! ### d.pop(k), d.setdefault(k, v): keys that are tuples -/
section
variable {X : Cx} {W : XW}
def dropD {κ : Type} [DecidableEq κ] (kvs : List (κ × D)) (k : κ) : List (κ × D) := kvs.filter fun kv => decide (kv.1 ≠ k)
theorem RKv.drop {κ : Type} [DecidableEq κ] (k : κ) {K : PySem.W.Frag} {w : Wd} {H : Hp} : ∀ {kvs : List (κ × D)} {vs : List (κ × V)}, RKv K w H kvs vs → RKv K w H (dropD kvs k) (dropK vs k)
  | [], _, h => by simp only [RKv] at h; subst h; rfl
  | (j, d) :: kvs, _, h => by
    obtain ⟨v, us, rfl, h1, h2⟩ := h
    have ih := RKv.drop k h2
    unfold dropD at ih ⊢
    unfold dropK at ih ⊢
    by_cases e : j = k
    · rw [List.filter_cons_of_neg (by simp [e]), List.filter_cons_of_neg (by simp [e])]
      exact ih
    · rw [List.filter_cons_of_pos (by simp [e]), List.filter_cons_of_pos (by simp [e])]
      exact ⟨v, _, rfl, h1, ih⟩
end
end L3
namespace L3
open PySem PySem.Spec PyProof.Rows L2
section
variable {X : Cx} {W : XW}
end
section
variable {X : Cx} {W : XW}
end
end L3
namespace L3
open PySem PySem.Spec PyProof.Rows L2
/-! ### a dict compared with an empty one -/
section
variable {prog : Program} {w : World} {A : Around} {E : Value → Shared → Prop} {s : Shared}
end
section
variable {X : Cx} {W : XW}
end
end L3
namespace L3
open PySem PySem.Spec PyProof.Rows PySem.Calls L2
/-! ### list(..) and sorted(..) of a dict with tuple keys -/
section
variable {prog : Program} {w : World} {A : Around} {E : Value → Shared → Prop} {s : Shared} {Q : Value → Shared → Prop}
end
section
variable {X : Cx} {W : XW}
end
end L3
namespace L3
open PySem PySem.Spec PyProof.Rows L2
section
variable {P : Program} {w : World} {K : PySem.W.Frag} {mg : Str → Option Value} {base : Heap}
end
open Classical in
/-- what a call that raises has made and left behind may be forgotten, too -/
noncomputable def gcX (den : List D → Store → Res D) (ds : List D) (S : Store) : Res D := match den ds S with
  | .exc c fs S' => if fs = [] ∧ Kept S S' then .exc c [] (S'.take S.length) else .exc c fs S'
  | .ok _ _ => gcD den ds S
  | .stuck => .stuck
/-! ### calls of such defs -/
section
variable {X : Cx} {W : XW} {k n : Nat} {f : Addr} {fd : FuncData} {ps : List Str} {den : List D → Store → Res D} {x m : Str} {p pos apos : Pos} {e o : Expr} {es : List Expr}
/-! ### raise -/
theorem pmk_own0 {C : Addr} {bmB : List Value} {B newId initId : String} (F : ExcBaseFacts B newId initId bmB) (q : PySem.W.excIn X.K C bmB newId = true) (gC : X.mg x = some (.ref C)) (kC : PySem.W.keepIn X.K (.ref C) = true) (r : Raises X (.ref C)) (hg : Gl X x)
    (hdb : (x == ("__debug__" : Str)) = false := by decide) : PMk X (.Call (.Name x p) [] [] pos) (fun _ H Q => Q (.ref C) none H) := by
  intro pins s σ H Q I h
  refine wpAny_Call_Name_kw (ld_glob I hg gC ?_ hdb)
  refine PySem.W.callWith_K0 I.kIn kC ?_
  show wpAny _ _ (call (.ref C) []) _ _ _
  obtain ⟨bm, N, nm, qn, bs, hdct, sn, sub, ab, col, dd, k0, k1, k2, k3, k5, mN, hC, hN, hni, T⟩ := exc_obj I.kIn q
  refine wpAny_call_exc_subT F T hC hN hni (fun h' e hm => ?_) (by show 0 ≤ sizeLine; omega)
  exact mk_of I hm r h (I.hok.gone hm.new)
/-- what the module says of an own exception class without an __init__ -/
structure ExcT (K : PySem.W.Frag) (C : Addr) : Prop where
  ex : PySem.W.excIn K C [.type "ValueError", .type "Exception", .type "BaseException", .type "object"] "ValueError.__new__" = true
  kp : PySem.W.keepIn K (.ref C) = true
  bs : PySem.W.subIn K (.ref C) (.type "BaseException") = some true
  ty : PySem.W.typeIn K (.ref C) = some (.type "type")
  ic : ExcC K C
def mRaise (c : Str) (σ : DSt) (S : Store) : Res Fl := .ok (.ex c [] σ) S
/-! ### try .. except X as n -/
/-- behind the suite the name is gone -/
def finT (i : Nat) : Res Fl → Res Fl
  | .ok (.nx σ2) S2 => .ok (.nx (σ2.set i none)) S2
  | .ok (.rt d) S2 => .ok (.rt d) S2
  | _ => .stuck
open Classical in
/-- whatever the exception's address is -/
noncomputable def suiteT (i : Nat) (m : Nat → DSt → Store → Res Fl) (σ : DSt) (S : Store) : Res Fl := if h : ∃ r, ∀ a, finT i (m a (σ.set i (some (.exn a))) S) = r then h.choose else .stuck
theorem lookup_mem {α : Type} {c : Str} {m : α} : ∀ {l : List (Str × α)}, l.lookup c = some m → (c, m) ∈ l
  | [], h => by cases h
  | (d, x) :: l, h => by
    rw [List.lookup_cons] at h
    split at h
    · rename_i hc
      cases h
      rw [eq_of_beq hc]
      exact List.mem_cons_self
    · exact List.mem_cons_of_mem _ (lookup_mem h)
end
section
variable {X : Cx} {W : XW} {D a : Addr} {oe : Obj} {pn : List (Addr × Obj)} {i : Nat} {n tn : Str} {p p1 p2 pos : Pos} {b : Bool} {cv : Value}
end
end L3
namespace L3
open PySem PySem.Spec PyProof.Rows L2
theorem kit_ref {K : PySem.W.Frag} {D C : Addr} {b : Bool} (hc : PySem.W.isClsIn K C = true) (ht : PySem.W.typeIn K (.ref C) = some (.type "type")) (hs : PySem.W.subIn K (.ref C) (.ref C) = some true) (h : PySem.W.subIn K (.ref D) (.ref C) = some b) : PySem.W.kitOne K (.ref D) (.ref C) = some b := by
  unfold PySem.W.kitOne
  by_cases e : ((Value.ref D) == Value.ref C) = true
  · rw [if_pos e]
    have e2 : D = C := Value.ref.inj (beq_iff_eq.mp e)
    subst e2
    rw [hs] at h
    exact h
  · rw [if_neg e]
    unfold PySem.W.kitCls
    simp only
    rw [if_pos (by rw [show (PySem.W.clsIn K C).isSome = true from hc, ht]; rfl)]
    exact h
theorem kit_bt {K : PySem.W.Frag} {D : Addr} {T : String} {b : Bool} (hm : PySem.W.kitMeta T = true) (h : PySem.W.subIn K (.ref D) (.type T) = some b) : PySem.W.kitOne K (.ref D) (.type T) = some b := by
  unfold PySem.W.kitOne
  rw [if_neg (by intro z; cases beq_iff_eq.mp z)]
  unfold PySem.W.kitCls
  simp only
  rw [if_pos hm]
  exact h
section
variable {X : Cx} {W : XW}
end
end L3
namespace L3
open PySem PySem.Spec PyProof.Rows PySem.Calls L2
/-! ### a, b = a list of two -/
section
variable {X : Cx} {W : XW} {pos : Pos}
end
end L3
namespace L3
open PySem PySem.Spec PyProof.Rows PySem.Calls L2
/-! ### sorted(..) of a tuple -/
section
variable {prog : Program} {w : World} {A : Around} {E : Value → Shared → Prop} {s : Shared} {Q : Value → Shared → Prop}
end
open Classical in
noncomputable def sortedTD (ds : List D) (S : Store) : Res D := match ds with
  | [d] => match rdT d with
    | some es => if Srt es ∧ es.length ≤ sizeLine then .ok (.lst (es.mergeSort dLe)) S else .stuck
    | none => .stuck
  | _ => .stuck
end L3
namespace L2
open PySem PySem.Spec PyProof.Rows
end L2
namespace L3
open PySem PySem.Spec L2
section
variable {X : Cx} {W : XW}
end
end L3
set_option maxHeartbeats 4000000
namespace L2
open PySem PySem.Spec PyProof.Rows
section
variable {X : Cx}
end
end L2
namespace L3
open PySem PySem.Spec L2
section
variable {X : Cx} {W : XW}
end
end L3
namespace L2
open PySem PySem.Spec PyProof.Rows
section
variable {X : Cx} {pins : List (Addr × Obj)} {σ : St} {H : Hp} {s : Shared} {a : Addr} {y v : V} {u r : Value} {A : Around} {E : Value → Shared → Prop}
end
end L2
namespace L3
open PySem PySem.Spec L2
section
variable {X : Cx} {W : XW} {pos : Pos}
end
end L3
namespace L3
open PySem PySem.Spec L2
section
variable {X : Cx} {W : XW} {pos : Pos}
/-- a, b, c = x, y, z -/
def mPar3 (i j l : Nat) (ms : DSt → Store → Res (List D)) (σ : DSt) (S : Store) : Res Fl := liftE (ms σ S) σ fun ds S1 => match ds with
  | [a, b, c] => .ok (.nx (((σ.set i (some a)).set j (some b)).set l (some c))) S1
  | _ => .stuck
end
end L3
namespace L3
open PySem PySem.Spec PyProof.Rows L2
/-! ### exceptions with a field -/
/-- __init__(self, n): self.f = n, of an own exception -/
def spXI (K : PySem.W.Frag) (f : Str) : Sp := fun vs H Q E => ∃ (a C : Addr) (v : V), vs = [.ref a, v] ∧ OexC K C ∧ PySem.W.findIn K (.ref C) f = some none ∧ H a = some (exo a C none) ∧ ∀ dx, H dx = none → dx ≠ a → Q .non (upd (upd H dx (exd dx [(f, v)])) a (exo a C (some dx)))
section
variable {P : Program} {w : World} {K : PySem.W.Frag} {mg : Str → Option Value} {base : Heap}
theorem fn_xi {x qual f n : Str} {st : Stmt} {fI : Addr} {fd : FuncData} {k : Nat} (F : Fun K x qual st fI fd) (S : FnScope ["self", n] ["self", n] (defScope st))
    (hbody : ∀ (cdv : Value) (A : Around) (outer : List Env) (s : Shared) (H : Hp) (E : XK), Room k (A.deeper (envOfC qual (defScope st) s.heap.objs.size fI cdv)) →
      PSs (cxOf (L2.CX P w) P w K mg base ["self", n] qual (defScope st) fI cdv A outer s H E) (defBody st) (tOst K f (tVar 0) (tVar 1))) : FnOk P w K mg base (L2.CX P w) (k + 1) fI fd ["self", n] (spXI K f) := by
  refine F.okX S (fun vs H Q E h => ?_) (fun cdv A outer s H vs Q E hr h => ⟨_, hbody cdv A outer s H E hr, ?_⟩)
  · obtain ⟨a, C, v, rfl, _⟩ := h
    rfl
  · obtain ⟨a, C, v, rfl, T, hno, ha, q⟩ := h
    exact ⟨v, rfl, .ref a, rfl, a, C, rfl, T, hno, .inl ⟨ha, fun dx h1 h2 => q dx h1 h2⟩⟩
end
section
variable {X : Cx} {W : XW} {x f n : Str} {e : Expr} {p pos pos' : Pos} {C fI : Addr} {k : Nat} {fd : FuncData}
theorem upd_back {H : Hp} {a dx : Addr} {o1 o2 o3 o4 : HO} (ha : H a = none) (hd : dx ≠ a) : upd (del (upd (upd (upd H a o1) dx o2) a o3) a) dx o4 = upd H dx o4 := by
  funext b
  by_cases h1 : b = dx
  · subst h1; rw [upd_same, upd_same]
  · rw [upd_ne h1, upd_ne h1]
    by_cases h2 : b = a
    · subst h2; rw [del_same, ha]
    · rw [del_ne h2, upd_ne h2, upd_ne h1, upd_ne h2]
end
end L3
set_option maxHeartbeats 4000000
/-! ### isinstance of a caught exception that has its dict -/
namespace PySem.W
open PySem PySem.Spec PySem.Calls PyProof.Rows
section
variable {prog : Program} {w : World} {A : Around} {E : Value → Shared → Prop} {s : Shared} {K : Frag} {x D : Addr} {ox : Obj} {od : Option Obj}
theorem l3_findD {C : Addr} {name : Str} {b g : Value} (hc : (clsIn K C).isSome = true) (hb : findIn K (.ref C) name = some (some b)) (hg : specialIn K b "__get__" = some (some g)) (ht : takesIn K b = some true) : findObj K C od name = some (.bind g b) := by
  obtain ⟨cd, hc⟩ := Option.isSome_iff_exists.mp hc
  unfold findObj; rw [hc, Option.bind_some, hb, Option.bind_some]; simp [hg, ht]
theorem l3_classF {Q : Option Value → Shared → Prop} (T : L2.ExcC K D) (X : K.In s.heap) (J : InstAt s.heap x ox D od) (h : Q (some (.ref D)) { s with toks := s.toks + 1 }) : wpAny (model prog w) A (getAttr? (.ref x) "__class__") Q E s := by
  have hf : findObj K D od "__class__" = some (.bind (.builtin "getset_descriptor.__get__") (.builtin "object.__class__")) := l3_findD (by obtain ⟨c, e, _⟩ := any_some T.hd; rw [e]; rfl) T.ha T.hn T.ht
  obtain ⟨hp, gs, dr, tk, os⟩ := s
  have k0 := J.type (M := model prog w); have k1 := looks_findIn (M := model prog w) X T.hg; have k2 := looks_findIn (M := model prog w) X T.hk; have k3 := looks_find (M := model prog w) X J hf
  have ks : Looks (model prog w) hp (isInstance (.ref x) (.type "BaseException")) true := k0.andThen (looks_subIn X T.hs)
  have z2 : (Value.builtin "BaseException.__getattribute__" == Value.builtin "object.__getattribute__") = false := by decide +kernel
  have z1 : (onTheHeap (Value.ref D) && Value.builtin "BaseException.__getattribute__" == Value.builtin "object.__getattribute__") = false := by rw [z2]; rfl
  have z0 : (false && onTheHeap (Value.builtin "BaseException.__getattribute__")) = false := rfl
  unfold getAttr? getAttrBy? getAttrBy
  refine wpAny_bind (wpAny_mkText (wpAny_bind (wpAny_attempt (wpAny_holding (wpAny_bind (k0.at (wpAny_bind (k1.at ?_))))))))
  show wpAny _ _ (if (onTheHeap (Value.ref D) && Value.builtin "BaseException.__getattribute__" == Value.builtin "object.__getattribute__") = true then _ else _) _ _ _
  rw [z1, if_neg Bool.false_ne_true]; unfold getAttrByItsOwn hookBefore; refine wpAny_bind ?_; rw [if_pos (show onTheHeap (Value.ref D) = true from rfl)]
  refine k2.at (wpAny_bind (wpAny_attempt (wpAny_holding ?_))); unfold callGetattribute; rw [z0, if_neg Bool.false_ne_true]; unfold boundAndCalled
  rw [PySem.F.excAttr_ValueError.ga.bind (.ref x)]; refine wpAny_bind (wpAny_pure ?_)
  show wpAny _ _ (call (.builtin "BaseException.__getattribute__") [.ref x, .str "__class__" tk]) _ _ _
  refine wpAny_call (codeAny_call_builtin PySem.F.excAttr_ValueError.ga.plain PySem.F.entry_bexc_ga (@check_slot (model prog w) _ _ ⟨hp, gs, dr, tk + 1, os⟩ "BaseException.__getattribute__" "BaseException" "__getattribute__" (.ref x) [.str "__class__" tk] [] _ (by decide +kernel) (by decide +kernel) ks (PySem.F.args_bexc_ga (.ref x) (.str "__class__" tk)) ?_))
  unfold Builtin.«object.__getattribute__»
  refine wpAny_bind (wpAny_of_eq (a := ((Value.ref x : Value), [Value.str "__class__" tk])) (by first | rfl | (simp only [slotArgs]; rfl)) (wpAny_bind (wpAny_pure (wpAny_bind (k0.at (wpAny_bind (k3.at ?_)))))))
  show wpAny _ _ (holding [Value.builtin "object.__class__"] (call (.builtin "getset_descriptor.__get__") [.builtin "object.__class__", .ref x, .ref D]) >>= ret) _ _ _
  refine wpAny_bind (wpAny_holding (wpAny_call (class_get (s := ⟨hp, gs, dr, tk + 1, os⟩) (ox := ox) (od := od) X J T.hm (wpAny_pure ?_))))
  show wpAny _ _ (handedOut (.ref D)) _ _ _
  rw [handedOut_of (v := .ref D) rfl]
  first | exact wpAny_pure (wpAny_pure h) | exact wpAny_pure h | exact wpAny_pure (wpAny_bind (wpAny_pure (wpAny_pure h)))
theorem l3_clsat (T : L2.ExcC K D) : ∃ d cd sl c, K.lookup D = some ⟨c, d, .cls cd, sl⟩ := by
  obtain ⟨c, e, _⟩ := any_some T.hd; unfold clsIn at e; split at e
  · rename_i c' d' cd' sl' ho; exact ⟨_, _, _, _, ho⟩
  · cases e
theorem l3_kitx (T : L2.ExcC K D) : KitX K (.ref x) (.ref D) (fun h => InstAt h x ox D od) where
  ty := fun _ _ _ I => I.type
  it := fun M h X _ => by
    obtain ⟨d, cd, sl, c, ho⟩ := l3_clsat T
    intro A' Q' E' s' k q; unfold isType loadHead; exact wpAny_bind (wpAny_loadPart (k _ _ (X _ _ ho)) (wpAny_pure q))
  ne := fun h tp dd its n sl X htp => by
    obtain ⟨d, cd, sl', c, ho⟩ := l3_clsat T
    refine Bool.eq_false_iff.mpr fun q => ?_
    have z : D = tp := Value.ref.inj (beq_iff_eq.mp q); rw [← z, X _ _ ho] at htp; cases htp
  ca := fun X I k => l3_classF T X I k
end
end PySem.W
namespace L3
open PySem PySem.Spec PyProof.Rows L2
/-! ### a suite that holds an exception with its field -/
section
variable {X : Cx} {W : XW} {Cd a dd : Addr} {oe : Obj} {pn : List (Addr × Obj)} {i : Nat} {n tn f : Str} {p p1 p2 pos : Pos} {b : Bool} {cv : Value}
/-- the dict of a caught exception -/
def HasXd (H : Hp) (dd : Addr) : Prop := ∃ fs, H dd = some (.xd fs)
end
end L3
namespace L3
open PySem PySem.Spec PyProof.Rows L2
/-! ### try .. except X as n, where the exception may have a field -/
section
variable {X : Cx} {W : XW} {x : Str} {pos : Pos}
open Classical in
/-- whatever the exception's address is, and its dict's -/
noncomputable def suiteF (i : Nat) (f : Str) (z : Int) (m : Nat → Nat → DSt → Store → Res Fl) (σ : DSt) (S : Store) : Res Fl := if h : ∃ r, ∀ a dd, finT i (m a dd (σ.set i (some (.exf a dd f z))) S) = r then h.choose else .stuck
end
end L3
namespace L3
open PySem PySem.Spec PyProof.Rows L2
/-! ### set(x), by what its update leaves -/
abbrev setNew (w : World) : Obj := { cls := .type "set", dict := none, data := .set #[] 0 (.fresh 0 0 (!w.params.followText "set-order")) }
section
variable {prog : Program} {w : World} {A : Around} {E : Value → Shared → Prop} {s : Shared}
set_option maxHeartbeats 3200000 in
theorem set_call {x : Value} {R : Shared → Prop} {Q : Value → Shared → Prop}
    (up : ∀ E' : Value → Shared → Prop, wpAny (model prog w) A.in1.in1 (Builtin.Frozenset.updateFrom "set.__init__" s.heap.objs.size x) (fun _ s' => R s') E' { s with heap := s.heap.push (setNew w) })
    (fin : ∀ s', R s' → Q (.ref s.heap.objs.size) s') : wpAny (model prog w) A (call (.type "set") [x]) Q E s := by
  obtain ⟨cl, tl, mro⟩ := F.called_set.mro
  have made := F.called_set.made; have sb := F.called_set.sub
  have nt := F.called_set.notType; have cc := F.called_set.canCreate; have ct := F.typeCall_set_1 x
  refine wpAny_call (codeAny_of_tree (show wpAny _ _ (callAny (.type "set") _) _ _ _ from wpAny_pure ⟨Code.quiet_builtin _ (by decide +kernel), codeAny_builtin F.entry_type_call ?_⟩))
  rw [Around.under_plain (weight_type_call_type "set" [x] []) rfl]
  repeat (any_goals (first | assumption | wp_step))
  refine codeAny_mono (code_set_led1 x (E := E) (Q₁ := fun ob s1 => ob = .ref s.heap.objs.size ∧ s1 = { s with heap := s.heap.push (setNew w) }) ⟨rfl, rfl⟩) fun r s1 hr => ?_
  cases r with
  | error e => exact hr
  | ok fl =>
    cases fl with
    | ret ob =>
      obtain ⟨rfl, rfl⟩ := hr
      have ty : Shared.TypeIs { s with heap := s.heap.push (setNew w) } (.ref s.heap.objs.size) "set" := ⟨_, Heap.get?_push_size _ rfl, rfl⟩
      have ho : (s.heap.push (setNew w)).get? s.heap.objs.size = some (setNew w) := Heap.get?_push_size _ rfl
      have il := F.called_set.init.lookup; have ib := F.called_set.init.bind (.ref s.heap.objs.size)
      repeat (any_goals (first | assumption | wp_step))
      refine codeAny_mono (codeAny_call_builtin (R := wants (fun r s2 => r = .none ∧ R s2) E) F.called_set.init.plain F.entry_set_init (check_set_init_1 ty ?_)) fun r2 s2 hr2 => ?_
      · have u1 := up
        unfold Builtin.«set.__init__» noKeywords
        generalize hUF : Builtin.Frozenset.updateFrom = UF at u1 ⊢
        wp_walk
        exact wpAny_mono (u1 _) (fun _ s' h => wpAny_pure ⟨rfl, h⟩) fun _ _ h => h
      · cases r2 with
        | error e => exact hr2
        | ok f2 =>
          cases f2 with
          | ret r =>
            obtain ⟨rfl, hs2⟩ := hr2
            repeat (any_goals (first | assumption | wp_step))
            exact fin _ hs2
          | _ => exact hr2.elim
    | _ => exact hr.elim
end
/-! ### sets of texts -/
def keyX (e : Int × Value) : Str := match e.2 with | .str k _ => k | _ => Str.empty
def EntX (w : World) (e : Int × Value) : Prop := ∃ k tk, e.2 = Value.str k tk ∧ e.1 = hashStr w k
/-- the set at a holds the texts xs, in its table's order -/
def SetX (w : World) (h : Heap) (a : Addr) (xs : List Str) : Prop :=
  ∃ o es ep t, h.get? a = some o ∧ o.ExactSet ∧ o.data = .set es ep t ∧ (∀ e ∈ es.toList, EntX w e) ∧ es.toList.map keyX = xs ∧ xs.Nodup ∧ es.size < scanBound ∧ t.fits es.size = true ∧ Ris t.place.toList ∧ (w.params.followText "set-order" = true ∨ t.led = true)
section
variable {P : Program} {w : World} {A : Around} {E : Value → Shared → Prop} {s : Shared} {a : Addr} {xs : List Str}
theorem SetX.keep {h h' : Heap} (R : SetX w h a xs) (k : ∀ o, h.get? a = some o → h'.get? a = some o) : SetX w h' a xs := by
  obtain ⟨o, es, ep, t, ho, r⟩ := R
  exact ⟨o, es, ep, t, k o ho, r⟩
end
section
variable {X : Cx}
end
end L3
namespace L3
open PySem PySem.Spec PyProof.Rows L2
section
variable {P : Program} {w : World} {A : Around} {E : Value → Shared → Prop} {s : Shared}
end
section
variable {X : Cx}
end
section
variable {P : Program} {w : World} {A : Around} {E : Value → Shared → Prop} {s : Shared}
end
section
variable {K : PySem.W.Frag} {mg : Str → Option Value} {w : Wd} {H : Hp} {S : Store}
end
section
variable {X : Cx} {W : XW} {e : Expr} {p p2 q pos : Pos} {m : DSt → Store → Res D}
end
end L3
namespace L3
open PySem PySem.Spec PyProof.Rows L2
section
variable {X : Cx} {W : XW} {pos : Pos}
end
end L3
namespace L3
open PySem PySem.Spec PyProof.Rows L2
section
variable {X : Cx} {W : XW} {o e : Expr} {es : List Expr} {to : TE} {t : TA} {name : Str} {apos cpos : Pos} {id : String} {r : V → List V → Hp → VK → Prop}
end
end L3
namespace L3
open PySem PySem.Spec PyProof.Rows L2
section
variable {X : Cx} {W : XW}
end
end L3
namespace L3
open PySem PySem.Spec PyProof.Rows L2
section
variable {X : Cx} {W : XW}
end
end L3
namespace L3
open PySem PySem.Spec PyProof.Rows L2
section
variable {X : Cx} {W : XW}
end
end L3
namespace L3
open PySem PySem.Spec PyProof.Rows L2
/-! ### min, max of a tuple of whole numbers -/
section
variable {X : Cx} {W : XW}
end
end L3
namespace L3
open PySem PySem.Spec PyProof.Rows L2
/-! ### dicts whose keys are tuples of tuples of whole numbers -/
def nkN (k : NK) : NestedKey := .tup (k.map fun t => .tup (t.map .num))
theorem num_inj : ∀ {a b : List Int}, a.map NestedKey.num = b.map NestedKey.num → a = b
  | [], [], _ => rfl
  | [], _ :: _, h => by simp at h
  | _ :: _, [], h => by simp at h
  | x :: a, y :: b, h => by
    simp only [List.map_cons, List.cons.injEq, NestedKey.num.injEq] at h
    rw [h.1, num_inj h.2]
theorem tups_inj : ∀ {a b : NK}, a.map (fun t => NestedKey.tup (t.map .num)) = b.map (fun t => NestedKey.tup (t.map .num)) → a = b
  | [], [], _ => rfl
  | [], _ :: _, h => by simp at h
  | _ :: _, [], h => by simp at h
  | x :: a, y :: b, h => by
    simp only [List.map_cons, List.cons.injEq, NestedKey.tup.injEq] at h
    rw [num_inj h.1, tups_inj h.2]
theorem nkN_inj {a b : NK} (h : nkN a = nkN b) : a = b := tups_inj (NestedKey.tup.inj h)
theorem hashes_num (w : World) : ∀ t : List Int, NestedKey.hashes w (t.map .num) = t.map hashInt
  | [] => rfl
  | _ :: t => by simp only [List.map_cons, NestedKey.hashes, NestedKey.hash, hashes_num w t]
theorem hashes_tup (w : World) : ∀ k : NK, NestedKey.hashes w (k.map fun t => .tup (t.map .num)) = k.map fun t => reduceHash (Builtin.Tuple.tupleHashOf (t.map hashInt))
  | [] => rfl
  | _ :: k => by simp only [List.map_cons, NestedKey.hashes, NestedKey.hash, hashes_num, hashes_tup w k]
theorem nkHash_eq (w : World) (k : NK) : (nkN k).hash w = nkHash k := by
  unfold nkN nkHash
  simp only [NestedKey.hash, hashes_tup]
theorem depth_num : ∀ t : List Int, NestedKey.depthAll (t.map .num) = 0
  | [] => rfl
  | _ :: t => by simp only [List.map_cons, NestedKey.depthAll, NestedKey.depth, depth_num t]; rfl
theorem nkN_depth (k : NK) : (nkN k).depth ≤ 8 := by
  have : ∀ k : NK, NestedKey.depthAll (k.map fun t => NestedKey.tup (t.map .num)) ≤ 1 := fun k => by
    induction k with
    | nil => exact Nat.zero_le _
    | cons t k ih =>
      simp only [List.map_cons, NestedKey.depthAll, NestedKey.depth, depth_num]
      omega
  unfold nkN
  simp only [NestedKey.depth]
  have := this k
  omega
/-- the kind of such keys -/
def nkKind (P : Program) (w : World) : HeapKind P w NK where
  is := fun h k a => (nestedKind P w).is h (nkN k) a
  hash := fun k => nkHash k
  draws := fun k => (nestedKind P w).draws (nkN k)
  room := fun A => (nestedKind P w).room A
  inj := fun hx hy => nkN_inj ((nestedKind P w).inj hx hy)
  keeps := fun x ho hd hs => (nestedKind P w).keeps x ho hd hs
  pyHash := fun {A E s k a Q} hu hk h => (nestedKind P w).pyHash hu hk (by
    show Q ((nkN k).hash w) _
    rw [nkHash_eq]
    exact h)
  eqBool := fun {A E s x y a b Q} hu hx hy h => (nestedKind P w).eqBool hu hx hy (by
    have : decide (nkN x = nkN y) = decide (x = y) := by
      rw [Bool.eq_iff_iff, decide_eq_true_eq, decide_eq_true_eq]
      exact ⟨nkN_inj, fun e => by rw [e]⟩
    rw [this]
    exact h)
  quiet := fun hk h => (nestedKind P w).quiet hk h
/-! ### where they lie -/
section
variable {P : Program} {W : World} {H : Hp} {h : Heap} {a b p : Addr} {K : PySem.W.Frag} {w : Wd}
theorem nest_ints : ∀ {t : List Int} {us : List V} {its : List Value}, Reps K w H (t.map D.int) us → Vals us its → NestedAll h (t.map .num) its
  | [], us, its, r, v => by
    simp only [List.map_nil, Reps] at r
    subst r
    cases v
    exact .nil
  | x :: t, us, its, r, v => by
    simp only [List.map_cons, Reps] at r
    obtain ⟨v1, r1, rfl, e1, r2⟩ := r
    have := rep_int e1
    subst this
    cases v with
    | cons q v =>
      obtain ⟨tk, rfl⟩ := q
      exact .cons (.int _ _) (nest_ints r2 v)
theorem nest_tup (ok : HOk P W H h) {t : List Int} {v : V} {u : Value} (r : Rep K w H (.tup (t.map D.int)) v) (q : RelV v u) : NestedIs h (.tup (t.map .num)) u := by
  obtain ⟨c, us, rfl, f, r2⟩ := tup_rep r
  obtain rfl : u = Value.ref c := q
  obtain ⟨_, its, r3, o, h1, h2, n, h3⟩ := (show ObjOk P W H h c (.tup us) from ok c _ f)
  exact .tup h1 h2 h3 (by simpa using nest_ints r2 r3)
theorem nest_tups (ok : HOk P W H h) : ∀ {k : NK} {us : List V} {its : List Value}, Reps K w H (k.map fun t => D.tup (t.map D.int)) us → Vals us its → NestedAll h (k.map fun t => NestedKey.tup (t.map .num)) its
  | [], us, its, r, v => by
    simp only [List.map_nil, Reps] at r
    subst r
    cases v
    exact .nil
  | x :: t, us, its, r, v => by
    simp only [List.map_cons, Reps] at r
    obtain ⟨v1, r1, rfl, e1, r2⟩ := r
    cases v with
    | cons q v => exact .cons (nest_tup ok e1 q) (nest_tups ok r2 v)
/-- such a tuple is a key -/
theorem nk_is (ok : HOk P W H h) {k : NK} (r : Rep K w H (nkD k) (.ref p)) : (nkKind P W).is h k p := by
  unfold nkD at r
  obtain ⟨c, us, e, f, r2⟩ := tup_rep r
  obtain rfl : p = c := V.ref.inj e
  obtain ⟨_, its, r3, o, h1, h2, n, h3⟩ := (show ObjOk P W H h p (.tup us) from ok p _ f)
  exact ⟨.tup h1 h2 h3 (by simpa using nest_tups ok r2 r3), nkN_depth k⟩
theorem nd_addr {xs : List (NK × Addr × Value)} (x : ObjOk P W H h b (NdO a xs)) : a = b := by
  apply Classical.byContradiction
  intro hn
  obtain ⟨⟨hs, o, es, ep, ho, hx, hd, he⟩, _, st⟩ := x
  have := st h (h.update a fun _ => { cls := .none, data := .fields #[] }) ⟨hs, o, es, ep, ho, hx, hd, he⟩ fun o q => by
    rw [Heap.get?_update_other _ _ hn]; exact q
  obtain ⟨_, o', es', ep', ho', hx', _⟩ := this
  rw [Heap.get?_update_self _ ho rfl] at ho'
  cases ho'
  exact nomatch hx'.1
theorem rnv_keys : ∀ {kvs : List (NK × D)} {xs : List (NK × Addr × Value)}, RNv K w H kvs xs → xs.map (·.1) = kvs.map (·.1)
  | [], xs, r => by simp only [RNv] at r; subst r; rfl
  | (k, d) :: kvs, xs, r => by
    obtain ⟨p, u, v, r', rfl, _, _, _, r4⟩ := r
    simp [rnv_keys r4]
theorem rnv_is (ok : HOk P W H h) : ∀ {kvs : List (NK × D)} {xs : List (NK × Addr × Value)}, RNv K w H kvs xs → ∀ x ∈ xs, (nkKind P W).is h x.1 x.2.1
  | [], xs, r, x, hx => by simp only [RNv] at r; subst r; exact (List.not_mem_nil hx).elim
  | (k, d) :: kvs, xs, r, x, hx => by
    obtain ⟨p, u, v, r', rfl, r1, _, _, r4⟩ := r
    rcases List.mem_cons.mp hx with rfl | hx
    · exact nk_is ok r1
    · exact rnv_is ok r4 x hx
/-- what is read as such a dict: it, or the empty one -/
def NdAt (K : PySem.W.Frag) (w : Wd) (H : Hp) (a : Addr) (kvs : List (NK × D)) (xs : List (NK × Addr × Value)) : Prop :=
  ((∃ b, Rd H a (NdO b xs)) ∨ (xs = [] ∧ Rd H a (.dT []))) ∧ RNv K w H kvs xs ∧ (kvs.map (·.1)).Nodup
theorem NdAt.of {kvs : List (NK × D)} {xs : List (NK × Addr × Value)} (r : NdAt K w H a kvs xs) (ok : HOk P W H h) : (a == sysModules) = false ∧ h.DictOfH (nkKind P W) a xs := by
  obtain ⟨r1, r2, r3⟩ := r
  have nd : (xs.map (·.1)).Nodup := by rw [rnv_keys r2]; exact r3
  rcases r1 with ⟨b, rd⟩ | ⟨rfl, rd⟩
  · have x := rd.ok ok
    have := nd_addr x
    subst this
    obtain ⟨⟨hs, o, es, ep, ho, hx, hd, he⟩, _⟩ := x
    exact ⟨hs, o, es, ep, ho, hx, hd, he, rnv_is ok r2, nd⟩
  · obtain ⟨z, hsys, ks, pr, o, es, ep, ho, hx, hdt, he, hn⟩ := (show ObjOk P W H h a (.dT []) from rd.ok ok)
    cases pr
    exact ⟨hsys, o, es, ep, ho, hx, hdt, he, fun _ h => (List.not_mem_nil h).elim, List.nodup_nil⟩
end
/-- the store's object as such a dict -/
def obN : Ob → Option (List (NK × D))
  | .dN kvs => some kvs
  | .lck (.dN kvs) => some kvs
  | .dT [] => some []
  | .lck (.dT []) => some []
  | _ => none
section
variable {K : PySem.W.Frag} {mg : Str → Option Value} {w : Wd} {H : Hp} {S : Store}
def ndOf (S : Store) (d : D) : Option (List (NK × D)) := match d with
  | .loc l => match S[l]? with
    | some o => obN o
    | none => none
  | _ => none
end
section
variable {X : Cx} {W : XW}
end
end L3
namespace L3
open PySem PySem.Spec PyProof.Rows PySem.Calls L2
/-- it may be written -/
def NdW (K : PySem.W.Frag) (w : Wd) (H : Hp) (a : Addr) (kvs : List (NK × D)) (xs : List (NK × Addr × Value)) : Prop :=
  ((∃ b, H a = some (NdO b xs)) ∨ (xs = [] ∧ H a = some (.dT []))) ∧ RNv K w H kvs xs ∧ (kvs.map (·.1)).Nodup
theorem NdW.at {K : PySem.W.Frag} {w : Wd} {H : Hp} {a : Addr} {kvs : List (NK × D)} {xs : List (NK × Addr × Value)} (h : NdW K w H a kvs xs) : NdAt K w H a kvs xs :=
  ⟨h.1.imp (fun ⟨b, e⟩ => ⟨b, .inl e⟩) fun ⟨e, z⟩ => ⟨e, .inl z⟩, h.2⟩
section
variable {X : Cx} {W : XW}
end
section
variable {X : Cx} {W : XW}
end
end L3
namespace L3
open PySem PySem.Spec PyProof.Rows PySem.Calls L2
/-! ### sorted of a dict by its keys, a list of one thing, dict(pairs) with nested keys, its keys walked over -/
section
variable {X : Cx} {W : XW}
open Classical in
noncomputable def sortND (ds : List D) (S : Store) : Res D := match ds with
  | [d] => match ndOf S d with
    | some kvs => if Srt (kvs.map fun kv => nkD kv.1) ∧ kvs.length ≤ sizeLine then .ok (.lst ((kvs.map fun kv => nkD kv.1).mergeSort dLe)) S else .stuck
    | none => .stuck
  | _ => .stuck
def dtOf (S : Store) (d : D) : Option (List (List L2.Key × D)) := match d with
  | .loc l => match S[l]? with
    | some (.dT kvs) => some kvs
    | some (.lck (.dT kvs)) => some kvs
    | _ => none
  | _ => none
open Classical in
/-- sorted(d) of a dict with keys that are tuples of numbers and texts, of any lengths -/
noncomputable def sortTAD (ds : List D) (S : Store) : Res D := match ds with
  | [d] => match dtOf S d with
    | some kvs => if Srt (kvs.map fun kv => keysD kv.1) then .ok (.lst ((kvs.map fun kv => keysD kv.1).mergeSort dLe)) S else .stuck
    | none => .stuck
  | _ => .stuck
end
end L3
namespace L3
open PySem PySem.Spec PyProof.Rows PySem.Calls L2
/-! ### dict(pairs) with nested keys -/
structure EntN where
  p : Addr
  k : NK
  b : Addr
  v : V
section
variable {K : PySem.W.Frag} {w : Wd} {H : Hp}
end
section
variable {X : Cx} {pins : List (Addr × Obj)} {σ : L2.St} {H : Hp} {s : Shared} {w : Wd}
end
section
variable {X : Cx} {W : XW}
end
end L3
namespace L3
open PySem PySem.Spec PyProof.Rows PySem.Calls L2 PySem.W PySem.SeqAt
/-! ### sorted of tuples, empty ones among them -/
section
variable {prog : Program} {w : World} {A : Around} {E : Value → Shared → Prop} {s : Shared}
end
section
variable {M : Model} {A : Around} {E : Value → Shared → Prop} {s : Shared}
end
def Tups (ds : List PyData) : Prop := ∀ d, d ∈ ds → ∃ xs, d = .tuple xs
section
variable {prog : Program} {w : World} {A : Around} {s : Shared}
end
section
variable {prog : Program} {w : World} {A : Around} {E : Value → Shared → Prop} {s : Shared} {β : Type} {vs : List Value} {bs : List β} {enc : β → PyData} {R : Value → β → Prop}
end
/-! as called -/
/-- tuples that can be put in order -/
def SrtG (es : List D) : Prop := (∃ ps, toPys es = some ps) ∧ AllAlike (es.map encD) ∧ Tups (es.map encD) ∧ ∀ d ∈ es, (encD d).depth ≤ 60
open Classical in
/-- sorted of a list or a tuple of tuples of any lengths -/
noncomputable def sortGD (ds : List D) (S : Store) : Res D := match ds with
  | [d] => match rdL S d with
    | some es => if SrtG es ∧ es.length ≤ sizeLine then .ok (.lst (es.mergeSort dLe)) S else .stuck
    | none => match rdT d with
      | some es => if SrtG es ∧ es.length ≤ sizeLine then .ok (.lst (es.mergeSort dLe)) S else .stuck
      | none => .stuck
  | _ => .stuck
end L3
set_option maxHeartbeats 4000000
namespace L3
open PySem PySem.Spec PyProof.Rows L2
/-! ### an exception that is kept behind its handler -/
section
variable {X : Cx} {x n : Str} {c : Value} {i : Nat} {body suite : List Stmt} {b₀ : Stmt} {np pos pos' : Pos} {tb : WX → TS} {ts : Addr → Value → Option Addr → TS} {Wout : WX} {pins : List (Addr × Obj)} {σ : L2.St} {H : Hp} {s : Shared}
theorem keptO_ok {P : Program} {w : World} {h : Heap} {a : Addr} {cls : Value} {d : Option Addr} {oe : Obj} {vs : Array Value} (e : h.get? a = some oe) (z : Zc cls d oe) (k : oe.data = .fields vs) : ObjOk P w H h a (KeptO a cls d) :=
  ⟨⟨oe, vs, e, z, k⟩, ⟨oe, e⟩, fun _ _ ⟨o, v, q, r⟩ k => ⟨o, v, k o q, r⟩⟩
end
end L3
set_option maxHeartbeats 4000000
namespace L3
open PySem PySem.Spec PyProof.Rows L2
/-! ### try: .. except X as e: y = e; isinstance of what is kept -/
section
variable {X : Cx} {W : XW} {x n : Str} {pos : Pos} {K : PySem.W.Frag} {mg : Str → Option Value} {w : Wd} {H : Hp} {S : Store}
theorem Ab.fzE (A : Ab K w H mg S) {a : Addr} {u : HO} (h : H a = none) : FzE w (upd H a u) a u := by
  refine ⟨fun z => ?_, fun z => ?_, upd_same ..⟩
  · obtain ⟨l, hl⟩ := List.mem_iff_getElem?.mp z
    have hlt : l < S.length := by rw [← A.len]; exact (List.getElem?_eq_some_iff.mp hl).1
    obtain ⟨u, e, _⟩ := A.ob l a _ hl (List.getElem?_eq_getElem hlt)
    rw [h] at e; cases e
  · obtain ⟨xs, e⟩ := A.bt a z
    rw [h] at e; cases e
theorem RSt.keep {σ1 : DSt} {σ3 : L2.St} {i j : Nat} {d x y : L3.D} {v : V} (R : RSt K w H ((σ1.set i (some x)).set j (some y)) σ3) (hj : σ3[j]? = some (some v)) (r : Rep K w H d v) (hij : i ≠ j) (hl : j < σ1.length) : RSt K w H ((σ1.set j (some d)).set i none) (σ3.set i none) := by
  refine ⟨by simpa using R.1, fun k e hk => ?_⟩
  by_cases h1 : i = k
  · subst h1
    by_cases hi : i < σ1.length
    · rw [List.getElem?_set_self (by simpa using hi)] at hk
      cases hk
    · rw [List.getElem?_eq_none (by simpa using hi)] at hk
      cases hk
  · rw [List.getElem?_set_ne h1] at hk ⊢
    by_cases h2 : j = k
    · subst h2
      rw [List.getElem?_set_self hl] at hk
      cases hk
      exact ⟨v, hj, r⟩
    · rw [List.getElem?_set_ne h2] at hk
      exact R.2 k e (by rw [List.getElem?_set_ne h2, List.getElem?_set_ne h1]; exact hk)
/-! ### isinstance -/
def rIsK (K : PySem.W.Frag) : List V → Hp → VK → Prop := fun xs H Q => ∃ (a C : Addr) (od : Option Addr) (c : V) (cv : Value) (b : Bool), xs = [.ref a, c] ∧ ExcC K C ∧ H a = some (KeptO a (.ref C) od) ∧ (∀ d, od = some d → HasXd H d) ∧ (∀ u, RelV c u → u = cv) ∧ PySem.W.kitOne K (.ref C) cv = some b ∧ Q (.bl b) H
theorem inst_kept {pins : List (Addr × Obj)} {σ : L2.St} {H : Hp} {s : Shared} (I : Inv X pins σ H s) {a C : Addr} {od : Option Addr} (h : H a = some (KeptO a (.ref C) od)) (hd : ∀ d, od = some d → HasXd H d) : ∃ oe ob, PySem.W.InstAt s.heap a oe C ob := by
  obtain ⟨⟨oe, vs, e, hz, hv⟩, _, _⟩ := (show ObjOk X.prog X.w H s.heap a (KeptO a (.ref C) od) from I.hok a _ h)
  cases od with
  | none =>
    refine ⟨oe, none, ?_⟩
    obtain ⟨oc, od, oda, osl⟩ := oe
    obtain ⟨h1, h2⟩ := hz
    dsimp only at h1 h2 hv
    subst h1 h2 hv
    exact ⟨e, rfl, rfl, trivial⟩
  | some d =>
    obtain ⟨fs, hd⟩ := hd d rfl
    obtain ⟨mA, hns, hr⟩ := (show ObjOk X.prog X.w H s.heap d (.xd fs) from I.hok d _ hd)
    obtain ⟨ob, ho, hl⟩ := lookIn_ns hns
    exact ⟨oe, some ob, e, hz.1, by unfold PySem.W.notCls; rw [hv], by rw [hz.2]; exact ho⟩
theorem call_isK : CallR X (.builtin "isinstance") (rIsK X.K) := by
  intro pins s σ H xs us Q I r ⟨a, C, od, c, cv, b, e0, hC, ha, hd, hcv, e, q⟩
  subst e0
  cases r with
  | cons rx rr => cases rr with
    | cons rt rr =>
      cases rr; cases rx
      have ec := hcv _ rt
      subst ec
      obtain ⟨oe, ob, J⟩ := inst_kept I ha hd
      exact PySem.W.kia_one (PySem.W.l3_kitx hC) I.kIn J e (fun z => nomatch z) fun tk => ⟨.bl b, H, I.kept (t' := tk) fun _ _ z => z, rfl, q⟩
def isKD (tab : List (Str × Bool)) (d : D) (S : Store) : Res D := match d with
  | .exk c _ => (match tab.lookup c with
    | some b => .ok (.bl b) S
    | none => .stuck)
  | _ => .stuck
def mIsK (tab : List (Str × Bool)) (m : DSt → Store → Res D) (σ : DSt) (S : Store) : Res D := (m σ S).bind (isKD tab)
theorem isK_at {tab : List (Str × Bool)} {d : D} {S : Store} {v : V} {σ : L2.St} {Q : VK} (A : Ab K w H mg S) (r : Rep K w H d v) (P : Post K mg (Rep K) W σ w H (isKD tab d S) Q) : ∃ a C od b c, v = .ref a ∧ (c, b) ∈ tab ∧ PySem.W.nsIn K mainGlobals c = some (some (.ref C)) ∧ H a = some (KeptO a (.ref C) od) ∧ (∀ d, od = some d → HasXd H d) ∧ Post K mg (Rep K) W σ w H (.ok (.bl b) S) Q := by
  unfold isKD at P
  split at P
  · rename_i c fl
    simp only [Rep] at r
    obtain ⟨a, C, rfl, hns, hk⟩ := r
    split at P
    · rename_i b hb
      have hmem := lookup_mem hb
      match fl, hk with
      | none, hk => exact ⟨a, C, none, b, c, rfl, hmem, hns, hk.2.2, (fun _ z => by cases z), P⟩
      | some (f, z), ⟨dd, k1, k2⟩ => exact ⟨a, C, some dd, b, c, rfl, hmem, hns, k1.2.2, (fun _ z => by cases z; exact ⟨_, k2.2.2⟩), P⟩
    · exact P.elim
  · exact P.elim
theorem iskO {K : PySem.W.Frag} {c : Str} {C0 : Addr} {cv : Value} {b : Bool} (h : PySem.W.nsIn K mainGlobals c = some (some (.ref C0))) (x : ExcC K C0) (k : PySem.W.kitOne K (.ref C0) cv = some b) (C : Addr) (h' : PySem.W.nsIn K mainGlobals c = some (some (.ref C))) : ExcC K C ∧ PySem.W.kitOne K (.ref C) cv = some b := by
  rw [h] at h'
  cases h'
  exact ⟨x, k⟩
theorem pm_isK {c : V} {cv : Value} {tn : Str} {e : Expr} {p p2 : Pos} {tab : List (Str × Bool)} {m : DSt → Store → Res D} (hg : Gl X "isinstance") (hm : X.mg "isinstance" = none) (hv : bootBuiltins "isinstance" = some (.builtin "isinstance")) (ha : PM X W e m)
    (hc : PE X (.Name tn p2) (tC c)) (hcv : ∀ u, RelV c u → u = cv) (ht : ∀ y ∈ tab, ∀ C, PySem.W.nsIn X.K mainGlobals y.1 = some (some (.ref C)) → ExcC X.K C ∧ PySem.W.kitOne X.K (.ref C) cv = some y.2)
    (he : starEach [e, .Name tn p2] X.env = (false, eval e X.env) :: starEach [.Name tn p2] X.env := by rfl) (hpl : (backTo pos (starEach [.Name tn p2] X.env)).any (·.1) = false := by rfl)
    (he2 : starEach [.Name tn p2] X.env = (false, eval (.Name tn p2) X.env) :: starEach [] X.env := by rfl) :
    PM X W (.Call (.Name "isinstance" p) [e, .Name tn p2] [] pos) (mIsK tab m) :=
  PE.imp (pe_callB call_isK hg hm hv (pa_cons ha (pa_cons hc pa_nil he2) he) (by decide) (by decide) he hpl) fun σ H Q ⟨w, dσ, S, A, R, P⟩ => ⟨w, dσ, S, A, R, P.bind fun d S1 w1 H1 v e1 A1 r1 P1 => by
    obtain ⟨a, C, od, b, c', rfl, hmem, hns, h1, h2, P1⟩ := isK_at A1 r1 P1
    obtain ⟨hC, hk⟩ := ht _ hmem C hns
    exact ⟨a, C, od, c, cv, b, rfl, hC, h1, h2, hcv, hk, P1.fin A1 (of_bl b)⟩⟩
end
end L3
set_option maxHeartbeats 4000000
namespace PySem
section
variable {prog : Program} {w : World} {K : Type} [DecidableEq K] {knd : HeapKind prog w K} {A : Around} {E : Value → Shared → Prop} {s : Shared}
end
end PySem
namespace L3
open PySem PySem.Spec L2 PyProof.Rows
/-! ### d.update(e), dict(d): keys that are places -/
def placeK : List Key → Bool
  | [.inl x, .inl y] => decide (0 ≤ x ∧ x < 12 ∧ 0 ≤ y ∧ y < 12)
  | _ => false
section
variable {X : Cx} {W : XW}
end
end L3
set_option maxHeartbeats 4000000
namespace L3
open PySem PySem.Spec L2 PyProof.Rows
/-! ### d.update(e), dict(d), dict(t) as readings -/
section
variable {X : Cx} {W : XW}
theorem RKv.keys {κ : Type} {K : PySem.W.Frag} {w : Wd} {H : Hp} : ∀ {ds : List (κ × D)} {vs : List (κ × V)}, RKv K w H ds vs → ds.map (·.1) = vs.map (·.1)
  | [], _, h => by simp only [RKv] at h; subst h; rfl
  | (k, d) :: ds, _, h => by
    simp only [RKv] at h
    obtain ⟨v, r, rfl, r1, r2⟩ := h
    simp [RKv.keys r2]
theorem RKv.place {K : PySem.W.Frag} {w : Wd} {H : Hp} {ds : List (List Key × D)} {vs : List (List Key × V)} (h : RKv K w H ds vs) (hp : ds.all (fun p => placeK p.1) = true) : ∀ p ∈ vs, placeK p.1 = true := fun p hp' => by
  have h1 : p.1 ∈ ds.map (·.1) := by rw [RKv.keys h]; exact List.mem_map_of_mem hp'
  obtain ⟨q, hq, e⟩ := List.mem_map.mp h1
  rw [← e]
  exact List.all_eq_true.mp hp q hq
end
end L3
namespace L3
open PySem PySem.Spec L2 PyProof.Rows
/-! ### xs.index(x), xs of plain data -/
section
variable {X : Cx} {W : XW}
end
end L3
set_option maxHeartbeats 4000000
namespace L3
open PySem PySem.Spec PyProof.Rows L2
/-! ### the field of an exception that is kept -/
section
variable {X : Cx} {W : XW} {K : PySem.W.Frag} {mg : Str → Option Value} {w : Wd} {H : Hp} {S : Store} {pos : Pos}
def tXfk (K : PySem.W.Frag) (f : Str) (te : TE) : TE := fun σ H Q => te σ H fun x H1 => ∃ (a C dd : Addr) (fs : List (Str × V)) (v : V), x = .ref a ∧ XfC K C ∧ PySem.W.findIn K (.ref C) f = some none ∧ H1 a = some (KeptO a (.ref C) (some dd)) ∧ H1 dd = some (.xd fs) ∧ fs.lookup f = some v ∧ Q v H1
theorem pe_xfk {e : Expr} {te : TE} {n : Str} (he : PE X e te) (hb : attributeBase e n X.env (eval e X.env) = eval e X.env := by rfl) : PE X (.Attribute e n pos) (tXfk X.K n te) := by
  refine ⟨fun pins s σ H Q I h => ?_⟩
  refine attr_of hb (thn (he.run pins s σ H _ I h) fun u s1 hh => ?_)
  obtain ⟨x, H1, I1, rx, a, C, dd, fs, v, ex, T, hno, ha, ed, l, q⟩ := hh
  subst ex
  obtain rfl : u = Value.ref a := rx
  obtain ⟨⟨oe, vs, e1, hz, hv⟩, _, _⟩ := (show ObjOk X.prog X.w H1 s1.heap a (KeptO a (.ref C) (some dd)) from I1.hok a _ ha)
  have hx : ObjOk X.prog X.w H1 s1.heap dd (.xd fs) := I1.hok dd _ ed
  obtain ⟨mA, hns, hr⟩ := hx
  obtain ⟨od, ho, hl⟩ := lookIn_ns hns
  obtain ⟨u, hu, ru⟩ := RelO.some_of (v := v) (o := mA n) (by rw [← l]; exact hr n)
  have J : PySem.W.InstAt s1.heap a oe C (some od) := ⟨e1, hz.1, by unfold PySem.W.notCls; rw [hv], by rw [hz.2]; exact ho⟩
  exact HandSPX.exc_get I1.kIn J T.ga T.gg T.exC (PySem.W.findObj_own T.hdC hno rfl (by rw [hl, hu])) (handed_of ru) ⟨v, H1, I1.tok _, ru, q⟩
def xfkD (l : List Str) (f : Str) (d : D) (S : Store) : Res D := match d with
  | .exk c (some (f', z)) => if c ∈ l ∧ f' = f then .ok (.int z) S else .stuck
  | _ => .stuck
def mXfK (l : List Str) (f : Str) (m : DSt → Store → Res D) (σ : DSt) (S : Store) : Res D := (m σ S).bind (xfkD l f)
theorem xfkO {K : PySem.W.Frag} {c : Str} {C0 : Addr} {f : Str} (h : PySem.W.nsIn K mainGlobals c = some (some (.ref C0))) (x : XfC K C0) (k : PySem.W.findIn K (.ref C0) f = some none) (C : Addr) (h' : PySem.W.nsIn K mainGlobals c = some (some (.ref C))) : XfC K C ∧ PySem.W.findIn K (.ref C) f = some none := by
  rw [h] at h'
  cases h'
  exact ⟨x, k⟩
theorem pm_xfk {e : Expr} {f : Str} {l : List Str} {m : DSt → Store → Res D} (ha : PM X W e m) (ht : ∀ y ∈ l, ∀ C, PySem.W.nsIn X.K mainGlobals y = some (some (.ref C)) → XfC X.K C ∧ PySem.W.findIn X.K (.ref C) f = some none)
    (hb : attributeBase e f X.env (eval e X.env) = eval e X.env := by rfl) : PM X W (.Attribute e f pos) (mXfK l f m) :=
  PE.imp (pe_xfk ha hb) fun σ H Q ⟨w, dσ, S, A, R, P⟩ => ⟨w, dσ, S, A, R, P.bind fun d S1 w1 H1 v e1 A1 r1 P1 => by
    unfold xfkD at P1
    split at P1
    · rename_i c f' z
      split at P1
      · rename_i hc
        obtain ⟨hc, rfl⟩ := hc
        simp only [Rep] at r1
        obtain ⟨a, C, rfl, hns, dd, k1, k2⟩ := r1
        obtain ⟨T, hno⟩ := ht _ hc C hns
        exact ⟨a, C, dd, _, _, rfl, T, hno, k1.2.2, k2.2.2, by rw [List.lookup_cons, beq_self_eq_true], P1.fin A1 (of_int z)⟩
      · exact P1.elim
    · exact P1.elim⟩
end
end L3
namespace L3
open PySem PySem.Spec L2
section
variable {X : Cx} {W : XW}
end
end L3
namespace L3
open PySem PySem.Spec L2 PyProof.Rows
/-! ### calls of defs that show something, where nothing is being shown -/
theorem FnG.imp {P : Program} {w : World} {K : PySem.W.Frag} {mg : Str → Option Value} {base : Heap} {k : Nat} {f : Addr} {fd : FuncData} {ps : List Str} {sp sp' : Sp} (F : FnG P w K mg base k f fd ps sp) (h : ∀ vs H Q E, sp' vs H Q E → sp vs H Q E) : FnG P w K mg base k f fd ps sp' :=
  ⟨fun us H Q E q => F.len us H Q E (h _ _ _ _ q), fun A fr s H args us vs Q E g hr he hb hv hs => F.run A fr s H args us vs Q E g hr he hb hv (h _ _ _ _ hs)⟩
section
variable {X : Cx} {W : XW} {k : Nat} {f : Addr} {fd : FuncData} {ps : List Str} {x : Str} {p pos : Pos} {e : Expr} {es : List Expr} {den : List D → Store → Res D} {n : Nat} {sp : Sp} {E : XK} {t : TA}
end
end L3
namespace L3
open PySem PySem.Spec PyProof.Rows L2
section
variable {X : Cx} {W : XW} {o e : Expr} {es : List Expr} {name : Str} {apos cpos : Pos}
end
end L3
namespace L3
open PySem PySem.Spec PyProof.Rows L2
end L3
namespace L3
open PySem PySem.Spec L2
/-- the first of the clauses that takes the class -/
inductive Rch (K : PySem.W.Frag) (cls : Value) : List (Value × (DSt → Store → Res Fl)) → (DSt → Store → Res Fl) → Prop
  | here {c : Value} {m : DSt → Store → Res Fl} {r : List (Value × (DSt → Store → Res Fl))} (h : PySem.W.exmOne K cls c = some true) : Rch K cls ((c, m) :: r) m
  | there {c : Value} {m m' : DSt → Store → Res Fl} {r : List (Value × (DSt → Store → Res Fl))} (h : PySem.W.exmOne K cls c = some false) (h' : Rch K cls r m) : Rch K cls ((c, m') :: r) m
inductive HdM (X : Cx) : List ExceptHandler → List (Value × (DSt → Store → Res Fl)) → Prop
  | nil : HdM X [] []
  | cons {x : Str} {c : Value} {m : DSt → Store → Res Fl} {b₀ : Stmt} {suite : List Stmt} {np pos' : Pos} {hds : List ExceptHandler} {l : List (Value × (DSt → Store → Res Fl))} (hc : Names X x c)
      (hsu : ∀ (a : Addr) (oe : Obj) (cls : Value) (d : Option Addr) (pn : List (Addr × Obj)), Zc cls d oe → (∃ vs, oe.data = .fields vs) → PMSs (X.suite a ((a, oe) :: pn)) W0 (b₀ :: suite) m) (r : HdM X hds l) :
      HdM X (.ExceptHandler (some (.Name x np)) none (b₀ :: suite) pos' :: hds) ((c, m) :: l)
abbrev hdT (K : PySem.W.Frag) (mg : Str → Option Value) (l : List (Value × (DSt → Store → Res Fl))) : List (Value × (Addr → Value → Option Addr → TS)) := l.map fun q => (q.1, fun _ _ _ => tOfS K mg W0 q.2)
theorem HdM.ok {X : Cx} {hds : List ExceptHandler} {l : List (Value × (DSt → Store → Res Fl))} (h : HdM X hds l) : HdsOk X hds (hdT X.K X.mg l) := by
  induction h with
  | nil => exact .nil
  | cons hc hsu r ih => exact .cons hc hsu ih
section
variable {X : Cx} {W : XW} {pos : Pos} {body : List Stmt} {h₀ : ExceptHandler} {hds : List ExceptHandler} {l : List (Str × (DSt → Store → Res Fl))} {lh : List (Value × (DSt → Store → Res Fl))} {mb : DSt → Store → Res Fl}
end
end L3
namespace L3
open PySem PySem.Spec PyProof.Rows L2
/-! ### == of two dicts with the same places and numbers -/
section
variable {prog : Program} {w : World} {K : Type} [DecidableEq K] {knd : HeapKind prog w K} {A : Around} {E : Value → Shared → Prop} {s : Shared}
end
section
variable {X : Cx} {W : XW}
def isIntD : D → Bool
  | .int _ => true
  | _ => false
open Classical in
/-- d == e of two dicts with the same places and numbers -/
noncomputable def eqTTD (d e : D) (S : Store) : Res D := match d, e with
  | .loc l, .loc m => match S[l]?, S[m]? with
    | some (.dT kvs), some (.dT us) => if kvs = us ∧ (kvs.all fun kv => isIntD kv.2) = true then .ok (.bl true) S else .stuck
    | _, _ => .stuck
  | _, _ => .stuck
end
end L3
namespace L3
open PySem PySem.Spec PyProof.Rows L2
section
variable {X : Cx} {W : XW} {pos : Pos}
end
end L3
namespace L3
open PySem PySem.Spec PyProof.Rows L2
def IsDct (h : Heap) (a : Addr) : Prop := ∃ o es ep, h.get? a = some o ∧ o.cls = .type "dict" ∧ o.data = .dict es ep
section
variable {X : Cx} {W : XW}
/-- a dict of the heap -/
def HDct (H : Hp) (a : Addr) : Prop := (∃ kvs, H a = some (.dK kvs)) ∨ (∃ kvs, H a = some (.dT kvs)) ∨ ∃ b xs, H a = some (NdO b xs)
theorem HDct.is {P : Program} {W : World} {H : Hp} {h : Heap} {a : Addr} (ok : HOk P W H h) (e : HDct H a) : IsDct h a := by
  rcases e with ⟨kvs, e⟩ | ⟨kvs, e⟩ | ⟨b, xs, e⟩
  · obtain ⟨_, _, vs, _, q, es, ep, hq, h2, h3, _⟩ := dk_of ok e
    exact ⟨q, es, ep, hq, h2.1, h3⟩
  · obtain ⟨_, _, vs, _, q, es, ep, hq, h2, h3, _⟩ := dt_of ok e
    exact ⟨q, es, ep, hq, h2.1, h3⟩
  · have x := ok a _ e
    have hb := nd_addr x
    subst hb
    obtain ⟨⟨_, o, es, ep, ho, hx, hd, _⟩, _⟩ := x
    exact ⟨o, es, ep, ho, hx.1, hd⟩
end
end L3
namespace L3
open PySem PySem.Spec PyProof.Rows L2
section
variable {X : Cx} {W : XW} {T : String} {e : Expr} {p pos : Pos}
end
end L3
set_option maxHeartbeats 4000000
namespace L3
open PySem PySem.Spec PyProof.Rows L2
/-! ### exceptions made as values: X(), X(n) -/
section
variable {X : Cx} {W : XW} {x f n : Str} {e : Expr} {p pos : Pos} {C fI : Addr} {k : Nat} {fd : FuncData}
/-- what makes an exception gives it as a value, kept -/
theorem pe_made {t : L2.St → Hp → XK → Prop} (he : PMk X e t) : PE X e (fun σ H Q => t σ H fun cls d H' => ∀ a, H' a = none → Q (.ref a) (upd H' a (KeptO a cls d))) := by
  refine ⟨fun pins s σ H Q I h => ?_⟩
  refine wpAny_mono (he pins s σ H _ I h) (fun u s1 hu => ?_) fun _ _ z => z
  obtain ⟨a, oe, vs, sI, H', cls, d, rfl, J, kp, hne, ha, hz, hd, _, na, os, ag, _, q⟩ := hu
  have J2 : Inv X pins σ (upd H' a (KeptO a cls d)) { sI with heap := s1.heap, gens := s1.gens, drawn := s1.drawn, toks := s1.toks } :=
    J.call (ch := []) (Un.laidN kp hne na) (HOk.laidN J.hok kp na (keptO_ok ha hz hd)) ag (fun _ z => nomatch z)
  have es : s1 = { sI with heap := s1.heap, gens := s1.gens, drawn := s1.drawn, toks := s1.toks } := by
    cases s1; cases sI; cases os; rfl
  rw [es]
  exact ⟨.ref a, _, J2, rfl, q a na⟩
def mNewK (c : Str) (σ : DSt) (S : Store) : Res D := .ok (.exk c none) S
def newKF (c f : Str) (d : D) (S : Store) : Res D := match d with
  | .int i => .ok (.exk c (some (f, i))) S
  | _ => .stuck
def mNewKF (c f : Str) (m : DSt → Store → Res D) (σ : DSt) (S : Store) : Res D := (m σ S).bind (newKF c f)
theorem pm_newK (T : ExcT X.K C) (gC : X.mg x = some (.ref C)) (hns : PySem.W.nsIn X.K mainGlobals x = some (some (.ref C))) (hg : Gl X x) (hdb : (x == ("__debug__" : Str)) = false := by decide) : PM X W (.Call (.Name x p) [] [] pos) (mNewK x) :=
  PE.imp (pe_made (pmk_own0 PySem.F.excBase_ValueError T.ex gC T.kp (raises_own T.bs T.ty) hg hdb)) fun σ H Q ⟨w, dσ, S, A, R, P⟩ a ha => by
    refine P w _ _ (Ex.new ha) (A.newF ha) ?_
    simp only [Rep]
    exact ⟨a, C, rfl, hns, A.fzE ha⟩
theorem pm_newKF {me : DSt → Store → Res D} (T : OexC X.K C) (iC : PySem.W.findIn X.K (.ref C) "__init__" = some (some (.ref fI))) (tI : PySem.W.typeIn X.K (.ref fI) = some (.type "function"))
    (F1 : FnOk X.prog X.w X.K X.mg X.base (L2.CX X.prog X.w) k fI fd ["self", n] (spXI X.K f)) (hr : Room (k + 1) X.A) (hb : Binds X.K fd ["self", n] []) (hno : PySem.W.findIn X.K (.ref C) f = some none) (hns : PySem.W.nsIn X.K mainGlobals x = some (some (.ref C))) (hg : Gl X x) (hm : X.mg x = some (.ref C)) (he : PM X W e me)
    (hdb : (x == ("__debug__" : Str)) = false := by decide) (hs : starEach [e] X.env = (false, eval e X.env) :: starEach [] X.env := by rfl) (hpl : (backTo pos (starEach [] X.env)).any (·.1) = false := by rfl) :
    PM X W (.Call (.Name x p) [e] [] pos) (mNewKF x f me) := by
  refine PE.imp (pe_made (pmk_oex T iC tI F1 hr hb .nil passL hg hm (pa_cons he pa_nil hs) hdb hs hpl)) fun σ H Q ⟨w, dσ, S, A, R, P⟩ => ?_
  refine ⟨w, dσ, S, A, R, P.bind fun d S1 w1 H1 v e1 A1 r1 P1 => ⟨by simp, fun a ha => ?_⟩⟩
  refine ⟨a, C, v, rfl, T, hno, upd_same .., fun dx h1 h2 => ⟨rfl, dx, [(f, v)], upd_same .., by rw [upd_ne h2, upd_same], ?_, ?_⟩⟩
  · rw [upd_ne h2] at h1; exact h1
  · rw [upd_ne h2] at h1
    rw [upd_back ha h2]
    intro a2 ha2
    unfold newKF at P1
    split at P1
    · rename_i i
      have hv : v = .int i := by simpa only [Rep] using r1
      subst hv
      have A2 := A1.newF (o := .xd [(f, V.int i)]) h1
      have hd2 : dx ≠ a2 := fun z => by
        subst z
        rw [upd_same] at ha2
        cases ha2
      refine P1 w1 _ _ ((Ex.new h1).trans (Ex.new ha2)) (A2.newF ha2) ?_
      simp only [Rep]
      refine ⟨a2, C, rfl, hns, dx, A2.fzE ha2, ?_⟩
      obtain ⟨z1, z2, z3⟩ := A1.fzE (u := .xd [(f, V.int i)]) h1
      exact ⟨z1, z2, by rw [upd_ne hd2]; exact z3⟩
    · exact P1.elim
end
end L3
namespace L3
open PySem PySem.Spec L2

/-! ### evaluation: what each reading gives at data that are there -/
section
variable {σ : DSt} {S : Store} {a b c : DSt → Store → Res D} {i j : Int} {x y : Str} {ds es : List D} {d e : D} {l n k : Nat}
@[simp] theorem e_seq (a b : DSt → Store → Res Fl) : mSeq a b σ S = thenS (a σ S) b := (rfl)
@[simp] theorem e_skip : mSkip σ S = .ok (.nx σ) S := (rfl)
@[simp] theorem e_do : mDo a σ S = liftE (a σ S) σ fun _ S1 => .ok (.nx σ) S1 := (rfl)
@[simp] theorem e_ret : mRet a σ S = liftE (a σ S) σ fun d S1 => .ok (.rt d) S1 := (rfl)
@[simp] theorem e_ifs (c : DSt → Store → Res Bool) (a b : DSt → Store → Res Fl) : mIfS c a b σ S = liftE (c σ S) σ fun x S1 => if x = true then a σ S1 else b σ S1 := (rfl)
@[simp] theorem e_set (i : Nat) : mSet i a σ S = liftE (a σ S) σ fun d S1 => .ok (.nx (σ.set i (some d))) S1 := (rfl)
@[simp] theorem e_asg (g : D → DSt → Store → Res DSt) : mAsg a g σ S = liftE (a σ S) σ fun d S1 => bindG (g d σ S1) fun σ2 S2 => .ok (.nx σ2) S2 := (rfl)
@[simp] theorem e_par (i j : Nat) (ms : DSt → Store → Res (List D)) : mPar i j ms σ S = liftE (ms σ S) σ fun ds S1 => match ds with
  | [a, b] => .ok (.nx ((σ.set i (some a)).set j (some b))) S1
  | _ => .stuck := (rfl)
@[simp] theorem e_for (mi : DSt → Store → Res Src) (g : D → DSt → Store → Res DSt) (b : DSt → Store → Res Fl) : mFor mi g b σ S = liftE (mi σ S) σ fun src S1 => forGo src.guard g b src.items σ S1 := (rfl)
@[simp] theorem e_lc (mi : DSt → Store → Res Src) (g : D → DSt → Store → Res DSt) (t : DSt → Store → Res Bool) (e : DSt → Store → Res D) (vs : List Nat) :
    mLc mi g t e vs σ S = (mi σ S).bind fun src S1 => bindG (lcGo src.guard g t e (dwipe σ vs) src.items S1) fun ys S2 => .ok (.lst ys) S2 := (rfl)
@[simp] theorem e_lcM (mi : DSt → Store → Res Src) (g : D → DSt → Store → Res DSt) (t : DSt → Store → Res Bool) (e : DSt → Store → Res D) (vs : List Nat) :
    mLcM mi g t e vs σ S = (mi σ S).bind fun src S1 => bindG (lcGo src.guard g t e (dwipe σ vs) src.items S1) fun ys S2 => .ok (.loc S2.length) (S2 ++ [.lst ys]) := (rfl)
@[simp] theorem e_C : mC d σ S = .ok d S := (rfl)
theorem e_var' (i : Nat) (h : σ[i]? = some (some d)) : mVar i σ S = .ok d S := by unfold mVar; rw [h]
@[simp] theorem e_var0 (o : DSt) : mVar 0 (some d :: o) S = .ok d S := (rfl)
@[simp] theorem e_varS (i : Nat) (z : Option D) (o : DSt) : mVar (i + 1) (z :: o) S = mVar i o S := by simp [mVar]
@[simp] theorem e_m2 (f : D → D → Store → Res D) : m2 a b f σ S = (a σ S).bind fun x S1 => (b σ S1).bind fun y S2 => f x y S2 := (rfl)
@[simp] theorem e_m1 (f : D → Store → Res D) : m1 a f σ S = (a σ S).bind fun x S1 => f x S1 := (rfl)
@[simp] theorem e_nil : mNil σ S = .ok [] S := (rfl)
@[simp] theorem e_cons (ms : DSt → Store → Res (List D)) : mCons a ms σ S = (a σ S).bind fun d S1 => (ms σ S1).bind fun ds S2 => .ok (d :: ds) S2 := (rfl)
@[simp] theorem e_tup (ms : DSt → Store → Res (List D)) : mTup ms σ S = (ms σ S).bind fun ds S1 => if ds.length ≤ sizeLine then .ok (.tup ds) S1 else .stuck := (rfl)
@[simp] theorem e_lst (ms : DSt → Store → Res (List D)) : mLst ms σ S = (ms σ S).bind fun ds S1 => if ds.length ≤ sizeLine then .ok (.lst ds) S1 else .stuck := (rfl)
@[simp] theorem e_lstM (ms : DSt → Store → Res (List D)) : mLstM ms σ S = (ms σ S).bind fun ds S1 => if ds.length ≤ sizeLine then .ok (.loc S1.length) (S1 ++ [.lst ds]) else .stuck := (rfl)
@[simp] theorem e_andT (a b : DSt → Store → Res Bool) : mAndT a b σ S = (a σ S).bind fun x S1 => if x = true then b σ S1 else .ok false S1 := (rfl)
@[simp] theorem e_orT (a b : DSt → Store → Res Bool) : mOrT a b σ S = (a σ S).bind fun x S1 => if x = true then .ok true S1 else b σ S1 := (rfl)
@[simp] theorem e_notT (a : DSt → Store → Res Bool) : mNotT a σ S = (a σ S).bind fun x S1 => .ok (!x) S1 := (rfl)
/-- and, or, not of two values -/
def andK (x : D) (S : Store) (r : Res D) : Res D := match x with
  | .bl true => r
  | .bl false => .ok (.bl false) S
  | _ => .stuck
def orK (x : D) (S : Store) (r : Res D) : Res D := match x with
  | .bl true => .ok (.bl true) S
  | .bl false => r
  | _ => .stuck
@[simp] theorem e_andV : mAndV a b σ S = (a σ S).bind fun x S1 => andK x S1 (b σ S1) := (rfl)
@[simp] theorem e_orV : mOrV a b σ S = (a σ S).bind fun x S1 => orK x S1 (b σ S1) := (rfl)
@[simp] theorem andK_bl (t : Bool) (r : Res D) : andK (.bl t) S r = if t = true then r else .ok (.bl false) S := by cases t <;> rfl
@[simp] theorem orK_bl (t : Bool) (r : Res D) : orK (.bl t) S r = if t = true then .ok (.bl true) S else r := by cases t <;> rfl
def notK (x : D) (S : Store) : Res D := match x with
  | .bl k => .ok (.bl (!k)) S
  | _ => .stuck
@[simp] theorem e_notV : mNotV a σ S = (a σ S).bind fun x S1 => notK x S1 := (rfl)
@[simp] theorem notK_bl (t : Bool) : notK (.bl t) S = .ok (.bl (!t)) S := (rfl)
@[simp] theorem e_if (c : DSt → Store → Res Bool) : mIf c a b σ S = (c σ S).bind fun x S1 => if x = true then a σ S1 else b σ S1 := (rfl)
def negK (x : D) (S : Store) : Res D := match x with
  | .int i => .ok (.int (-i)) S
  | _ => .stuck
@[simp] theorem e_neg : mNeg a σ S = (a σ S).bind fun x S1 => negK x S1 := (rfl)
@[simp] theorem negK_int : negK (.int i) S = .ok (.int (-i)) S := (rfl)
def chK (z : D) (S : Store) (r : Res D) : Res D := match z with
  | .bl true => r
  | .bl false => .ok (.bl false) S
  | _ => .stuck
@[simp] theorem chK_bl (t : Bool) (r : Res D) : chK (.bl t) S r = if t = true then r else .ok (.bl false) S := by cases t <;> rfl
@[simp] theorem e_ch (f g : D → D → Store → Res D) : mCh a b c f g σ S = (a σ S).bind fun x S1 => (b σ S1).bind fun y S2 => (f x y S2).bind fun z S3 => chK z S3 ((c σ S3).bind fun w S4 => g y w S4) := by
  rfl
def truK (x : D) (S : Store) : Res Bool := match x with
  | .bl t => .ok t S
  | _ => .stuck
@[simp] theorem truK_bl (t : Bool) : truK (.bl t) S = .ok t S := (rfl)
@[simp] theorem e_cb (g : List D → Store → Res D) (ms : DSt → Store → Res (List D)) : mCB g ms σ S = (ms σ S).bind fun ds S1 => g ds S1 := (rfl)
@[simp] theorem e_call (n : Nat) (den : List D → Store → Res D) (ms : DSt → Store → Res (List D)) : mCall n den ms σ S = (ms σ S).bind fun ds S1 => if ds.length = n then noX (den ds S1) else .stuck := (rfl)
@[simp] theorem e_bm (T : String) (g : D → List D → Store → Res D) (ms : DSt → Store → Res (List D)) : mBM T g a ms σ S = (a σ S).bind fun d S1 => if tyOk T S1 d = true then (ms σ S1).bind fun ds S2 => g d ds S2 else .stuck := (rfl)
@[simp] theorem e_gname (i : Nat) : gtName i d σ S = .ok (σ.set i (some d)) S := (rfl)
@[simp] theorem e_gnil : gtNil [] σ S = .ok σ S := (rfl)
@[simp] theorem e_gcons (f : D → DSt → Store → Res DSt) (g : List D → DSt → Store → Res DSt) : gtCons f g (d :: ds) σ S = bindG (f d σ S) fun σ1 S1 => g ds σ1 S1 := (rfl)
@[simp] theorem e_gtup (n : Nat) (g : List D → DSt → Store → Res DSt) : gtTup n g (.tup ds) σ S = if ds.length = n then g ds σ S else .stuck := (rfl)
@[simp] theorem e_gktp (n : Nat) (g : List D → DSt → Store → Res DSt) : gtTup n g (.ktp ds) σ S = if ds.length = n then g ds σ S else .stuck := (rfl)
@[simp] theorem e_gsub (f : D → D → D → Store → Res Unit) : gtSub a b f d σ S = bindG (a σ S) fun o S1 => bindG (b σ S1) fun i S2 => bindG (f o i d S2) fun _ S3 => .ok σ S3 := (rfl)
def srcK (o : Option Src) (S : Store) : Res Src := match o with
  | some s => .ok s S
  | none => .stuck
@[simp] theorem e_seqi : mSeqI a σ S = (a σ S).bind fun d S1 => srcK (seqSrc d S1) S1 := (rfl)
@[simp] theorem srcK_some (s : Src) : srcK (some s) S = .ok s S := (rfl)
@[simp] theorem seqSrc_str : seqSrc (.str x) S = if x.length ≤ sizeLine then some ⟨signsOf x, []⟩ else none := (rfl)
@[simp] theorem seqSrc_tup : seqSrc (.tup ds) S = some ⟨ds, []⟩ := (rfl)
@[simp] theorem seqSrc_ktp : seqSrc (.ktp ds) S = some ⟨ds, []⟩ := (rfl)
@[simp] theorem seqSrc_lst : seqSrc (.lst ds) S = some ⟨ds, []⟩ := (rfl)
@[simp] theorem seqSrc_frz : seqSrc (.frz ds) S = some ⟨ds, []⟩ := (rfl)
theorem seqSrc_loc (h : S[l]? = some (.lst ds)) : seqSrc (.loc l) S = some ⟨ds, [(l, .lst ds)]⟩ := by simp [seqSrc, h]
@[simp] theorem lstSrc_lst : lstSrc (.lst ds) S = some ⟨ds, []⟩ := (rfl)
@[simp] theorem lstSrc_frz : lstSrc (.frz ds) S = some ⟨ds, []⟩ := (rfl)
def rng1K (ds : List D) (S : Store) : Res Src := match ds with
  | [.int j] => if j ≤ sizeLine ∧ -(2 ^ 62) ≤ j then .ok ⟨rangeD 0 1 j.toNat, []⟩ S else .stuck
  | _ => .stuck
@[simp] theorem e_rng1 (ms : DSt → Store → Res (List D)) : mRng1 ms σ S = (ms σ S).bind fun ds S1 => rng1K ds S1 := (rfl)
theorem rng1K_int (h : j ≤ sizeLine) (h0 : -(2 ^ 62) ≤ j) : rng1K [.int j] S = .ok ⟨rangeD 0 1 j.toNat, []⟩ S := if_pos ⟨h, h0⟩
theorem rng1K_nat (h : n ≤ sizeLine) : rng1K [.int n] S = .ok ⟨rangeD 0 1 n, []⟩ S := by
  have := rng1K_int (S := S) (j := (n : Int)) (by omega) (by omega)
  simpa using this
def rng2K (ds : List D) (S : Store) : Res Src := match ds with
  | [.int i, .int j] => if -(2 ^ 62) ≤ i ∧ i < 2 ^ 62 ∧ -(2 ^ 62) ≤ j ∧ j < 2 ^ 62 ∧ (j - i).toNat ≤ sizeLine then .ok ⟨rangeD i 1 (j - i).toNat, []⟩ S else .stuck
  | _ => .stuck
@[simp] theorem e_rng2 (ms : DSt → Store → Res (List D)) : mRng2 ms σ S = (ms σ S).bind fun ds S1 => rng2K ds S1 := (rfl)
def rng3K (ds : List D) (S : Store) : Res Src := match ds with
  | [.int i, .int j, .int c] => if c = -1 ∧ -(2 ^ 62) ≤ i ∧ i < 2 ^ 62 ∧ -(2 ^ 62) ≤ j ∧ j < 2 ^ 62 ∧ (i - j).toNat ≤ sizeLine then .ok ⟨rangeD i (-1) (i - j).toNat, []⟩ S else .stuck
  | _ => .stuck
@[simp] theorem e_rng3 (ms : DSt → Store → Res (List D)) : mRng3 ms σ S = (ms σ S).bind fun ds S1 => rng3K ds S1 := (rfl)
def enumK (ds : List D) (S : Store) : Res Src := match ds with
  | [d] => match lstSrc d S with
    | some src => .ok ⟨enumD 0 src.items, src.guard⟩ S
    | none => .stuck
  | _ => .stuck
@[simp] theorem e_enum (ms : DSt → Store → Res (List D)) : mEnum ms σ S = (ms σ S).bind fun ds S1 => enumK ds S1 := (rfl)
@[simp] theorem enumK_lst : enumK [.lst ds] S = .ok ⟨enumD 0 ds, []⟩ S := (rfl)
@[simp] theorem enumK_frz : enumK [.frz ds] S = .ok ⟨enumD 0 ds, []⟩ S := (rfl)
def partK (d : D) (S : Store) : Res (Option Int) := match d with
  | .int i => .ok (some i) S
  | _ => .stuck
@[simp] theorem e_part : mPart a σ S = (a σ S).bind fun d S1 => partK d S1 := (rfl)
@[simp] theorem partK_int : partK (.int i) S = .ok (some i) S := (rfl)
@[simp] theorem e_nopart : mNoPart σ S = .ok none S := (rfl)
@[simp] theorem e_sl (ml mh : DSt → Store → Res (Option Int)) : mSl a ml mh σ S = (a σ S).bind fun d S1 => (ml σ S1).bind fun lo S2 => (mh σ S2).bind fun hi S3 => sliceD d lo hi S3 := (rfl)
@[simp] theorem e_sl_str (lo hi : Option Int) : sliceD (.str x) lo hi S = if x.length ≤ sizeLine then .ok (.str (cutS x lo hi)) S else .stuck := (rfl)
@[simp] theorem e_sl_tup (lo hi : Option Int) : sliceD (.tup ds) lo hi S = .ok (.tup (L3.cut ds lo hi)) S := (rfl)
@[simp] theorem e_sl_lst (lo hi : Option Int) : sliceD (.lst ds) lo hi S = .ok (.lst (L3.cut ds lo hi)) S := (rfl)
@[simp] theorem e_sl_frz (lo hi : Option Int) : sliceD (.frz ds) lo hi S = .ok (.lst (L3.cut ds lo hi)) S := (rfl)
@[simp] theorem e_add : addD (.int i) (.int j) S = .ok (.int (i + j)) S := (rfl)
@[simp] theorem e_addS : addD (.str x) (.str y) S = if x.length + y.length ≤ sizeLine then .ok (.str (x ++ y)) S else .stuck := (rfl)
@[simp] theorem e_addT : addD (.tup ds) (.tup es) S = if ds.length + es.length ≤ sizeLine then .ok (.tup (ds ++ es)) S else .stuck := (rfl)
@[simp] theorem e_addL : addD (.lst ds) (.lst es) S = if ds.length + es.length ≤ sizeLine then .ok (.lst (ds ++ es)) S else .stuck := (rfl)
@[simp] theorem e_sub : subD (.int i) (.int j) S = .ok (.int (i - j)) S := (rfl)
@[simp] theorem e_mul : mulX (.int i) (.int j) S = if CMul i j ∨ CMulW i j then .ok (.int (i * j)) S else .stuck := (rfl)
@[simp] theorem e_mulS : mulX (.str x) (.int i) S = if -(2 ^ 63) ≤ i ∧ i < 2 ^ 63 ∧ x.length * i.toNat ≤ 16777216 then .ok (.str (repS x i.toNat)) S else .stuck := (rfl)
@[simp] theorem e_fdiv : fdivD (.int i) (.int j) S = if CDivW i j then .ok (.int (i / j)) S else .stuck := (rfl)
@[simp] theorem e_mod : modD (.int i) (.int j) S = if 0 < j then .ok (.int (i % j)) S else .stuck := (rfl)
@[simp] theorem e_pow : powD (.int i) (.int j) S = if CPowX i j then .ok (.int (i ^ j.toNat)) S else .stuck := (rfl)
@[simp] theorem e_lt : ltD (.int i) (.int j) S = .ok (.bl (decide (i < j))) S := (rfl)
@[simp] theorem e_cmp (p : Int → Int → Bool) : cmpI p (.int i) (.int j) S = .ok (.bl (p i j)) S := (rfl)
@[simp] theorem e_eqI (n : Bool) : eqD n (.int i) (.int j) S = .ok (.bl (xor n (decide (i = j)))) S := by
  have : eqD n (.int i) (.int j) S = .ok (.bl (xor n (i == j))) S := by
    simp only [eqD, pyS, toPy]
    rw [if_pos ⟨rfl, rfl⟩]
    rfl
  rw [this]
  have : (i == j) = decide (i = j) := by rw [Bool.eq_iff_iff]; simp
  rw [this]
@[simp] theorem e_isN : isND false .non .non S = .ok (.bl true) S := (rfl)
def chr (c : Nat) : D := .str ⟨#[c]⟩
def ixS (o : Option Nat) (S : Store) : Res D := match o with
  | some c => .ok (.str ⟨#[c]⟩) S
  | none => .stuck
@[simp] theorem ixS_some (c : Nat) : ixS (some c) S = .ok (chr c) S := (rfl)
@[simp] theorem e_ix_str : ixD (.str x) (.int i) S = if x.length ≤ sizeLine then ixS (atI x.cps.toList i) S else .stuck := (rfl)
def atK (o : Option D) (S : Store) : Res D := match o with
  | some e => .ok e S
  | none => .stuck
@[simp] theorem atK_some : atK (some d) S = .ok d S := (rfl)
@[simp] theorem e_ix_tup : ixD (.tup ds) (.int i) S = atK (atI ds i) S := (rfl)
@[simp] theorem e_ix_ktp : ixD (.ktp ds) (.int i) S = atK (atI ds i) S := (rfl)
@[simp] theorem e_ix_lst : ixD (.lst ds) (.int i) S = atK (atI ds i) S := (rfl)
@[simp] theorem e_ix_frz : ixD (.frz ds) (.int i) S = atK (atI ds i) S := (rfl)
theorem e_ix_loc (h : S[l]? = some (.lst ds)) : ixD (.loc l) (.int i) S = atK (atI ds i) S := by
  simp only [ixD, seqOf, rdL, exL, h]
  rfl
theorem atI_nn {α : Type} {xs : List α} (h : 0 ≤ i) : atI xs i = xs[i.toNat]? := by
  unfold atI ixN
  rw [if_pos h]
  split
  · rfl
  · rename_i h2
    rw [List.getElem?_eq_none (by omega)]
    rfl
@[simp] theorem atI_nat {α : Type} {xs : List α} : atI xs (n : Int) = xs[n]? := by rw [atI_nn (by omega)]; simp
@[simp] theorem atI_0 {α : Type} {xs : List α} : atI xs 0 = xs[0]? := atI_nn (by omega)
@[simp] theorem atI_1 {α : Type} {xs : List α} : atI xs 1 = xs[1]? := atI_nn (by omega)
@[simp] theorem atI_2 {α : Type} {xs : List α} : atI xs 2 = xs[2]? := atI_nn (by omega)
@[simp] theorem atI_3 {α : Type} {xs : List α} : atI xs 3 = xs[3]? := atI_nn (by omega)
@[simp] theorem atI_last {α : Type} {xs : List α} : atI xs (-1) = xs[xs.length - 1]? := by
  unfold atI ixN
  rw [if_neg (by omega)]
  by_cases h : xs = []
  · subst h; rfl
  · have : 0 < xs.length := List.length_pos_iff.mpr h
    rw [if_pos (by omega)]
    show xs[(-1 + (xs.length : Int)).toNat]? = _
    congr 1
    omega
@[simp] theorem e_len_str : lenD [.str x] S = if x.length ≤ sizeLine then .ok (.int x.length) S else .stuck := (rfl)
@[simp] theorem e_len_tup : lenD [.tup ds] S = .ok (.int ds.length) S := (rfl)
@[simp] theorem e_len_ktp : lenD [.ktp ds] S = .ok (.int ds.length) S := (rfl)
@[simp] theorem e_len_lst : lenD [.lst ds] S = .ok (.int ds.length) S := (rfl)
@[simp] theorem e_len_frz : lenD [.frz ds] S = .ok (.int ds.length) S := (rfl)
theorem e_len_loc (h : S[l]? = some (.lst ds)) : lenD [.loc l] S = .ok (.int ds.length) S := by simp [lenD, seqOf, rdL, exL, h]
@[simp] theorem e_abs : absD [.int i] S = .ok (.int (if i < 0 then -i else i)) S := (rfl)
@[simp] theorem e_max2 : max2D [.int i, .int j] S = .ok (.int (if j > i then j else i)) S := (rfl)
@[simp] theorem e_min2 : min2D [.int i, .int j] S = .ok (.int (if j < i then j else i)) S := (rfl)
@[simp] theorem e_int : intD [.int i] S = .ok (.int i) S := (rfl)
@[simp] theorem e_intB (t : Bool) : intD [.bl t] S = .ok (.int (if t = true then 1 else 0)) S := (rfl)
@[simp] theorem e_tuple_lst : tupleD [.lst ds] S = .ok (.tup ds) S := (rfl)
@[simp] theorem e_tuple_tup : tupleD [.tup ds] S = .ok (.tup ds) S := (rfl)
@[simp] theorem e_tuple_frz : tupleD [.frz ds] S = .ok (.tup ds) S := (rfl)
theorem e_tuple_loc (h : S[l]? = some (.lst ds)) : tupleD [.loc l] S = .ok (.tup ds) S := by simp [tupleD, rdL, exL, h]
theorem e_append (h : S[l]? = some (.lst ds)) (hs : ds.length < sizeLine) : appendD (.loc l) [d] S = .ok .non (S.set l (.lst (ds ++ [d]))) := by simp [appendD, mutL, h, hs]
@[simp] theorem tyOk_str : tyOk "str" S (.str x) = true := (rfl)
@[simp] theorem tyOk_lst : tyOk "list" S (.lst ds) = true := (rfl)
@[simp] theorem tyOk_frz : tyOk "list" S (.frz ds) = true := (rfl)
theorem tyOk_loc (h : S[l]? = some (.lst ds)) : tyOk "list" S (.loc l) = true := by simp [tyOk, h]
@[simp] theorem e_rev_str : revD (.str x) S = if x.length ≤ sizeLine then .ok (.str (revS x)) S else .stuck := (rfl)
@[simp] theorem e_rev_lst : revD (.lst ds) S = .ok (.lst ds.reverse) S := (rfl)
@[simp] theorem e_rev_frz : revD (.frz ds) S = .ok (.lst ds.reverse) S := (rfl)
end
/-! ### the same at mutable lists: by what stands in the store -/
section
variable {S : Store} {l : Nat} {i : Int} {ds : List D} {d v : D}
def ixO (l : Nat) (i : Int) (S : Store) : Option Ob → Res D
  | some (.lst ds) => atK (atI ds i) S
  | _ => ixD (.loc l) (.int i) S
@[simp] theorem ixO_lst : ixO l i S (some (.lst ds)) = atK (atI ds i) S := (rfl)
@[simp] theorem e_ixO : ixD (.loc l) (.int i) S = ixO l i S S[l]? := by
  unfold ixO
  split
  · rename_i ds h; exact e_ix_loc h
  · rfl
def lenO (l : Nat) (S : Store) : Option Ob → Res D
  | some (.lst ds) => .ok (.int ds.length) S
  | _ => lenD [.loc l] S
@[simp] theorem lenO_lst : lenO l S (some (.lst ds)) = .ok (.int ds.length) S := (rfl)
@[simp] theorem e_lenO : lenD [.loc l] S = lenO l S S[l]? := by
  unfold lenO
  split
  · rename_i ds h; exact e_len_loc h
  · rfl
def srcO (l : Nat) (S : Store) : Option Ob → Option Src
  | some (.lst ds) => some ⟨ds, [(l, .lst ds)]⟩
  | _ => seqSrc (.loc l) S
@[simp] theorem srcO_lst : srcO l S (some (.lst ds)) = some ⟨ds, [(l, .lst ds)]⟩ := (rfl)
@[simp] theorem e_srcO : seqSrc (.loc l) S = srcO l S S[l]? := by
  unfold srcO
  split
  · rename_i ds h; exact seqSrc_loc h
  · rfl
def setO (l : Nat) (i : Int) (v : D) (S : Store) : Option Ob → Res Unit
  | some (.lst ds) => match ixN ds.length i with
    | some k => .ok () (S.set l (.lst (ds.set k v)))
    | none => .stuck
  | _ => setD (.loc l) (.int i) v S
def setN (l : Nat) (ds : List D) (v : D) (S : Store) : Option Nat → Res Unit
  | some k => .ok () (S.set l (.lst (ds.set k v)))
  | none => .stuck
@[simp] theorem setO_lst : setO l i v S (some (.lst ds)) = setN l ds v S (ixN ds.length i) := by
  unfold setO setN; rfl
@[simp] theorem setN_some {k : Nat} : setN l ds v S (some k) = .ok () (S.set l (.lst (ds.set k v))) := (rfl)
@[simp] theorem e_setO : setD (.loc l) (.int i) v S = setO l i v S S[l]? := by
  unfold setO
  split
  · rename_i ds h; simp only [setD, h] <;> rfl
  · rfl
def appO (l : Nat) (d : D) (S : Store) : Option Ob → Res D
  | some (.lst ds) => if ds.length < sizeLine then .ok .non (S.set l (.lst (ds ++ [d]))) else .stuck
  | _ => appendD (.loc l) [d] S
@[simp] theorem appO_lst : appO l d S (some (.lst ds)) = if ds.length < sizeLine then .ok .non (S.set l (.lst (ds ++ [d]))) else .stuck := (rfl)
@[simp] theorem e_appO : appendD (.loc l) [d] S = appO l d S S[l]? := by
  unfold appO
  split
  · rename_i ds h; simp [appendD, mutL, h]
  · rfl
def popO (l : Nat) (i : Int) (S : Store) : Option Ob → Res D
  | some (.lst ds) => if -(2 ^ 63) ≤ i ∧ i < 2 ^ 63 then (match seqIndex? i ds.length with
    | some k => match ds[k]? with
      | some e => .ok e (S.set l (.lst (ds.eraseIdx k)))
      | none => .stuck
    | none => .stuck) else .stuck
  | _ => popD (.loc l) [.int i] S
theorem popO_nat {k : Nat} (hd : ds[k]? = some d) (hb : k < 2 ^ 62) : popO l k S (some (.lst ds)) = .ok d (S.set l (.lst (ds.eraseIdx k))) := by
  have hk : k < ds.length := (List.getElem?_eq_some_iff.mp hd).1
  have h1 : seqIndex? (k : Int) ds.length = some k := by unfold seqIndex?; simp only [if_neg (show ¬ (k : Int) < 0 by omega)]; simp [hk]
  simp only [popO, h1, hd]
  rw [if_pos (by omega)]
@[simp] theorem popO_0 : popO l 0 S (some (.lst (d :: ds))) = .ok d (S.set l (.lst ds)) := popO_nat (k := 0) rfl (by omega)
@[simp] theorem e_popO : popD (.loc l) [.int i] S = popO l i S S[l]? := by
  unfold popO
  split
  · rename_i ds h; simp only [popD, mutL, h] <;> rfl
  · rfl
def tyO (T : String) (l : Nat) (S : Store) : Option Ob → Bool
  | some (.lst _) => T == "list"
  | _ => tyOk T S (.loc l)
@[simp] theorem tyO_lst {T : String} : tyO T l S (some (.lst ds)) = (T == "list") := (rfl)
@[simp] theorem e_tyO {T : String} : tyOk T S (.loc l) = tyO T l S S[l]? := by
  unfold tyO
  split
  · rename_i ds h; simp [tyOk, h]
  · rfl
def tupO (l : Nat) (S : Store) : Option Ob → Res D
  | some (.lst ds) => .ok (.tup ds) S
  | _ => tupleD [.loc l] S
@[simp] theorem tupO_lst : tupO l S (some (.lst ds)) = .ok (.tup ds) S := (rfl)
@[simp] theorem e_tupO : tupleD [.loc l] S = tupO l S S[l]? := by
  unfold tupO
  split
  · rename_i ds h; exact e_tuple_loc h
  · rfl
def pyO (l : Nat) (S : Store) : Option Ob → Option PyData
  | some (.lst ds) => (toPys ds).map .list
  | _ => pyS S (.loc l)
@[simp] theorem pyO_lst : pyO l S (some (.lst ds)) = (toPys ds).map .list := (rfl)
@[simp] theorem e_pyO : pyS S (.loc l) = pyO l S S[l]? := by
  unfold pyO
  split
  · rename_i ds h; simp [pyS, h]
  · rfl
@[simp] theorem pyS_lst : pyS S (.lst ds) = (toPys ds).map .list := (rfl)
@[simp] theorem pyS_frz : pyS S (.frz ds) = (toPys ds).map .list := (rfl)
@[simp] theorem pyS_tup : pyS S (.tup ds) = (toPys ds).map .tuple := (rfl)
@[simp] theorem pyS_int : pyS S (.int i) = some (.int i) := (rfl)
@[simp] theorem pyS_str {x : Str} : pyS S (.str x) = some (.str x) := (rfl)
@[simp] theorem pyS_non : pyS S .non = some .none := (rfl)
@[simp] theorem pyS_bl {b : Bool} : pyS S (.bl b) = some (.bool b) := (rfl)
/-- comparing two whose data are known -/
def eqO (n : Bool) (S : Store) : Option PyData → Option PyData → Res D
  | some p, some q => if SeqAt.shaped p = true ∧ SeqAt.shaped q = true then .ok (.bl (xor n (PyData.eqv p q))) S else .stuck
  | _, _ => .stuck
theorem e_eqO {n : Bool} {d e : D} : eqD n d e S = eqO n S (pyS S d) (pyS S e) := by
  unfold eqD eqO
  split <;> simp_all
@[simp] theorem eqO_some {n : Bool} {p q : PyData} (hp : SeqAt.shaped p = true) (hq : SeqAt.shaped q = true) : eqO n S (some p) (some q) = .ok (.bl (xor n (PyData.eqv p q))) S := if_pos ⟨hp, hq⟩
end
/-! ### what a def gives back; the bounds of arithmetic -/
def retK (r : Res Fl) : Res D := match r with
  | .ok (.rt d) S' => .ok d S'
  | .ok (.nx _) S' => .ok .non S'
  | .ok (.ex c fs _) S' => .exc c fs S'
  | _ => .stuck
theorem den_eq (n : Nat) (m : DSt → Store → Res Fl) (ds : List D) (S : Store) : denOf n m ds S = retK (m (ds.map some ++ List.replicate (n - ds.length) none) S) := (rfl)
@[simp] theorem retK_rt (d : D) (S : Store) : retK (.ok (.rt d) S) = .ok d S := (rfl)
@[simp] theorem retK_nx (σ : DSt) (S : Store) : retK (.ok (.nx σ) S) = .ok .non S := (rfl)
@[simp] theorem retK_ex (c : Str) (fs : List (Str × D)) (σ : DSt) (S : Store) : retK (.ok (.ex c fs σ) S) = .exc c fs S := (rfl)
@[simp] theorem divOk {i j : Int} (h : 0 < j) (h2 : j < 18446744073709551616) : CDivW i j := by
  refine ⟨h, ?_⟩
  have : j.natAbs ≠ 0 := by omega
  have h3 : j.natAbs.log2 < 64 := (Nat.log2_lt this).mpr (by omega)
  omega
@[simp] theorem mulOkR {i j : Int} (h : -(2 ^ 64) < j) (h2 : j < 2 ^ 64) : (CMul i j ∨ CMulW i j) = True := eq_true (.inl (.inr ⟨h, h2⟩))
@[simp] theorem mulOkL {i j : Int} (h : -(2 ^ 64) < i) (h2 : i < 2 ^ 64) : (CMul i j ∨ CMulW i j) = True := eq_true (.inl (.inl ⟨h, h2⟩))
@[simp] theorem pow1018 : CPowX 10 18 = True := eq_true (by decide)
@[simp] theorem size_eq : sizeLine = 16777216 := by decide
theorem e_mT (m : DSt → Store → Res D) (σ : DSt) (S : Store) : mT m σ S = (m σ S).bind fun d S1 => truK d S1 := by
  unfold mT
  congr 1
@[simp] theorem e_mT' (m : DSt → Store → Res D) (σ : DSt) (S : Store) : mT m σ S = (m σ S).bind fun d S1 => truK d S1 := e_mT m σ S
/-! ### Ok: it comes to an end well -/
def Ok {α : Type} (r : Res α) (P : α → Store → Prop) : Prop := ∃ a S, r = .ok a S ∧ P a S
@[simp] theorem Ok_ok {α : Type} {a : α} {S : Store} {P : α → Store → Prop} : Ok (.ok a S) P ↔ P a S := ⟨fun ⟨_, _, e, h⟩ => by cases e; exact h, fun h => ⟨_, _, rfl, h⟩⟩
theorem Ok.imp {α : Type} {r : Res α} {P Q : α → Store → Prop} (h : Ok r P) (k : ∀ a S, P a S → Q a S) : Ok r Q := let ⟨a, S, e, p⟩ := h; ⟨a, S, e, k a S p⟩
theorem Ok.bind {α β : Type} {r : Res α} {f : α → Store → Res β} {P : α → Store → Prop} {Q : β → Store → Prop} (h : Ok r P) (k : ∀ a S, P a S → Ok (f a S) Q) : Ok (r.bind f) Q := by
  obtain ⟨a, S, rfl, p⟩ := h; exact k a S p
theorem Ok.bindG {α β : Type} {r : Res α} {f : α → Store → Res β} {P : α → Store → Prop} {Q : β → Store → Prop} (h : Ok r P) (k : ∀ a S, P a S → Ok (f a S) Q) : Ok (L3.bindG r f) Q := by
  obtain ⟨a, S, rfl, p⟩ := h; exact k a S p
theorem Ok.liftE {α : Type} {r : Res α} {σ : DSt} {f : α → Store → Res Fl} {P : α → Store → Prop} {Q : Fl → Store → Prop} (h : Ok r P) (k : ∀ a S, P a S → Ok (f a S) Q) : Ok (L3.liftE r σ f) Q := by
  obtain ⟨a, S, rfl, p⟩ := h; exact k a S p
theorem Ok.noX {r : Res D} {P : D → Store → Prop} (h : Ok r P) : Ok (L3.noX r) P := by
  obtain ⟨a, S, rfl, p⟩ := h; exact ⟨a, S, rfl, p⟩
/-! ### loops -/
/-- what a turn of a loop leads to -/
def Turn (N : DSt → Store → Prop) (B : DSt → Store → Prop) (R : D → Store → Prop) : Fl → Store → Prop
  | .nx σ, S => N σ S
  | .ct σ, S => N σ S
  | .bk σ, S => B σ S
  | .rt d, S => R d S
  | _, _ => False
/-- what a loop leads to -/
def Done (N : DSt → Store → Prop) (R : D → Store → Prop) : Fl → Store → Prop
  | .nx σ, S => N σ S
  | .rt d, S => R d S
  | _, _ => False
@[simp] theorem Turn_nx {N B : DSt → Store → Prop} {R : D → Store → Prop} {σ : DSt} {S : Store} : Turn N B R (.nx σ) S ↔ N σ S := (Iff.rfl)
@[simp] theorem Turn_ct {N B : DSt → Store → Prop} {R : D → Store → Prop} {σ : DSt} {S : Store} : Turn N B R (.ct σ) S ↔ N σ S := (Iff.rfl)
@[simp] theorem Turn_bk {N B : DSt → Store → Prop} {R : D → Store → Prop} {σ : DSt} {S : Store} : Turn N B R (.bk σ) S ↔ B σ S := (Iff.rfl)
@[simp] theorem Turn_rt {N B : DSt → Store → Prop} {R : D → Store → Prop} {d : D} {S : Store} : Turn N B R (.rt d) S ↔ R d S := (Iff.rfl)
@[simp] theorem Done_nx {N : DSt → Store → Prop} {R : D → Store → Prop} {σ : DSt} {S : Store} : Done N R (.nx σ) S ↔ N σ S := (Iff.rfl)
@[simp] theorem Done_rt {N : DSt → Store → Prop} {R : D → Store → Prop} {d : D} {S : Store} : Done N R (.rt d) S ↔ R d S := (Iff.rfl)
theorem forGo_ok {gd : List (Nat × Ob)} {g : D → DSt → Store → Res DSt} {b : DSt → Store → Res Fl} (I : Nat → DSt → Store → Prop) (N : DSt → Store → Prop) (R : D → Store → Prop) : ∀ (ds : List D) (k : Nat) {σ : DSt} {S : Store}, I k σ S →
    (∀ j σ S, I j σ S → gOk gd S) →
    (∀ j d σ S, ds[j]? = some d → I (k + j) σ S → Ok (bindG (g d σ S) b) (Turn (I (k + j + 1)) N R)) →
    (∀ σ S, I (k + ds.length) σ S → N σ S) → Ok (forGo gd g b ds σ S) (Done N R)
  | [], k, σ, S, h, hg, _, he => by
    simp only [forGo, if_pos (hg _ _ _ h), Ok_ok]
    exact he _ _ h
  | d :: ds, k, σ, S, h, hg, hs, he => by
    simp only [forGo, if_pos (hg _ _ _ h)]
    have h1 := hs 0 d σ S rfl h
    cases hgd : g d σ S with
    | ok σ1 S1 =>
      rw [hgd] at h1
      simp only [bindG_ok] at h1 ⊢
      obtain ⟨fl, S2, e, t⟩ := h1
      rw [e]
      have hrec : ∀ σ2 : DSt, I (k + 1) σ2 S2 → Ok (forGo gd g b ds σ2 S2) (Done N R) := fun σ2 t => forGo_ok I N R ds (k + 1) t hg
        (fun j d σ S hd hi => by
          have := hs (j + 1) d σ S (by simpa using hd) (by rw [show k + (j + 1) = k + 1 + j by omega]; exact hi)
          rwa [show k + (j + 1) + 1 = k + 1 + j + 1 by omega] at this)
        (fun σ S hi => he σ S (by rw [List.length_cons, show k + (ds.length + 1) = k + 1 + ds.length by omega]; exact hi))
      cases fl with
      | nx σ2 => exact hrec σ2 t
      | ct σ2 => exact hrec σ2 t
      | bk σ2 => exact ⟨_, _, rfl, t⟩
      | rt d => exact ⟨_, _, rfl, t⟩
      | ex c fs σ2 => exact t.elim
    | exc c fs S1 => rw [hgd] at h1; obtain ⟨_, _, e, _⟩ := h1; cases e
    | stuck => rw [hgd] at h1; obtain ⟨_, _, e, _⟩ := h1; cases e
theorem lcGo_ok {gd : List (Nat × Ob)} {g : D → DSt → Store → Res DSt} {t : DSt → Store → Res Bool} {e : DSt → Store → Res D} {σ : DSt} (I : Nat → Store → List D → Prop) : ∀ (ds : List D) (k : Nat) {S : Store} (acc : List D), I k S acc →
    (∀ j S acc, I j S acc → gOk gd S) →
    (∀ j d S acc, ds[j]? = some d → I (k + j) S acc → Ok (bindG (g d σ S) fun σ1 S1 => bindG (t σ1 S1) fun c S2 => if c = true then bindG (e σ1 S2) fun y S3 => .ok (some y) S3 else .ok none S2)
      fun y S3 => I (k + j + 1) S3 (acc ++ y.toList)) →
    Ok (lcGo gd g t e σ ds S) fun ys S' => I (k + ds.length) S' (acc ++ ys)
  | [], k, S, acc, h, hg, _ => by
    simp only [lcGo, if_pos (hg _ _ _ h), Ok_ok, List.append_nil]
    exact h
  | d :: ds, k, S, acc, h, hg, hs => by
    simp only [lcGo, if_pos (hg _ _ _ h)]
    have h1 := hs 0 d S acc rfl h
    have hrec : ∀ (y : List D) (S2 : Store), I (k + 1) S2 (acc ++ y) → Ok (lcGo gd g t e σ ds S2) fun ys S' => I (k + (ds.length + 1)) S' (acc ++ y ++ ys) := fun y S2 hi => by
      have := lcGo_ok I ds (k + 1) (acc ++ y) hi hg (fun j d S acc hd hi => by
        have := hs (j + 1) d S acc (by simpa using hd) (by rw [show k + (j + 1) = k + 1 + j by omega]; exact hi)
        rwa [show k + (j + 1) + 1 = k + 1 + j + 1 by omega] at this)
      rwa [show k + 1 + ds.length = k + (ds.length + 1) by omega] at this
    cases hgd : g d σ S with
    | ok σ1 S1 =>
      rw [hgd] at h1
      simp only [bindG_ok] at h1 ⊢
      cases ht : t σ1 S1 with
      | ok c S2 =>
        rw [ht] at h1
        simp only [bindG_ok] at h1 ⊢
        by_cases hc : c = true
        · rw [if_pos hc] at h1 ⊢
          cases he : e σ1 S2 with
          | ok y S3 =>
            rw [he] at h1
            simp only [bindG_ok, Ok_ok, Option.toList_some] at h1 ⊢
            exact Ok.bindG (hrec [y] S3 h1) fun ys S4 h4 => ⟨_, _, rfl, by simpa using h4⟩
          | exc c fs S1 => rw [he] at h1; obtain ⟨_, _, e, _⟩ := h1; cases e
          | stuck => rw [he] at h1; obtain ⟨_, _, e, _⟩ := h1; cases e
        · rw [if_neg hc] at h1 ⊢
          simp only [Ok_ok, Option.toList_none] at h1
          have := hrec [] S2 h1
          rw [List.append_nil] at this
          exact this
      | exc c fs S1 => rw [ht] at h1; obtain ⟨_, _, e, _⟩ := h1; cases e
      | stuck => rw [ht] at h1; obtain ⟨_, _, e, _⟩ := h1; cases e
    | exc c fs S1 => rw [hgd] at h1; obtain ⟨_, _, e, _⟩ := h1; cases e
    | stuck => rw [hgd] at h1; obtain ⟨_, _, e, _⟩ := h1; cases e
/-- after a loop: where it ended well, what comes next -/
theorem Ok.then {r : Res Fl} {f : DSt → Store → Res Fl} {N N2 : DSt → Store → Prop} {R : D → Store → Prop} (h : Ok r (Done N R)) (k : ∀ σ S, N σ S → Ok (f σ S) (Done N2 R)) : Ok (thenS r f) (Done N2 R) := by
  obtain ⟨fl, S, rfl, h⟩ := h
  cases fl with
  | rt d => exact ⟨_, S, rfl, h⟩
  | nx σ => exact k σ S h
  | _ => exact h.elim
/-- a loop over things that stay (no break) and what comes next -/
theorem Ok.loop {g : D → DSt → Store → Res DSt} {b : DSt → Store → Res Fl} {ds : List D} {σ : DSt} {S : Store} {f : DSt → Store → Res Fl} {N2 : DSt → Store → Prop} {R : D → Store → Prop} (I : Nat → DSt → Store → Prop) (h0 : I 0 σ S)
    (hs : ∀ j d σ S, ds[j]? = some d → I j σ S → Ok (L3.bindG (g d σ S) b) (Turn (I (j + 1)) (fun _ _ => False) R)) (k : ∀ σ S, I ds.length σ S → Ok (f σ S) (Done N2 R)) : Ok (thenS (forGo [] g b ds σ S) f) (Done N2 R) := by
  refine Ok.then (N := I ds.length) (R := R) (forGo_ok (gd := []) (fun j σ S => I j σ S) (fun σ S => I ds.length σ S) R ds 0 h0 (fun _ _ _ _ => fun _ h => (List.not_mem_nil h).elim) (fun j d σ S hd hi => ?_) (fun σ S hi => by rwa [Nat.zero_add] at hi)) k
  rw [Nat.zero_add] at hi ⊢
  refine (hs j d σ S hd hi).imp fun fl S' t => ?_
  cases fl with
  | bk σ => exact t.elim
  | _ => exact t
theorem Ok.ret {r : Res Fl} {P : D → Store → Prop} {N : DSt → Store → Prop} (h : Ok r (Done N P)) (hn : ∀ σ S, N σ S → P .non S) : Ok (retK r) P := by
  obtain ⟨fl, S, rfl, h⟩ := h
  cases fl with
  | rt d => exact ⟨d, S, rfl, h⟩
  | nx σ => exact ⟨_, S, rfl, hn σ S h⟩
  | _ => exact h.elim
end L3
namespace L3
open PySem PySem.Spec L2
/-! ### texts by their signs -/
def tx (l : List Nat) : Str := ⟨l.toArray⟩
section
variable {a b l : List Nat} {c : Nat}
@[simp] theorem tx_cps : (tx l).cps.toList = l := (rfl)
@[simp] theorem tx_len : (tx l).length = l.length := by simp [tx, Str.length]
theorem tx_cat : tx a ++ tx b = tx (a ++ b) := SX.S_cat a b
@[simp] theorem signsOf_tx : signsOf (tx l) = l.map chr := (rfl)
@[simp] theorem revS_tx : revS (tx l) = tx l.reverse := (rfl)
theorem addTK {S : Store} (h : a.length + b.length ≤ 16777216) : addD (.str (tx a)) (.str (tx b)) S = .ok (.str (tx (a ++ b))) S := by
  have : (tx a).length + (tx b).length ≤ sizeLine := by simpa using h
  rw [e_addS, if_pos this, tx_cat]
end
/-! ### isinstance with a built-in class -/
section
variable {S : Store} {ds : List D} {x : Str} {i : Int} {b : Bool}
@[simp] theorem isi_tuple_tup : isiD "tuple" (.tup ds) S = .ok (.bl true) S := by
  have h : kitB "tuple" "tuple" = some true := by decide +kernel
  simp only [isiD, tyName, h]
@[simp] theorem isi_tuple_ktp : isiD "tuple" (.ktp ds) S = .ok (.bl true) S := by
  have h : kitB "tuple" "tuple" = some true := by decide +kernel
  simp [isiD, tyName, h]
@[simp] theorem isi_tuple_str : isiD "tuple" (.str x) S = .ok (.bl false) S := by
  have h : kitB "str" "tuple" = some false := by decide +kernel
  simp only [isiD, tyName, h]
@[simp] theorem isi_tuple_int : isiD "tuple" (.int i) S = .ok (.bl false) S := by
  have h : kitB "int" "tuple" = some false := by decide +kernel
  simp only [isiD, tyName, h]
@[simp] theorem isi_tuple_bl : isiD "tuple" (.bl b) S = .ok (.bl false) S := by
  have h : kitB "bool" "tuple" = some false := by decide +kernel
  simp only [isiD, tyName, h]
@[simp] theorem isi_tuple_lst : isiD "tuple" (.lst ds) S = .ok (.bl false) S := by
  have h : kitB "list" "tuple" = some false := by decide +kernel
  simp only [isiD, tyName, h]
@[simp] theorem isi_tuple_non : isiD "tuple" .non S = .ok (.bl false) S := by
  have h : kitB "NoneType" "tuple" = some false := by decide +kernel
  simp only [isiD, tyName, h]
@[simp] theorem isi_str_tup : isiD "str" (.tup ds) S = .ok (.bl false) S := by
  have h : kitB "tuple" "str" = some false := by decide +kernel
  simp only [isiD, tyName, h]
@[simp] theorem isi_str_str : isiD "str" (.str x) S = .ok (.bl true) S := by
  have h : kitB "str" "str" = some true := by decide +kernel
  simp only [isiD, tyName, h]
@[simp] theorem isi_str_int : isiD "str" (.int i) S = .ok (.bl false) S := by
  have h : kitB "int" "str" = some false := by decide +kernel
  simp only [isiD, tyName, h]
@[simp] theorem isi_str_bl : isiD "str" (.bl b) S = .ok (.bl false) S := by
  have h : kitB "bool" "str" = some false := by decide +kernel
  simp only [isiD, tyName, h]
@[simp] theorem isi_str_lst : isiD "str" (.lst ds) S = .ok (.bl false) S := by
  have h : kitB "list" "str" = some false := by decide +kernel
  simp only [isiD, tyName, h]
@[simp] theorem isi_str_non : isiD "str" .non S = .ok (.bl false) S := by
  have h : kitB "NoneType" "str" = some false := by decide +kernel
  simp only [isiD, tyName, h]
@[simp] theorem isi_int_tup : isiD "int" (.tup ds) S = .ok (.bl false) S := by
  have h : kitB "tuple" "int" = some false := by decide +kernel
  simp only [isiD, tyName, h]
@[simp] theorem isi_int_str : isiD "int" (.str x) S = .ok (.bl false) S := by
  have h : kitB "str" "int" = some false := by decide +kernel
  simp only [isiD, tyName, h]
@[simp] theorem isi_int_int : isiD "int" (.int i) S = .ok (.bl true) S := by
  have h : kitB "int" "int" = some true := by decide +kernel
  simp only [isiD, tyName, h]
@[simp] theorem isi_int_bl : isiD "int" (.bl b) S = .ok (.bl true) S := by
  have h : kitB "bool" "int" = some true := by decide +kernel
  simp only [isiD, tyName, h]
@[simp] theorem isi_int_lst : isiD "int" (.lst ds) S = .ok (.bl false) S := by
  have h : kitB "list" "int" = some false := by decide +kernel
  simp only [isiD, tyName, h]
@[simp] theorem isi_int_non : isiD "int" .non S = .ok (.bl false) S := by
  have h : kitB "NoneType" "int" = some false := by decide +kernel
  simp only [isiD, tyName, h]
@[simp] theorem isi_bool_tup : isiD "bool" (.tup ds) S = .ok (.bl false) S := by
  have h : kitB "tuple" "bool" = some false := by decide +kernel
  simp only [isiD, tyName, h]
@[simp] theorem isi_bool_str : isiD "bool" (.str x) S = .ok (.bl false) S := by
  have h : kitB "str" "bool" = some false := by decide +kernel
  simp only [isiD, tyName, h]
@[simp] theorem isi_bool_int : isiD "bool" (.int i) S = .ok (.bl false) S := by
  have h : kitB "int" "bool" = some false := by decide +kernel
  simp only [isiD, tyName, h]
@[simp] theorem isi_bool_bl : isiD "bool" (.bl b) S = .ok (.bl true) S := by
  have h : kitB "bool" "bool" = some true := by decide +kernel
  simp only [isiD, tyName, h]
@[simp] theorem isi_bool_lst : isiD "bool" (.lst ds) S = .ok (.bl false) S := by
  have h : kitB "list" "bool" = some false := by decide +kernel
  simp only [isiD, tyName, h]
@[simp] theorem isi_bool_non : isiD "bool" .non S = .ok (.bl false) S := by
  have h : kitB "NoneType" "bool" = some false := by decide +kernel
  simp only [isiD, tyName, h]
@[simp] theorem isi_list_tup : isiD "list" (.tup ds) S = .ok (.bl false) S := by
  have h : kitB "tuple" "list" = some false := by decide +kernel
  simp only [isiD, tyName, h]
@[simp] theorem isi_list_str : isiD "list" (.str x) S = .ok (.bl false) S := by
  have h : kitB "str" "list" = some false := by decide +kernel
  simp only [isiD, tyName, h]
@[simp] theorem isi_list_int : isiD "list" (.int i) S = .ok (.bl false) S := by
  have h : kitB "int" "list" = some false := by decide +kernel
  simp only [isiD, tyName, h]
@[simp] theorem isi_list_bl : isiD "list" (.bl b) S = .ok (.bl false) S := by
  have h : kitB "bool" "list" = some false := by decide +kernel
  simp only [isiD, tyName, h]
@[simp] theorem isi_list_lst : isiD "list" (.lst ds) S = .ok (.bl true) S := by
  have h : kitB "list" "list" = some true := by decide +kernel
  simp only [isiD, tyName, h]
@[simp] theorem isi_list_non : isiD "list" .non S = .ok (.bl false) S := by
  have h : kitB "NoneType" "list" = some false := by decide +kernel
  simp only [isiD, tyName, h]
@[simp] theorem isi_dict_tup : isiD "dict" (.tup ds) S = .ok (.bl false) S := by
  have h : kitB "tuple" "dict" = some false := by decide +kernel
  simp only [isiD, tyName, h]
@[simp] theorem isi_dict_str : isiD "dict" (.str x) S = .ok (.bl false) S := by
  have h : kitB "str" "dict" = some false := by decide +kernel
  simp only [isiD, tyName, h]
@[simp] theorem isi_dict_int : isiD "dict" (.int i) S = .ok (.bl false) S := by
  have h : kitB "int" "dict" = some false := by decide +kernel
  simp only [isiD, tyName, h]
@[simp] theorem isi_dict_bl : isiD "dict" (.bl b) S = .ok (.bl false) S := by
  have h : kitB "bool" "dict" = some false := by decide +kernel
  simp only [isiD, tyName, h]
@[simp] theorem isi_dict_lst : isiD "dict" (.lst ds) S = .ok (.bl false) S := by
  have h : kitB "list" "dict" = some false := by decide +kernel
  simp only [isiD, tyName, h]
@[simp] theorem isi_dict_non : isiD "dict" .non S = .ok (.bl false) S := by
  have h : kitB "NoneType" "dict" = some false := by decide +kernel
  simp only [isiD, tyName, h]
end
@[simp] theorem set_last (r : Store) (x y : Ob) : (r ++ [x]).set r.length y = r ++ [y] := by
  rw [List.set_append_right _ _ (Nat.le_refl _), Nat.sub_self]
  rfl
/-! ### the draws' state: the great cells, the seed -/
def drw (g : List Int) (s : Int) (r : Store) : Store := .lst (g.map D.int) :: .lst [.loc 0, .int s] :: r
section
variable {g : List Int} {s : Int} {r q : Store}
@[simp high] theorem drw0 (g : List Int) (s : Int) (r : Store) : (drw g s r)[0]? = some (.lst (g.map D.int)) := rfl
@[simp high] theorem drw1 (g : List Int) (s : Int) (r : Store) : (drw g s r)[1]? = some (.lst [.loc 0, .int s]) := rfl
@[simp] theorem drw_len : (drw g s r).length = r.length + 2 := (rfl)
@[simp high] theorem drw_get (n : Nat) : (drw g s r)[n + 2]? = r[n]? := (rfl)
@[simp] theorem drw_set (n : Nat) (o : Ob) : (drw g s r).set (n + 2) o = drw g s (r.set n o) := (rfl)
@[simp] theorem drw_app : drw g s r ++ q = drw g s (r ++ q) := (rfl)
end
end L3
namespace L3
open PySem PySem.Spec L2
/-! ### plain data: texts, whole numbers, none, tuples and lists of such; comparing them -/
mutual
def D.pl (k : Nat) : D → Bool
  | .non => true
  | .int _ => true
  | .str x => x.cps.all (· < 1114112)
  | .tup ds => match k with
    | 0 => false
    | k + 1 => D.pls k ds
  | .lst ds => match k with
    | 0 => false
    | k + 1 => D.pls k ds
  | _ => false
def D.pls (k : Nat) : List D → Bool
  | [] => true
  | d :: ds => D.pl k d && D.pls k ds
end
mutual
theorem pl_py : ∀ (k : Nat) (d : D), D.pl k d = true → ∃ p, toPy d = some p ∧ p.canLay0 = true ∧ p.depth ≤ k
  | k, .non, _ => ⟨_, rfl, rfl, by simp [PyData.depth]⟩
  | k, .int i, _ => ⟨_, rfl, rfl, by simp [PyData.depth]⟩
  | k, .str x, h => ⟨_, rfl, by simp only [PyData.canLay0, PyData.strOk]; simp only [D.pl] at h; exact h, by simp [PyData.depth]⟩
  | 0, .tup ds, h => by simp [D.pl] at h
  | k + 1, .tup ds, h => by
    simp only [D.pl] at h
    obtain ⟨ps, e, h1, h2⟩ := pls_py k ds h
    exact ⟨.tuple ps, by simp [toPy, e], by simpa [PyData.canLay0] using h1, by simp [PyData.depth]; omega⟩
  | 0, .lst ds, h => by simp [D.pl] at h
  | k + 1, .lst ds, h => by
    simp only [D.pl] at h
    obtain ⟨ps, e, h1, h2⟩ := pls_py k ds h
    exact ⟨.list ps, by simp [toPy, e], by simpa [PyData.canLay0] using h1, by simp [PyData.depth]; omega⟩
  | _, .bl _, h => by simp [D.pl] at h
  | _, .ktp _, h => by simp [D.pl] at h
  | _, .frz _, h => by simp [D.pl] at h
  | _, .loc _, h => by simp [D.pl] at h
theorem pls_py : ∀ (k : Nat) (ds : List D), D.pls k ds = true → ∃ ps, toPys ds = some ps ∧ PyData.canLayAll0 ps = true ∧ PyData.depthAll ps ≤ k
  | k, [], _ => ⟨[], rfl, rfl, by simp [PyData.depthAll]⟩
  | k, d :: ds, h => by
    simp only [D.pls, Bool.and_eq_true] at h
    obtain ⟨p, e1, a1, b1⟩ := pl_py k d h.1
    obtain ⟨ps, e2, a2, b2⟩ := pls_py k ds h.2
    exact ⟨p :: ps, by simp [toPys, e1, e2], by simp [PyData.canLayAll0, a1, a2], by simp [PyData.depthAll]; omega⟩
end
mutual
theorem eqv_pl : ∀ (k m : Nat) (d e : D) (p q : PyData), D.pl k d = true → D.pl m e = true → toPy d = some p → toPy e = some q → (PyData.eqv p q = true ↔ d = e)
  | k, m, d, e, p, q, h1, h2, e1, e2 => by
    cases d with
    | tup ds => cases e with
      | tup es => cases k with
        | zero => simp [D.pl] at h1
        | succ k => cases m with
          | zero => simp [D.pl] at h2
          | succ m =>
            simp only [D.pl] at h1 h2
            simp only [toPy, Option.map_eq_some_iff] at e1 e2
            obtain ⟨ps, e1, rfl⟩ := e1
            obtain ⟨qs, e2, rfl⟩ := e2
            have := eqv_pls k m ds es ps qs h1 h2 e1 e2
            simp [PyData.eqv, this]
      | _ => simp [toPy, Option.map_eq_some_iff] at e1 e2 <;> (try obtain ⟨ps, _, rfl⟩ := e1) <;> (try obtain ⟨qs, _, rfl⟩ := e2) <;> (try subst e2) <;> simp_all [PyData.eqv, D.pl]
    | lst ds => cases e with
      | lst es => cases k with
        | zero => simp [D.pl] at h1
        | succ k => cases m with
          | zero => simp [D.pl] at h2
          | succ m =>
            simp only [D.pl] at h1 h2
            simp only [toPy, Option.map_eq_some_iff] at e1 e2
            obtain ⟨ps, e1, rfl⟩ := e1
            obtain ⟨qs, e2, rfl⟩ := e2
            have := eqv_pls k m ds es ps qs h1 h2 e1 e2
            simp [PyData.eqv, this]
      | _ => simp [toPy, Option.map_eq_some_iff] at e1 e2 <;> (try obtain ⟨ps, _, rfl⟩ := e1) <;> (try obtain ⟨qs, _, rfl⟩ := e2) <;> (try subst e2) <;> simp_all [PyData.eqv, D.pl]
    | int i => cases e <;> simp [toPy, Option.map_eq_some_iff] at e1 e2 <;> subst e1 <;> (try obtain ⟨qs, _, rfl⟩ := e2) <;> (try subst e2) <;> simp_all [PyData.eqv, D.pl]
    | str i => cases e <;> simp [toPy, Option.map_eq_some_iff] at e1 e2 <;> subst e1 <;> (try obtain ⟨qs, _, rfl⟩ := e2) <;> (try subst e2) <;> simp_all [PyData.eqv, D.pl]
    | non => cases e <;> simp [toPy, Option.map_eq_some_iff] at e1 e2 <;> subst e1 <;> (try obtain ⟨qs, _, rfl⟩ := e2) <;> (try subst e2) <;> simp_all [PyData.eqv, D.pl]
    | _ => simp [D.pl] at h1
theorem eqv_pls : ∀ (k m : Nat) (ds es : List D) (ps qs : List PyData), D.pls k ds = true → D.pls m es = true → toPys ds = some ps → toPys es = some qs → (PyData.eqvAll ps qs = true ↔ ds = es)
  | k, m, [], [], ps, qs, _, _, e1, e2 => by
    simp [toPys] at e1 e2; subst e1 e2; simp [PyData.eqvAll]
  | k, m, [], e :: es, ps, qs, _, h2, e1, e2 => by
    obtain ⟨qs', e3, _⟩ := pls_py m (e :: es) h2
    simp only [D.pls, Bool.and_eq_true] at h2
    obtain ⟨q, f1, _⟩ := pl_py m e h2.1
    obtain ⟨qs2, f2, _⟩ := pls_py m es h2.2
    simp [toPys, f1, f2] at e1 e2
    subst e1 e2
    simp [PyData.eqvAll]
  | k, m, d :: ds, [], ps, qs, h1, _, e1, e2 => by
    simp only [D.pls, Bool.and_eq_true] at h1
    obtain ⟨q, f1, _⟩ := pl_py k d h1.1
    obtain ⟨qs2, f2, _⟩ := pls_py k ds h1.2
    simp [toPys, f1, f2] at e1 e2
    subst e1 e2
    simp [PyData.eqvAll]
  | k, m, d :: ds, e :: es, ps, qs, h1, h2, e1, e2 => by
    simp only [D.pls, Bool.and_eq_true] at h1 h2
    obtain ⟨p, f1, _⟩ := pl_py k d h1.1
    obtain ⟨ps2, f2, _⟩ := pls_py k ds h1.2
    obtain ⟨q, g1, _⟩ := pl_py m e h2.1
    obtain ⟨qs2, g2, _⟩ := pls_py m es h2.2
    simp [toPys, f1, f2, g1, g2] at e1 e2
    subst e1 e2
    have i1 := eqv_pl k m d e p q h1.1 h2.1 f1 g1
    have i2 := eqv_pls k m ds es ps2 qs2 h1.2 h2.2 f2 g2
    simp [PyData.eqvAll, i1, i2]
end
theorem pyS_pl {k : Nat} {d : D} (S : Store) (h : D.pl k d = true) : pyS S d = toPy d := by
  cases d <;> first | rfl | simp [D.pl] at h
open Classical in
/-- comparing plain data -/
theorem eqP {n : Bool} {d e : D} {S : Store} (h1 : D.pl 64 d = true) (h2 : D.pl 64 e = true) : eqD n d e S = .ok (.bl (xor n (decide (d = e)))) S := by
  obtain ⟨p, e1, a1, b1⟩ := pl_py 64 d h1
  obtain ⟨q, e2, a2, b2⟩ := pl_py 64 e h2
  rw [e_eqO, pyS_pl S h1, pyS_pl S h2, e1, e2]
  rw [eqO_some (by simp [SeqAt.shaped, a1, b1]) (by simp [SeqAt.shaped, a2, b2])]
  have := eqv_pl 64 64 d e p q h1 h2 e1 e2
  have h3 : PyData.eqv p q = decide (d = e) := by
    rw [Bool.eq_iff_iff, this, decide_eq_true_eq]
  rw [h3]
theorem eqSelf {n : Bool} {d : D} {S : Store} (h1 : D.pl 64 d = true) : eqD n d d S = .ok (.bl (!n)) S := by
  rw [eqP h1 h1]
  simp
@[simp] theorem pl_int (k : Nat) (i : Int) : D.pl k (.int i) = true := by cases k <;> rfl
@[simp] theorem pl_tup (k : Nat) (ds : List D) : D.pl (k + 1) (.tup ds) = D.pls k ds := by simp [D.pl]
@[simp] theorem pl_lst (k : Nat) (ds : List D) : D.pl (k + 1) (.lst ds) = D.pls k ds := by simp [D.pl]
@[simp] theorem pls_nil (k : Nat) : D.pls k [] = true := by simp [D.pls]
@[simp] theorem pls_cons (k : Nat) (d : D) (ds : List D) : D.pls k (d :: ds) = (D.pl k d && D.pls k ds) := by simp [D.pls]
/-! ### more readings -/
section
variable {σ : DSt} {S : Store} {ds es : List D} {d e : D}
def zipK (ds : List D) (S : Store) : Res Src := match ds with
  | [d, e] => match lstSrc d S, lstSrc e S with
    | some s1, some s2 => .ok ⟨zipD s1.items s2.items, s1.guard ++ s2.guard⟩ S
    | _, _ => match rdT d, rdT e with
      | some a, some b => .ok ⟨zipD a b, []⟩ S
      | _, _ => .stuck
  | _ => .stuck
@[simp] theorem e_zip (ms : DSt → Store → Res (List D)) : mZip ms σ S = (ms σ S).bind fun ds S1 => zipK ds S1 := (rfl)
@[simp] theorem zipK_tup : zipK [.tup ds, .tup es] S = .ok ⟨zipD ds es, []⟩ S := (rfl)
@[simp] theorem zipK_lst : zipK [.lst ds, .lst es] S = .ok ⟨zipD ds es, []⟩ S := (rfl)
theorem blsOf_map : ∀ bs : List Bool, blsOf (bs.map D.bl) = some bs
  | [] => rfl
  | b :: bs => by simp [blsOf, blsOf_map bs]
theorem blsK (f : List Bool → D) (bs : List Bool) : onBls f [.lst (bs.map D.bl)] S = .ok (f bs) S := by
  have h : rdL S (.lst (bs.map D.bl)) = some (bs.map D.bl) := rfl
  simp only [onBls, h, blsOf_map]
@[simp] theorem blsK_rep (f : List Bool → D) (n : Nat) (b : Bool) : onBls f [.lst (List.replicate n (.bl b))] S = .ok (f (List.replicate n b)) S := by
  rw [← blsK f (List.replicate n b), List.map_replicate]
theorem cut_to (l : List Nat) (k : Nat) : cutS (tx l) none (some (k : Int)) = tx (l.take k) := by
  unfold cutS
  simp only [tx_cps, tx_len, HT.sIx_none, HT.sIx_nat, List.drop_zero, Nat.sub_zero]
  unfold tx
  congr 2
  rcases Nat.le_total k l.length with h | h
  · rw [Nat.min_eq_left h]
  · rw [Nat.min_eq_right h, List.take_length, List.take_of_length_le h]
end
/-! ### more of texts; sorted texts -/
theorem cut_from (l : List Nat) (k : Nat) : cutS (tx l) (some (k : Int)) none = tx (l.drop k) := by
  unfold cutS
  simp only [tx_cps, tx_len, HT.sIx_none, HT.sIx_nat]
  unfold tx
  congr 2
  rcases Nat.le_total k l.length with h | h
  · rw [Nat.min_eq_left h, List.take_of_length_le (by rw [List.length_drop]; omega)]
  · rw [Nat.min_eq_right h, List.drop_eq_nil_of_le h, List.drop_length]
    simp
/-! ### what is to be shown, kept out of simp's reach -/
def Unk (_ : Prop) : Type := Unit
def Hide (p : Prop) (_ : Unk p) : Prop := p
theorem Hide.mk {p : Prop} {x : Unk p} (h : p) : Hide p x := h
section
variable {κ : Type} [DecidableEq κ]
end
section
variable {S : Store} {l : Nat} {kvs : List (List Key × D)} {x y : Int}
def ixE (S : Store) : Option D → Res D
  | some e => .ok e S
  | none => .stuck
@[simp] theorem ixE_some (e : D) : ixE S (some e) = .ok e S := (rfl)
end
end L3
namespace L3
open PySem PySem.Spec L2
/-! ### what is wanted, read from the front: one rule for each reading -/
abbrev XEv := Str → List (Str × D) → Store → Prop
def WfX (E : XEv) (r : Res Fl) (N : DSt → Store → Prop) (R : D → Store → Prop) (B C : DSt → Store → Prop) : Prop := match r with
  | .ok (.nx σ) S => N σ S
  | .ok (.rt d) S => R d S
  | .ok (.bk σ) S => B σ S
  | .ok (.ct σ) S => C σ S
  | .ok (.ex c fs _) S => E c fs S
  | _ => False
abbrev noE : XEv := fun _ _ _ => False
abbrev Wf (r : Res Fl) (N : DSt → Store → Prop) (R : D → Store → Prop) (B C : DSt → Store → Prop) : Prop := WfX noE r N R B C
/-- two ways -/
def Br (b : Bool) (p q : Prop) : Prop := if b = true then p else q
theorem br_t {p q : Prop} (h : p) : Br true p q := h
theorem br_f {p q : Prop} (h : q) : Br false p q := h
theorem br_dec {c : Prop} [i : Decidable c] {p q : Prop} (h : c → p) (h' : ¬ c → q) : Br (decide c) p q := by
  by_cases hc : c <;> simp_all [Br]
theorem br_not {b : Bool} {p q : Prop} (h : Br b q p) : Br (!b) p q := by cases b <;> simpa [Br] using h
theorem br_xt {b : Bool} {p q : Prop} (h : Br b q p) : Br (xor true b) p q := by cases b <;> simpa [Br] using h
theorem br_xf {b : Bool} {p q : Prop} (h : Br b p q) : Br (xor false b) p q := by cases b <;> simpa [Br] using h
section
variable {α β : Type} {σ σ' : DSt} {S : Store} {E : XEv} {N B C : DSt → Store → Prop} {R : D → Store → Prop} {a b c : DSt → Store → Res D} {ta tb : DSt → Store → Res Bool} {ms : DSt → Store → Res (List D)} {Q : D → Store → Prop} {QB : Bool → Store → Prop} {QL : List D → Store → Prop} {QS : Src → Store → Prop} {QG : DSt → Store → Prop}
theorem WfX.imp {r : Res Fl} {N' B' C' : DSt → Store → Prop} {R' : D → Store → Prop} (h : WfX E r N R B C) (h1 : ∀ σ S, N σ S → N' σ S) (h2 : ∀ d S, R d S → R' d S) (h3 : ∀ σ S, B σ S → B' σ S) (h4 : ∀ σ S, C σ S → C' σ S) : WfX E r N' R' B' C' := by
  cases r with
  | ok fl S => cases fl with
    | nx σ => exact h1 _ _ h
    | rt d => exact h2 _ _ h
    | bk σ => exact h3 _ _ h
    | ct σ => exact h4 _ _ h
    | ex _ _ _ => exact h
  | _ => exact h
/-! statements -/
theorem w_seq {a b : DSt → Store → Res Fl} (h : WfX E (a σ S) (fun σ S => WfX E (b σ S) N R B C) R B C) : WfX E (mSeq a b σ S) N R B C := by
  unfold mSeq thenS
  revert h
  cases a σ S with
  | ok fl S1 => cases fl <;> exact fun h => h
  | _ => exact fun h => h
theorem w_skip (h : N σ S) : WfX E (mSkip σ S) N R B C := h
theorem w_nx (h : N σ S) : WfX E (.ok (.nx σ) S) N R B C := h
theorem w_rt {d : D} (h : R d S) : WfX E (.ok (.rt d) S) N R B C := h
theorem w_bk (h : B σ S) : WfX E (.ok (.bk σ) S) N R B C := h
theorem w_ct (h : C σ S) : WfX E (.ok (.ct σ) S) N R B C := h
theorem w_lift {r : Res α} {f : α → Store → Res Fl} (h : Ok r fun x S => WfX E (f x S) N R B C) : WfX E (liftE r σ f) N R B C := by
  obtain ⟨x, S1, rfl, h⟩ := h; exact h
theorem w_do (h : Ok (a σ S) fun _ S => N σ S) : WfX E (mDo a σ S) N R B C := w_lift h
theorem w_ret (h : Ok (a σ S) R) : WfX E (mRet a σ S) N R B C := w_lift h
theorem w_ifs {x y : DSt → Store → Res Fl} (h : Ok (ta σ S) fun t S => Br t (WfX E (x σ S) N R B C) (WfX E (y σ S) N R B C)) : WfX E (mIfS ta x y σ S) N R B C :=
  w_lift (h.imp fun t S1 h => by cases t <;> exact h)
theorem w_set {i : Nat} (h : Ok (a σ S) fun d S => ∀ σ', σ.set i (some d) = σ' → N σ' S) : WfX E (mSet i a σ S) N R B C := w_lift (h.imp fun t S1 h => h _ rfl)
theorem w_asg {g : D → DSt → Store → Res DSt} (h : Ok (a σ S) fun d S => Ok (g d σ S) N) : WfX E (mAsg a g σ S) N R B C := w_lift (h.imp fun t S1 h => by
  obtain ⟨x, S2, e, h⟩ := h
  rw [e]; exact h)
theorem w_par {i j : Nat} (h : Ok (ms σ S) fun ds S => ∃ x y, ds = [x, y] ∧ ∀ σ', (σ.set i (some x)).set j (some y) = σ' → N σ' S) : WfX E (mPar i j ms σ S) N R B C := w_lift (h.imp fun t S1 h => by
  obtain ⟨x, y, rfl, h⟩ := h
  exact h _ rfl)
theorem w_for {mi : DSt → Store → Res Src} {g : D → DSt → Store → Res DSt} {b : DSt → Store → Res Fl} (h : Ok (mi σ S) fun src S => WfX E (forGo src.guard g b src.items σ S) N R B C) : WfX E (mFor mi g b σ S) N R B C := w_lift h
/-! expressions -/
theorem k_ok {x : α} {Q : α → Store → Prop} (h : Q x S) : Ok (.ok x S) Q := ⟨_, _, rfl, h⟩
theorem k_eq {r : Res α} {x : α} {Q : α → Store → Prop} (e : r = .ok x S) (h : Q x S) : Ok r Q := ⟨_, _, e, h⟩
theorem k_bind {r : Res α} {f : α → Store → Res β} {Q : β → Store → Prop} (h : Ok r fun x S => Ok (f x S) Q) : Ok (r.bind f) Q := h.bind fun _ _ h => h
theorem k_bindG {r : Res α} {f : α → Store → Res β} {Q : β → Store → Prop} (h : Ok r fun x S => Ok (f x S) Q) : Ok (bindG r f) Q := h.bindG fun _ _ h => h
theorem k_if {p : Prop} [Decidable p] {r : Res α} {Q : α → Store → Prop} (hp : p) (h : Ok r Q) : Ok (if p then r else .stuck) Q := by rw [if_pos hp]; exact h
theorem k_var {i : Nat} {d : D} (e : σ[i]? = some (some d)) (h : Q d S) : Ok (mVar i σ S) Q := ⟨d, S, e_var' i e, h⟩
theorem k_C {d : D} (h : Q d S) : Ok (mC d σ S) Q := ⟨_, _, rfl, h⟩
theorem k_m2 {f : D → D → Store → Res D} (h : Ok (a σ S) fun x S => Ok (b σ S) fun y S => Ok (f x y S) Q) : Ok (m2 a b f σ S) Q := k_bind (h.imp fun _ _ h => k_bind h)
theorem k_m1 {f : D → Store → Res D} (h : Ok (a σ S) fun x S => Ok (f x S) Q) : Ok (m1 a f σ S) Q := k_bind h
theorem k_nil (h : QL [] S) : Ok (mNil σ S) QL := ⟨_, _, rfl, h⟩
theorem k_cons (h : Ok (a σ S) fun x S => Ok (ms σ S) fun xs S => QL (x :: xs) S) : Ok (mCons a ms σ S) QL := k_bind (h.imp fun _ _ h => k_bind (h.imp fun _ _ h => k_ok h))
theorem k_tup (h : Ok (ms σ S) fun ds S => ds.length ≤ 16777216 ∧ Q (.tup ds) S) : Ok (mTup ms σ S) Q := k_bind (h.imp fun ds S h => k_if (by rw [size_eq]; exact h.1) (k_ok h.2))
theorem k_lst (h : Ok (ms σ S) fun ds S => ds.length ≤ 16777216 ∧ Q (.lst ds) S) : Ok (mLst ms σ S) Q := k_bind (h.imp fun ds S h => k_if (by rw [size_eq]; exact h.1) (k_ok h.2))
theorem k_lstM (h : Ok (ms σ S) fun ds S => ds.length ≤ 16777216 ∧ Q (.loc S.length) (S ++ [.lst ds])) : Ok (mLstM ms σ S) Q := k_bind (h.imp fun ds S h => k_if (by rw [size_eq]; exact h.1) (k_ok h.2))
theorem k_andV (h : Ok (a σ S) fun x S => ∃ t, x = .bl t ∧ Br t (Ok (b σ S) Q) (Q (.bl false) S)) : Ok (mAndV a b σ S) Q := k_bind (h.imp fun x S h => by
  obtain ⟨t, rfl, h⟩ := h
  cases t
  · exact k_ok h
  · exact h)
theorem k_orV (h : Ok (a σ S) fun x S => ∃ t, x = .bl t ∧ Br t (Q (.bl true) S) (Ok (b σ S) Q)) : Ok (mOrV a b σ S) Q := k_bind (h.imp fun x S h => by
  obtain ⟨t, rfl, h⟩ := h
  cases t
  · exact h
  · exact k_ok h)
theorem k_notV (h : Ok (a σ S) fun x S => ∃ t, x = .bl t ∧ Q (.bl (!t)) S) : Ok (mNotV a σ S) Q := k_bind (h.imp fun x S h => by
  obtain ⟨t, rfl, h⟩ := h
  exact k_ok h)
theorem k_ifx (h : Ok (ta σ S) fun t S => Br t (Ok (a σ S) Q) (Ok (b σ S) Q)) : Ok (mIf ta a b σ S) Q := k_bind (h.imp fun t S h => by cases t <;> exact h)
theorem k_neg (h : Ok (a σ S) fun x S => ∃ i, x = .int i ∧ Q (.int (-i)) S) : Ok (mNeg a σ S) Q := k_bind (h.imp fun x S h => by
  obtain ⟨t, rfl, h⟩ := h
  exact k_ok h)
theorem k_ch {f g : D → D → Store → Res D} (h : Ok (a σ S) fun x S => Ok (b σ S) fun y S => Ok (f x y S) fun z S => ∃ t, z = .bl t ∧ Br t (Ok (c σ S) fun w S => Ok (g y w S) Q) (Q (.bl false) S)) : Ok (mCh a b c f g σ S) Q :=
  k_bind (h.imp fun x S h => k_bind (h.imp fun y S h => k_bind (h.imp fun z S h => by
    obtain ⟨t, rfl, h⟩ := h
    cases t
    · exact k_ok h
    · exact k_bind h)))
/-! tests -/
theorem k_mT (h : Ok (a σ S) fun x S => ∃ t, x = .bl t ∧ QB t S) : Ok (mT a σ S) QB := k_bind (h.imp fun x S h => by
  obtain ⟨t, rfl, h⟩ := h
  exact k_ok h)
theorem k_andT (h : Ok (ta σ S) fun t S => Br t (Ok (tb σ S) QB) (QB false S)) : Ok (mAndT ta tb σ S) QB := k_bind (h.imp fun t S h => by
  cases t
  · exact k_ok h
  · exact h)
theorem k_orT (h : Ok (ta σ S) fun t S => Br t (QB true S) (Ok (tb σ S) QB)) : Ok (mOrT ta tb σ S) QB := k_bind (h.imp fun t S h => by
  cases t
  · exact h
  · exact k_ok h)
theorem k_notT (h : Ok (ta σ S) fun t S => QB (!t) S) : Ok (mNotT ta σ S) QB := k_bind (h.imp fun t S h => k_ok h)
theorem bl_of {t : Bool} {p : Bool → Prop} (h : p t) : ∃ u, D.bl t = .bl u ∧ p u := ⟨t, rfl, h⟩
theorem int_of {t : Int} {p : Int → Prop} (h : p t) : ∃ u, D.int t = .int u ∧ p u := ⟨t, rfl, h⟩
/-! calls -/
theorem k_cb {g : List D → Store → Res D} (h : Ok (ms σ S) fun ds S => Ok (g ds S) Q) : Ok (mCB g ms σ S) Q := k_bind h
theorem k_call {n : Nat} {den : List D → Store → Res D} (h : Ok (ms σ S) fun ds S => ds.length = n ∧ Ok (den ds S) Q) : Ok (mCall n den ms σ S) Q := k_bind (h.imp fun ds S h => k_if h.1 (by
  obtain ⟨x, S1, e, q⟩ := h.2
  exact ⟨x, S1, by rw [e]; rfl, q⟩))
theorem k_bm {T : String} {g : D → List D → Store → Res D} (h : Ok (a σ S) fun d S => tyOk T S d = true ∧ Ok (ms σ S) fun ds S => Ok (g d ds S) Q) : Ok (mBM T g a ms σ S) Q := k_bind (h.imp fun d S h => k_if h.1 (k_bind h.2))
theorem k_get1 (h : Ok (a σ S) fun d S => isDl S d = true ∧ Ok (b σ S) fun k S => ∃ o, dlook S d k = some o ∧ Q (o.getD .non) S) : Ok (mGet1 a b σ S) Q := k_bind (h.imp fun d S h => k_if h.1 (k_bind (h.2.imp fun k S h => by
  obtain ⟨o, e, h⟩ := h
  rw [e]
  cases o <;> exact k_ok h)))
theorem k_get2 (h : Ok (a σ S) fun d S => isDl S d = true ∧ Ok (b σ S) fun k S => Ok (c σ S) fun x S => ∃ o, dlook S d k = some o ∧ Q (o.getD x) S) : Ok (mGet2 a b c σ S) Q := k_bind (h.imp fun d S h => k_if h.1 (k_bind (h.2.imp fun k S h => k_bind (h.imp fun x S h => by
  obtain ⟨o, e, h⟩ := h
  rw [e]
  cases o <;> exact k_ok h))))
theorem k_lc {mi : DSt → Store → Res Src} {g : D → DSt → Store → Res DSt} {vs : List Nat} (h : Ok (mi σ S) fun src S => ∀ σ', dwipe σ vs = σ' → Ok (lcGo src.guard g ta a σ' src.items S) fun ys S => Q (.lst ys) S) : Ok (mLc mi g ta a vs σ S) Q := by
  rw [e_lc]
  exact k_bind (h.imp fun src S h => k_bindG ((h _ rfl).imp fun ys S h => k_ok h))
theorem k_lcM {mi : DSt → Store → Res Src} {g : D → DSt → Store → Res DSt} {vs : List Nat} (h : Ok (mi σ S) fun src S => ∀ σ', dwipe σ vs = σ' → Ok (lcGo src.guard g ta a σ' src.items S) fun ys S => Q (.loc S.length) (S ++ [.lst ys])) : Ok (mLcM mi g ta a vs σ S) Q := by
  rw [e_lcM]
  exact k_bind (h.imp fun src S h => k_bindG ((h _ rfl).imp fun ys S h => k_ok h))
theorem k_sl {ml mh : DSt → Store → Res (Option Int)} (h : Ok (a σ S) fun d S => Ok (ml σ S) fun lo S => Ok (mh σ S) fun hi S => Ok (sliceD d lo hi S) Q) : Ok (mSl a ml mh σ S) Q := by
  rw [e_sl]
  exact k_bind (h.imp fun d S h => k_bind (h.imp fun l S h => k_bind h))
theorem k_nopart {QO : Option Int → Store → Prop} (h : QO none S) : Ok (mNoPart σ S) QO := k_ok h
theorem k_part {QO : Option Int → Store → Prop} (h : Ok (a σ S) fun d S => ∃ i, d = .int i ∧ QO (some i) S) : Ok (mPart a σ S) QO := k_bind (h.imp fun d S h => by
  obtain ⟨i, rfl, h⟩ := h
  exact k_ok h)
/-! targets -/
theorem k_gname {i : Nat} {d : D} (h : ∀ σ', σ.set i (some d) = σ' → QG σ' S) : Ok (gtName i d σ S) QG := ⟨_, _, rfl, h _ rfl⟩
theorem k_gnil (h : QG σ S) : Ok (gtNil [] σ S) QG := ⟨_, _, rfl, h⟩
theorem k_gcons {f : D → DSt → Store → Res DSt} {g : List D → DSt → Store → Res DSt} {d : D} {ds : List D} (h : Ok (f d σ S) fun σ S => Ok (g ds σ S) QG) : Ok (gtCons f g (d :: ds) σ S) QG := by
  rw [e_gcons]
  exact k_bindG h
theorem k_gtup {n : Nat} {g : List D → DSt → Store → Res DSt} {ds : List D} (hn : ds.length = n) (h : Ok (g ds σ S) QG) : Ok (gtTup n g (.tup ds) σ S) QG := by
  rw [e_gtup]
  exact k_if hn h
theorem k_gktp {n : Nat} {g : List D → DSt → Store → Res DSt} {ds : List D} (hn : ds.length = n) (h : Ok (g ds σ S) QG) : Ok (gtTup n g (.ktp ds) σ S) QG := by
  rw [e_gktp]
  exact k_if hn h
theorem k_gsub {f : D → D → D → Store → Res Unit} {d : D} (h : Ok (a σ S) fun o S => Ok (b σ S) fun i S => Ok (f o i d S) fun _ S => QG σ S) : Ok (gtSub a b f d σ S) QG := by
  rw [e_gsub]
  exact k_bindG (h.imp fun o S h => k_bindG (h.imp fun i S h => k_bindG (h.imp fun _ S h => k_ok h)))
/-! what is walked over -/
theorem k_seqi (h : Ok (a σ S) fun d S => ∃ s, seqSrc d S = some s ∧ QS s S) : Ok (mSeqI a σ S) QS := by
  rw [e_seqi]
  exact k_bind (h.imp fun d S h => by
    obtain ⟨s, e, h⟩ := h
    rw [e]; exact k_ok h)
theorem k_rng1 (h : Ok (ms σ S) fun ds S => ∃ (i : Int) (n : Nat), ds = [.int i] ∧ i = (n : Int) ∧ n ≤ 16777216 ∧ QS ⟨(List.range n).map fun k : Nat => D.int k, []⟩ S) : Ok (mRng1 ms σ S) QS := by
  rw [e_rng1]
  refine k_bind (h.imp fun ds S h => ?_)
  obtain ⟨i, n, rfl, rfl, h1, h2⟩ := h
  refine k_eq (rng1K_nat (by rw [size_eq]; exact h1)) ?_
  simpa [rangeD] using h2
theorem enumD_eq : ∀ (k : Nat) (ds : List D), enumD k ds = (ds.zipIdx k).map fun p : D × Nat => D.tup [.int p.2, p.1]
  | _, [] => rfl
  | k, d :: ds => by simp [enumD, enumD_eq (k + 1) ds]
theorem k_enum (h : Ok (ms σ S) fun ds S => ∃ d s, ds = [d] ∧ lstSrc d S = some s ∧ QS ⟨(s.items.zipIdx).map fun p : D × Nat => D.tup [.int p.2, p.1], s.guard⟩ S) : Ok (mEnum ms σ S) QS := by
  rw [e_enum]
  refine k_bind (h.imp fun ds S h => ?_)
  obtain ⟨d, s, rfl, e, h⟩ := h
  refine k_eq (x := ⟨enumD 0 s.items, s.guard⟩) (S := S) (by simp only [enumK, e]) ?_
  rw [enumD_eq]
  exact h
/-! loops -/
theorem den_ok {n : Nat} {m : DSt → Store → Res Fl} {ds : List D} {P : D → Store → Prop} (e : ds.map some ++ List.replicate (n - ds.length) none = σ) (h : Wf (m σ S) (fun _ S => P .non S) P (fun _ _ => False) (fun _ _ => False)) : Ok (denOf n m ds S) P := by
  subst e
  rw [den_eq]
  revert h
  cases m (ds.map some ++ List.replicate (n - ds.length) none) S with
  | ok fl S1 => cases fl with
    | nx σ => exact fun h => ⟨_, _, rfl, h⟩
    | rt d => exact fun h => ⟨_, _, rfl, h⟩
    | ex _ _ _ => exact fun h => h.elim
    | _ => exact fun h => h.elim
  | _ => exact fun h => h.elim
/-- a loop by what holds between its turns -/
theorem w_loop {gd : List (Nat × Ob)} {g : D → DSt → Store → Res DSt} {b : DSt → Store → Res Fl} {ds : List D} (I : Nat → DSt → Store → Prop) (h0 : I 0 σ S) (hg : ∀ j σ S, I j σ S → gOk gd S)
    (hs : ∀ j d σ S, ds[j]? = some d → I j σ S → Ok (g d σ S) fun σ S => Wf (b σ S) (I (j + 1)) R N (I (j + 1))) (he : ∀ σ S, I ds.length σ S → N σ S) : WfX E (forGo gd g b ds σ S) N R B C := by
  have h := forGo_ok (gd := gd) (g := g) (b := b) I N R ds 0 h0 hg (fun j d σ S hd hi => by
    rw [Nat.zero_add] at hi ⊢
    obtain ⟨σ1, S1, e, q⟩ := hs j d σ S hd hi
    rw [e, bindG_ok]
    revert q
    cases b σ1 S1 with
    | ok fl S2 => cases fl with
      | ex _ _ _ => exact fun q => q.elim
      | _ => exact fun q => ⟨_, _, rfl, q⟩
    | _ => exact fun q => q.elim) (fun σ S hi => he σ S (by rwa [Nat.zero_add] at hi))
  obtain ⟨fl, S1, e, q⟩ := h
  rw [e]
  cases fl with
  | nx _ => exact q
  | rt _ => exact q
  | _ => exact q.elim
/-- the same, the things one by one -/
theorem w_each {gd : List (Nat × Ob)} {γ : Type} {xs : List γ} {f : γ → D} {g : D → DSt → Store → Res DSt} {b : DSt → Store → Res Fl} (I : List γ → DSt → Store → Prop) (h0 : I [] σ S) (hg : ∀ l σ S, I l σ S → gOk gd S)
    (hs : ∀ l x r σ S, xs = l ++ x :: r → I l σ S → Ok (g (f x) σ S) fun σ S => Wf (b σ S) (I (l ++ [x])) R N (I (l ++ [x]))) (he : ∀ σ S, I xs σ S → N σ S) : WfX E (forGo gd g b (xs.map f) σ S) N R B C := by
  refine w_loop (fun j σ S => I (xs.take j) σ S) h0 (fun j => hg _) (fun j d σ S hd hi => ?_) (fun σ S h => he σ S (by simpa using h))
  obtain ⟨hj, e⟩ := List.getElem?_eq_some_iff.mp hd
  rw [List.length_map] at hj
  rw [List.getElem_map] at e
  subst e
  have e2 : xs.take (j + 1) = xs.take j ++ [xs[j]] := by rw [List.take_succ, List.getElem?_eq_getElem hj]; rfl
  rw [e2]
  refine hs (xs.take j) xs[j] (xs.drop (j + 1)) σ S ?_ hi
  rw [← List.drop_eq_getElem_cons hj, List.take_append_drop]
/-- a comprehension by what holds between its turns -/
theorem k_lcI {gd : List (Nat × Ob)} {g : D → DSt → Store → Res DSt} {ds : List D} (I : Nat → Store → List D → Prop) (h0 : I 0 S []) (hg : ∀ j S acc, I j S acc → gOk gd S)
    (hs : ∀ j d S acc, ds[j]? = some d → I j S acc → Ok (g d σ S) fun σ S => Ok (ta σ S) fun t S => Br t (Ok (a σ S) fun y S => I (j + 1) S (acc ++ [y])) (I (j + 1) S acc)) (he : ∀ ys S, I ds.length S ys → QL ys S) : Ok (lcGo gd g ta a σ ds S) QL := by
  refine (lcGo_ok (gd := gd) I ds 0 [] h0 hg (fun j d S acc hd hi => ?_)).imp fun ys S' h => he ys S' (by simpa using h)
  rw [Nat.zero_add] at hi ⊢
  refine k_bindG ((hs j d S acc hd hi).imp fun σ1 S1 h => k_bindG (h.imp fun t S2 h => ?_))
  cases t with
  | true => exact k_bindG (Ok.imp (show Ok (a σ1 S2) _ from h) fun y S3 h => k_ok h)
  | false =>
    have h : I (j + 1) S2 acc := h
    exact k_ok (by simpa using h)
/-- one that leaves all as it was -/
theorem k_lcP {gd : List (Nat × Ob)} {γ : Type} {xs : List γ} {f : γ → D} {g : D → DSt → Store → Res DSt} (p : γ → Bool) (h : γ → D) (hg : gOk gd S)
    (hs : ∀ x ∈ xs, Ok (g (f x) σ S) fun σ S' => Ok (ta σ S') fun t S' => t = p x ∧ Br (p x) (Ok (a σ S') fun y S' => y = h x ∧ S' = S) (S' = S)) (he : QL ((xs.filter p).map h) S) : Ok (lcGo gd g ta a σ (xs.map f) S) QL := by
  refine k_lcI (fun j S' acc => S' = S ∧ acc = ((xs.take j).filter p).map h) ⟨rfl, rfl⟩ (fun _ _ _ h => by rw [h.1]; exact hg) (fun j d S' acc hd hi => ?_) (fun ys S' h => by
    obtain ⟨rfl, rfl⟩ := h
    simpa using he)
  obtain ⟨rfl, rfl⟩ := hi
  obtain ⟨hj, e⟩ := List.getElem?_eq_some_iff.mp hd
  rw [List.length_map] at hj
  rw [List.getElem_map] at e
  subst e
  have e2 : xs.take (j + 1) = xs.take j ++ [xs[j]] := by rw [List.take_succ, List.getElem?_eq_getElem hj]; rfl
  refine (hs xs[j] (List.getElem_mem hj)).imp fun σ1 S1 h1 => h1.imp fun t S2 h2 => ?_
  obtain ⟨rfl, h2⟩ := h2
  cases hp : p xs[j] with
  | true =>
    rw [hp] at h2
    refine Ok.imp (show Ok (a σ1 S2) _ from h2) fun y S3 h3 => ?_
    obtain ⟨rfl, rfl⟩ := h3
    refine ⟨rfl, ?_⟩
    rw [e2, List.filter_append, List.map_append, List.filter_cons_of_pos hp]
    rfl
  | false =>
    rw [hp] at h2
    have : S2 = S' := h2
    refine ⟨this, ?_⟩
    rw [e2, List.filter_append, List.filter_cons_of_neg (by rw [hp]; exact Bool.false_ne_true), List.filter_nil, List.append_nil]
end
/-! ### single steps at values -/
section
variable {S : Store} {Q : D → Store → Prop} {i j : Int} {ds es : List D} {d e : D} {x y : Str} {l k n : Nat} {la lb : List Nat}
theorem p_add (h : Q (.int (i + j)) S) : Ok (addD (.int i) (.int j) S) Q := k_eq e_add h
theorem p_addS (hl : la.length + lb.length ≤ 16777216) (h : Q (.str (tx (la ++ lb))) S) : Ok (addD (.str (tx la)) (.str (tx lb)) S) Q := k_eq (addTK hl) h
theorem p_addT (hl : ds.length + es.length ≤ 16777216) (h : Q (.tup (ds ++ es)) S) : Ok (addD (.tup ds) (.tup es) S) Q := by rw [e_addT]; exact k_if (by rw [size_eq]; exact hl) (k_ok h)
theorem p_addL (hl : ds.length + es.length ≤ 16777216) (h : Q (.lst (ds ++ es)) S) : Ok (addD (.lst ds) (.lst es) S) Q := by rw [e_addL]; exact k_if (by rw [size_eq]; exact hl) (k_ok h)
theorem p_addM (hl : ds.length + es.length ≤ 16777216) (h : Q (.loc S.length) (S ++ [.lst (ds ++ es)])) : Ok (addMD (.lst ds) (.lst es) S) Q := by
  have e : addMD (.lst ds) (.lst es) S = if ds.length + es.length ≤ sizeLine then .ok (.loc S.length) (S ++ [.lst (ds ++ es)]) else .stuck := rfl
  rw [e]; exact k_if (by rw [size_eq]; exact hl) (k_ok h)
theorem p_addLO (e1 : S[l]? = some (.lst ds)) (hl : ds.length + es.length ≤ 16777216) (h : Q (.lst (ds ++ es)) S) : Ok (addD (.loc l) (.lst es) S) Q := by
  have e : addD (.loc l) (.lst es) S = match exL S (.loc l), exL S (.lst es) with
    | some a, some b => if a.length + b.length ≤ sizeLine then .ok (.lst (a ++ b)) S else .stuck
    | _, _ => .stuck := rfl
  have h1 : exL S (.loc l) = some ds := by simp [exL, e1]
  have h2 : exL S (.lst es) = some es := rfl
  rw [e, h1, h2]
  exact k_if (by rw [size_eq]; exact hl) (k_ok h)
theorem p_sub (h : Q (.int (i - j)) S) : Ok (subD (.int i) (.int j) S) Q := k_eq e_sub h
theorem p_mulR (h1 : -(2 ^ 64) < j) (h2 : j < 2 ^ 64) (h : Q (.int (i * j)) S) : Ok (mulX (.int i) (.int j) S) Q := by rw [e_mul]; exact k_if (.inl (.inr ⟨h1, h2⟩)) (k_ok h)
theorem p_mulL (h1 : -(2 ^ 64) < i) (h2 : i < 2 ^ 64) (h : Q (.int (i * j)) S) : Ok (mulX (.int i) (.int j) S) Q := by rw [e_mul]; exact k_if (.inl (.inl ⟨h1, h2⟩)) (k_ok h)
theorem p_fdiv (h1 : 0 < j) (h2 : j < 18446744073709551616) (h : Q (.int (i / j)) S) : Ok (fdivD (.int i) (.int j) S) Q := by rw [e_fdiv]; exact k_if (divOk h1 h2) (k_ok h)
theorem p_mod (h1 : 0 < j) (h : Q (.int (i % j)) S) : Ok (modD (.int i) (.int j) S) Q := by rw [e_mod]; exact k_if h1 (k_ok h)
theorem p_lt (h : Q (.bl (decide (i < j))) S) : Ok (ltD (.int i) (.int j) S) Q := k_eq e_lt h
theorem p_ltS (h : Q (.bl (decide (la < lb))) S) : Ok (ltD (.str (tx la)) (.str (tx lb)) S) Q := ⟨_, _, rfl, h⟩
theorem p_cmp {p : Int → Int → Bool} (h : Q (.bl (p i j)) S) : Ok (cmpI p (.int i) (.int j) S) Q := ⟨_, _, rfl, h⟩
theorem p_eqI {b : Bool} (h : Q (.bl (xor b (decide (i = j)))) S) : Ok (eqD b (.int i) (.int j) S) Q := k_eq (e_eqI b) h
theorem p_isN {b : Bool} (h : Q (.bl (!b)) S) : Ok (isND b .non .non S) Q := by cases b <;> exact ⟨_, _, rfl, h⟩
theorem p_ixT (e : atI ds i = some d) (h : Q d S) : Ok (ixD (.tup ds) (.int i) S) Q := by rw [e_ix_tup, e]; exact k_ok h
theorem p_ixL (e : atI ds i = some d) (h : Q d S) : Ok (ixD (.lst ds) (.int i) S) Q := by rw [e_ix_lst, e]; exact k_ok h
theorem p_ixF (e : atI ds i = some d) (h : Q d S) : Ok (ixD (.frz ds) (.int i) S) Q := by rw [e_ix_frz, e]; exact k_ok h
theorem p_ixO (e1 : S[l]? = some (.lst ds)) (e : atI ds i = some d) (h : Q d S) : Ok (ixD (.loc l) (.int i) S) Q := by rw [e_ix_loc e1, e]; exact k_ok h
theorem p_ixTm {α : Type} {xs : List α} {f : α → D} {x : α} (e : xs[k]? = some x) (h : Q (f x) S) : Ok (ixD (.tup (xs.map f)) (.int (k : Nat)) S) Q := p_ixT (by rw [atI_nat, List.getElem?_map, e]; rfl) h
theorem p_ixLm {α : Type} {xs : List α} {f : α → D} {x : α} (e : xs[k]? = some x) (h : Q (f x) S) : Ok (ixD (.lst (xs.map f)) (.int (k : Nat)) S) Q := p_ixL (by rw [atI_nat, List.getElem?_map, e]; rfl) h
theorem p_ixFm {α : Type} {xs : List α} {f : α → D} {x : α} (e : xs[k]? = some x) (h : Q (f x) S) : Ok (ixD (.frz (xs.map f)) (.int (k : Nat)) S) Q := p_ixF (by rw [atI_nat, List.getElem?_map, e]; rfl) h
theorem p_slT {lo hi : Option Int} (h : Q (.tup (L3.cut ds lo hi)) S) : Ok (sliceD (.tup ds) lo hi S) Q := k_eq (e_sl_tup lo hi) h
theorem p_slL {lo hi : Option Int} (h : Q (.lst (L3.cut ds lo hi)) S) : Ok (sliceD (.lst ds) lo hi S) Q := k_eq (e_sl_lst lo hi) h
theorem p_slF {lo hi : Option Int} (h : Q (.lst (L3.cut ds lo hi)) S) : Ok (sliceD (.frz ds) lo hi S) Q := k_eq (e_sl_frz lo hi) h
theorem p_slS {lo hi : Option Int} (hl : la.length ≤ 16777216) (h : Q (.str (cutS (tx la) lo hi)) S) : Ok (sliceD (.str (tx la)) lo hi S) Q := by
  rw [e_sl_str]; exact k_if (by rw [tx_len, size_eq]; exact hl) (k_ok h)
theorem p_lenT (h : Q (.int ds.length) S) : Ok (lenD [.tup ds] S) Q := ⟨_, _, rfl, h⟩
theorem p_lenL (h : Q (.int ds.length) S) : Ok (lenD [.lst ds] S) Q := ⟨_, _, rfl, h⟩
theorem p_lenF (h : Q (.int ds.length) S) : Ok (lenD [.frz ds] S) Q := ⟨_, _, rfl, h⟩
theorem p_lenK (h : Q (.int ds.length) S) : Ok (lenD [.ktp ds] S) Q := ⟨_, _, rfl, h⟩
theorem p_lenS (hl : la.length ≤ 16777216) (h : Q (.int la.length) S) : Ok (lenD [.str (tx la)] S) Q := by
  rw [e_len_str]; exact k_if (by rw [tx_len, size_eq]; exact hl) (k_ok (by rw [tx_len]; exact h))
theorem p_lenO (e : S[l]? = some (.lst ds)) (h : Q (.int ds.length) S) : Ok (lenD [.loc l] S) Q := k_eq (e_len_loc e) h
theorem p_abs (h : Q (.int (if i < 0 then -i else i)) S) : Ok (absD [.int i] S) Q := ⟨_, _, rfl, h⟩
theorem p_max2 (h : Q (.int (if j > i then j else i)) S) : Ok (max2D [.int i, .int j] S) Q := ⟨_, _, rfl, h⟩
theorem p_min2 (h : Q (.int (if j < i then j else i)) S) : Ok (min2D [.int i, .int j] S) Q := ⟨_, _, rfl, h⟩
theorem p_int (h : Q (.int i) S) : Ok (intD [.int i] S) Q := ⟨_, _, rfl, h⟩
theorem p_intB {b : Bool} (h : Q (.int (if b = true then 1 else 0)) S) : Ok (intD [.bl b] S) Q := ⟨_, _, rfl, h⟩
theorem p_tupL (h : Q (.tup ds) S) : Ok (tupleD [.lst ds] S) Q := ⟨_, _, rfl, h⟩
theorem p_tupT (h : Q (.tup ds) S) : Ok (tupleD [.tup ds] S) Q := ⟨_, _, rfl, h⟩
theorem p_tupF (h : Q (.tup ds) S) : Ok (tupleD [.frz ds] S) Q := ⟨_, _, rfl, h⟩
theorem p_tupO (e : S[l]? = some (.lst ds)) (h : Q (.tup ds) S) : Ok (tupleD [.loc l] S) Q := k_eq (e_tuple_loc e) h
theorem p_listL (h : Q (.lst ds) S) : Ok (listD false [.lst ds] S) Q := ⟨_, _, rfl, h⟩
theorem p_listT (h : Q (.lst ds) S) : Ok (listD false [.tup ds] S) Q := ⟨_, _, rfl, h⟩
theorem p_listF (h : Q (.lst ds) S) : Ok (listD false [.frz ds] S) Q := ⟨_, _, rfl, h⟩
theorem p_app (e1 : S[l]? = some (.lst ds)) (hl : ds.length < 16777216) (h : ∀ S', S.set l (.lst (ds ++ [d])) = S' → Q .non S') : Ok (appendD (.loc l) [d] S) Q := k_eq (e_append e1 (by rw [size_eq]; exact hl)) (h _ rfl)
theorem p_extL (e1 : S[l]? = some (.lst ds)) (hl : ds.length + es.length ≤ 16777216) (h : ∀ S', S.set l (.lst (ds ++ es)) = S' → Q .non S') : Ok (extendD (.loc l) [.lst es] S) Q := by
  have : extendD (.loc l) [.lst es] S = if ds.length + es.length ≤ sizeLine then .ok .non (S.set l (.lst (ds ++ es))) else .stuck := by simp only [extendD, mutL, e1, exL]
  rw [this]
  exact k_if (by rw [size_eq]; exact hl) (k_ok (h _ rfl))
end
/-! ### stores and slots: what is seen of them -/
theorem st_get {S t : Store} {n k : Nat} (h : S.length = n) : (S ++ t)[n + k]? = t[k]? := by
  subst h
  rw [List.getElem?_append_right (by omega)]
  congr 1
  omega
theorem st_get0 {S t : Store} {n : Nat} (h : S.length = n) : (S ++ t)[n]? = t[0]? := st_get (k := 0) h
theorem st_set {S t : Store} {n k : Nat} {o : Ob} (h : S.length = n) : (S ++ t).set (n + k) o = S ++ t.set k o := by
  subst h
  rw [List.set_append_right _ _ (by omega)]
  congr 2
  omega
end L3
namespace L3
open PySem PySem.Spec L2
/-! ### rows of whole numbers in order -/
def it (l : List Int) : D := .tup (l.map D.int)
section
variable {β : Type} (f : β → List Int)
end
/-! ### tiles, and dicts from places to numbers -/
abbrev Tl := Int × Int × Int
def tk (t : Tl) : List Int := [t.1, t.2.1, t.2.2]
abbrev tl (t : Tl) : D := .tup [.int t.1, .int t.2.1, .int t.2.2]
abbrev Pl := Int × Int
abbrev pl (q : Pl) : D := .tup [.int q.1, .int q.2]
/-- a dict from places to whole numbers -/
abbrev Mp := List (Pl × Int)
def Mp.get (m : Mp) (q : Pl) : Option Int := (m.find? fun e => decide (e.1 = q)).map (·.2)
def Mp.put (m : Mp) (q : Pl) (k : Int) : Mp := if m.any (fun e => decide (e.1 = q)) = true then m.map (fun e => if e.1 = q then (e.1, k) else e) else m ++ [(q, k)]
/-! ### texts -/
section
variable {S : Store} {Q : D → Store → Prop} {l : List Nat} {ls : List (List Nat)}
open Classical in
theorem p_eqP {b : Bool} {d e : D} (h1 : D.pl 64 d = true) (h2 : D.pl 64 e = true) (h : Q (.bl (xor b (decide (d = e)))) S) : Ok (eqD b d e S) Q := k_eq (eqP h1 h2) h
theorem p_eqS {b : Bool} {d : D} (h1 : D.pl 64 d = true) (h : Q (.bl (!b)) S) : Ok (eqD b d d S) Q := k_eq (eqSelf h1) h
end
theorem p_eqB {S : Store} {Q : D → Store → Prop} {b x y : Bool} (h : Q (.bl (xor b (decide (x = y)))) S) : Ok (eqD b (.bl x) (.bl y) S) Q := by
  refine k_eq (S := S) (x := .bl (xor b (decide (x = y)))) ?_ h
  rw [e_eqO, pyS_bl, pyS_bl, eqO_some (by simp [SeqAt.shaped, PyData.canLay0, PyData.depth]) (by simp [SeqAt.shaped, PyData.canLay0, PyData.depth])]

  cases x <;> cases y <;> simp [PyData.eqv]
theorem sorted_loc {S : Store} {l : Nat} {es : List D} (h : S[l]? = some (.lst es)) : sortedD [.loc l] S = sortedD [.lst es] S := by
  have h1 : rdL S (.loc l) = some es := by simp [rdL, exL, h]
  have h2 : rdL S (.lst es) = some es := rfl
  simp only [sortedD, h1, h2]
theorem p_sortL {S : Store} {Q : D → Store → Prop} {l : Nat} {es : List D} (h : S[l]? = some (.lst es)) (k : Ok (sortedD [.lst es] S) Q) : Ok (sortedD [.loc l] S) Q := by rw [sorted_loc h]; exact k
theorem p_isi {S : Store} {Q : D → Store → Prop} {T : String} {d : D} {b : Bool} (e : isiD T d S = .ok (.bl b) S) (h : Q (.bl b) S) : Ok (isiD T d S) Q := k_eq e h
end L3
namespace L3
open PySem PySem.Spec L2
/-! ### objects and their methods; repr -/
section
variable {σ : DSt} {S : Store} {E : XEv} {N B C : DSt → Store → Prop} {R Q : D → Store → Prop} {mo mv : DSt → Store → Res D} {ms : DSt → Store → Res (List D)} {cs : List Str} {f c m : Str} {n : Nat} {den : List D → Store → Res D}
end
section
variable {S : Store} {Q : D → Store → Prop} {ds : List D} {d : D} {i : Int} {k : Nat}
theorem p_tupX (h : Q (.ktp ds) S) : Ok (tupleXD [.lst ds] S) Q := ⟨_, _, rfl, h⟩
theorem p_ixP (e : atI ds i = some d) (h : Q d S) : Ok (ixD (.ktp ds) (.int i) S) Q := by
  have h1 : seqOf S (.ktp ds) = some ds := rfl
  exact k_eq (by simp only [ixD, h1, e] <;> rfl) h
theorem p_ixPm {α : Type} {xs : List α} {f : α → D} {x : α} (e : xs[k]? = some x) (h : Q (f x) S) : Ok (ixD (.ktp (xs.map f)) (.int (k : Nat)) S) Q := p_ixP (by rw [atI_nat, List.getElem?_map, e]; rfl) h
end
end L3
namespace L3
open PySem PySem.Spec L2
theorem k_enumA {σ : DSt} {S : Store} {ms : DSt → Store → Res (List D)} {QS : Src → Store → Prop} (h : Ok (ms σ S) fun ds S => ∃ d s, ds = [d] ∧ enumSrc d S = some s ∧ QS ⟨(s.items.zipIdx).map fun p : D × Nat => D.tup [.int p.2, p.1], s.guard⟩ S) : Ok (mEnumA ms σ S) QS := by
  unfold mEnumA
  refine k_bind (h.imp fun ds S h => ?_)
  obtain ⟨d, s, rfl, e, h⟩ := h
  refine k_eq (x := ⟨enumD 0 s.items, s.guard⟩) (S := S) (by simp only [e]) ?_
  rw [enumD_eq]
  exact h
theorem p_isB {S : Store} {Q : D → Store → Prop} {n a b : Bool} (h : Q (.bl (xor n (decide (a = b)))) S) : Ok (isBD n (.bl a) (.bl b) S) Q := ⟨_, _, rfl, h⟩
theorem p_isNl {S : Store} {Q : D → Store → Prop} {b : Bool} {i : Nat} (h : Q (.bl b) S) : Ok (isND b (.loc i) .non S) Q := ⟨_, _, rfl, h⟩
theorem p_isNt {S : Store} {Q : D → Store → Prop} {b : Bool} {ds : List D} (h : Q (.bl b) S) : Ok (isND b (.tup ds) .non S) Q := ⟨_, _, rfl, h⟩
theorem wf_id {r : Res Fl} {E : XEv} {N B C : DSt → Store → Prop} {R : D → Store → Prop} (h : WfX E r N R B C) : WfX E r N R B C := h
theorem w_raise {c : Str} {σ : DSt} {S : Store} {E : XEv} {N B C : DSt → Store → Prop} {R : D → Store → Prop} (h : E c [] S) : WfX E (mRaise c σ S) N R B C := h
theorem br_id {b : Bool} {p q : Prop} (h : Br b p q) : Br b p q := h
end L3
namespace L3
open PySem PySem.Spec L2
theorem w_par3 {σ : DSt} {S : Store} {E : XEv} {N B C : DSt → Store → Prop} {R : D → Store → Prop} {ms : DSt → Store → Res (List D)} {i j l : Nat} (h : Ok (ms σ S) fun ds S => ∃ x y z, ds = [x, y, z] ∧ ∀ σ', ((σ.set i (some x)).set j (some y)).set l (some z) = σ' → N σ' S) : WfX E (mPar3 i j l ms σ S) N R B C := w_lift (h.imp fun t S1 h => by
  obtain ⟨x, y, z, rfl, h⟩ := h
  exact h _ rfl)
theorem par3_of {σ : DSt} {i j l : Nat} {x y z : D} {P : DSt → Prop} (h : ∀ σ', ((σ.set i (some x)).set j (some y)).set l (some z) = σ' → P σ') : ∃ x' y' z', [x, y, z] = [x', y', z'] ∧ ∀ σ', ((σ.set i (some x')).set j (some y')).set l (some z') = σ' → P σ' := ⟨x, y, z, rfl, h⟩
end L3

namespace L3
open PySem PySem.Spec L2
/-! ### rules for exceptions that are kept -/
section
variable {l : List Str} {lf : List (Str × Str)} {i j : Nat} {mb : DSt → Store → Res Fl} {σ : DSt} {S : Store} {E : XEv} {N B C : DSt → Store → Prop} {R : D → Store → Prop} {Q : D → Store → Prop}
theorem k_isK {tab : List (Str × Bool)} {m : DSt → Store → Res D} {c : Str} {fl : Option (Str × Int)} {b : Bool} (e : m σ S = .ok (.exk c fl) S) (h : tab.lookup c = some b) (hq : Q (.bl b) S) : Ok (mIsK tab m σ S) Q := by
  refine k_eq (x := .bl b) (S := S) ?_ hq
  unfold mIsK isKD
  rw [e, Res.bind_ok]
  simp only [h]
theorem k_xfK {c f : Str} {z : Int} {l : List Str} {m : DSt → Store → Res D} {σ : DSt} {S : Store} {Q : D → Store → Prop} (e : m σ S = .ok (.exk c (some (f, z))) S) (h : c ∈ l) (hq : Q (.int z) S) : Ok (mXfK l f m σ S) Q := by
  refine k_eq (x := .int z) (S := S) ?_ hq
  unfold mXfK
  rw [e]
  show (Res.ok (D.exk c (some (f, z))) S).bind (xfkD l f) = _
  simp only [Res.bind, xfkD, h, and_self, if_true]
end
end L3
namespace L3
open PySem PySem.Spec L2
end L3
namespace L3
open PySem PySem.Spec L2
/-! ### the text -/
def topS (i : Nat) : Stmt := PySem.Challenge.pw_stickytiles_k08_errors_apart.main.body.getD i (.Pass ⟨0, 0, 0, 0⟩)
abbrev s_law_marks : Stmt := topS 14
abbrev N_law_marks : List Str := ["_law_error", "_law_some", "_law_at"]
theorem sc_law_marks : FnScope ["_law_error", "_law_some", "_law_at"] ["_law_error"] (defScope s_law_marks) := ⟨rfl, rfl, rfl, by decide +kernel, rfl, by decide +kernel, by decide +kernel⟩
abbrev s_law : Stmt := topS 15
theorem sc_law : FnScope ["_law_script", "_law_k", "_law_number", "_law_errors", "_law_place", "_law_error"] ["_law_script"] (defScope s_law) := ⟨rfl, rfl, rfl, by decide +kernel, rfl, by decide +kernel, by decide +kernel⟩
abbrev sx_NoGrowing : Stmt := inClass (topS 2) 0
theorem scx_NoGrowing : FnScope ["self", "number"] ["self", "number"] (defScope sx_NoGrowing) := ⟨rfl, rfl, rfl, by decide +kernel, rfl, by decide +kernel, by decide +kernel⟩
abbrev sx_NoText : Stmt := inClass (topS 3) 0
theorem scx_NoText : FnScope ["self", "line"] ["self", "line"] (defScope sx_NoText) := ⟨rfl, rfl, rfl, by decide +kernel, rfl, by decide +kernel, by decide +kernel⟩
set_option genInjectivity false in
set_option genSizeOf false in
set_option genSizeOfSpec false in
/-- what the top has written -/
structure Txt (K : PySem.W.Frag) (mg : Str → Option Value) where
  f_law_marks : Addr
  e_law_marks : FuncData
  F_law_marks : Fun K "_law_marks" "_law_marks" s_law_marks f_law_marks e_law_marks
  g_law_marks : mg "_law_marks" = some (.ref f_law_marks)
  b_law_marks : Binds K e_law_marks ["_law_error"] []
  f_law : Addr
  e_law : FuncData
  F_law : Fun K "law" "law" s_law f_law e_law
  g_law : mg "law" = some (.ref f_law)
  b_law : Binds K e_law ["_law_script"] []
  n_ValueError : mg "ValueError" = none
  n_enumerate : mg "enumerate" = none
  n_isinstance : mg "isinstance" = none
  n_len : mg "len" = none
  n_list : mg "list" = none
  n_max : mg "max" = none
  n_min : mg "min" = none
  n_range : mg "range" = none
  C_NoGrowing : Addr
  g_NoGrowing : mg "NoGrowing" = some (.ref C_NoGrowing)
  C_NoKind : Addr
  g_NoKind : mg "NoKind" = some (.ref C_NoKind)
  C_NoLine : Addr
  g_NoLine : mg "NoLine" = some (.ref C_NoLine)
  C_NoPlace : Addr
  g_NoPlace : mg "NoPlace" = some (.ref C_NoPlace)
  C_NoText : Addr
  g_NoText : mg "NoText" = some (.ref C_NoText)
  C_NotFramed : Addr
  g_NotFramed : mg "NotFramed" = some (.ref C_NotFramed)
  C_NotHeld : Addr
  g_NotHeld : mg "NotHeld" = some (.ref C_NotHeld)
  C_NotSure : Addr
  g_NotSure : mg "NotSure" = some (.ref C_NotSure)
  C_NothingBack : Addr
  g_NothingBack : mg "NothingBack" = some (.ref C_NothingBack)
  C_Taken : Addr
  g_Taken : mg "Taken" = some (.ref C_Taken)
  C_TileError : Addr
  g_TileError : mg "TileError" = some (.ref C_TileError)
  C_TooMany : Addr
  g_TooMany : mg "TooMany" = some (.ref C_TooMany)
  o_NoGrowing : OexC K C_NoGrowing
  ic_NoGrowing : ExcC K C_NoGrowing
  xf_NoGrowing : XfC K C_NoGrowing
  fx_NoGrowing : Addr
  ex_NoGrowing : FuncData
  Fx_NoGrowing : Fun K "__init__" "NoGrowing.__init__" sx_NoGrowing fx_NoGrowing ex_NoGrowing
  bx_NoGrowing : Binds K ex_NoGrowing ["self", "number"] []
  ix_NoGrowing : PySem.W.findIn K (.ref C_NoGrowing) "__init__" = some (some (.ref fx_NoGrowing))
  tx_NoGrowing : PySem.W.typeIn K (.ref fx_NoGrowing) = some (.type "function")
  nx_NoGrowing : PySem.W.findIn K (.ref C_NoGrowing) "number" = some none
  x_NoKind : ExcT K C_NoKind
  x_NoLine : ExcT K C_NoLine
  x_NoPlace : ExcT K C_NoPlace
  o_NoText : OexC K C_NoText
  ic_NoText : ExcC K C_NoText
  xf_NoText : XfC K C_NoText
  fx_NoText : Addr
  ex_NoText : FuncData
  Fx_NoText : Fun K "__init__" "NoText.__init__" sx_NoText fx_NoText ex_NoText
  bx_NoText : Binds K ex_NoText ["self", "line"] []
  ix_NoText : PySem.W.findIn K (.ref C_NoText) "__init__" = some (some (.ref fx_NoText))
  tx_NoText : PySem.W.typeIn K (.ref fx_NoText) = some (.type "function")
  nx_NoText : PySem.W.findIn K (.ref C_NoText) "line" = some none
  x_NotFramed : ExcT K C_NotFramed
  x_NotHeld : ExcT K C_NotHeld
  x_NotSure : ExcT K C_NotSure
  x_NothingBack : ExcT K C_NothingBack
  x_Taken : ExcT K C_Taken
  x_TileError : ExcT K C_TileError
  x_TooMany : ExcT K C_TooMany
  xn_NoGrowing : PySem.W.nsIn K mainGlobals "NoGrowing" = some (some (.ref C_NoGrowing))
  xn_NoKind : PySem.W.nsIn K mainGlobals "NoKind" = some (some (.ref C_NoKind))
  xn_NoLine : PySem.W.nsIn K mainGlobals "NoLine" = some (some (.ref C_NoLine))
  xn_NoPlace : PySem.W.nsIn K mainGlobals "NoPlace" = some (some (.ref C_NoPlace))
  xn_NoText : PySem.W.nsIn K mainGlobals "NoText" = some (some (.ref C_NoText))
  xn_NotFramed : PySem.W.nsIn K mainGlobals "NotFramed" = some (some (.ref C_NotFramed))
  xn_NotHeld : PySem.W.nsIn K mainGlobals "NotHeld" = some (some (.ref C_NotHeld))
  xn_NotSure : PySem.W.nsIn K mainGlobals "NotSure" = some (some (.ref C_NotSure))
  xn_NothingBack : PySem.W.nsIn K mainGlobals "NothingBack" = some (some (.ref C_NothingBack))
  xn_Taken : PySem.W.nsIn K mainGlobals "Taken" = some (some (.ref C_Taken))
  xn_TileError : PySem.W.nsIn K mainGlobals "TileError" = some (some (.ref C_TileError))
  xn_TooMany : PySem.W.nsIn K mainGlobals "TooMany" = some (some (.ref C_TooMany))
  kit_TileError_NoPlace : PySem.W.kitOne K (.ref C_TileError) (.ref C_NoPlace) = some false
  kit_NoLine_NoPlace : PySem.W.kitOne K (.ref C_NoLine) (.ref C_NoPlace) = some false
  kit_NotFramed_NoPlace : PySem.W.kitOne K (.ref C_NotFramed) (.ref C_NoPlace) = some false
  kit_TooMany_NoPlace : PySem.W.kitOne K (.ref C_TooMany) (.ref C_NoPlace) = some false
  kit_NotSure_NoPlace : PySem.W.kitOne K (.ref C_NotSure) (.ref C_NoPlace) = some false
  kit_NothingBack_NoPlace : PySem.W.kitOne K (.ref C_NothingBack) (.ref C_NoPlace) = some false
  kit_NotHeld_NoPlace : PySem.W.kitOne K (.ref C_NotHeld) (.ref C_NoPlace) = some false
  kit_NoKind_NoPlace : PySem.W.kitOne K (.ref C_NoKind) (.ref C_NoPlace) = some false
  kit_Taken_NoPlace : PySem.W.kitOne K (.ref C_Taken) (.ref C_NoPlace) = some false
  kit_NoPlace_NoPlace : PySem.W.kitOne K (.ref C_NoPlace) (.ref C_NoPlace) = some true
  kit_NoText_NoPlace : PySem.W.kitOne K (.ref C_NoText) (.ref C_NoPlace) = some false
  kit_NoGrowing_NoPlace : PySem.W.kitOne K (.ref C_NoGrowing) (.ref C_NoPlace) = some false
  kit_TileError_NoText : PySem.W.kitOne K (.ref C_TileError) (.ref C_NoText) = some false
  kit_NoLine_NoText : PySem.W.kitOne K (.ref C_NoLine) (.ref C_NoText) = some false
  kit_NotFramed_NoText : PySem.W.kitOne K (.ref C_NotFramed) (.ref C_NoText) = some false
  kit_TooMany_NoText : PySem.W.kitOne K (.ref C_TooMany) (.ref C_NoText) = some false
  kit_NotSure_NoText : PySem.W.kitOne K (.ref C_NotSure) (.ref C_NoText) = some false
  kit_NothingBack_NoText : PySem.W.kitOne K (.ref C_NothingBack) (.ref C_NoText) = some false
  kit_NotHeld_NoText : PySem.W.kitOne K (.ref C_NotHeld) (.ref C_NoText) = some false
  kit_NoKind_NoText : PySem.W.kitOne K (.ref C_NoKind) (.ref C_NoText) = some false
  kit_Taken_NoText : PySem.W.kitOne K (.ref C_Taken) (.ref C_NoText) = some false
  kit_NoPlace_NoText : PySem.W.kitOne K (.ref C_NoPlace) (.ref C_NoText) = some false
  kit_NoText_NoText : PySem.W.kitOne K (.ref C_NoText) (.ref C_NoText) = some true
  kit_NoGrowing_NoText : PySem.W.kitOne K (.ref C_NoGrowing) (.ref C_NoText) = some false
  kit_TileError_NoGrowing : PySem.W.kitOne K (.ref C_TileError) (.ref C_NoGrowing) = some false
  kit_NoLine_NoGrowing : PySem.W.kitOne K (.ref C_NoLine) (.ref C_NoGrowing) = some false
  kit_NotFramed_NoGrowing : PySem.W.kitOne K (.ref C_NotFramed) (.ref C_NoGrowing) = some false
  kit_TooMany_NoGrowing : PySem.W.kitOne K (.ref C_TooMany) (.ref C_NoGrowing) = some false
  kit_NotSure_NoGrowing : PySem.W.kitOne K (.ref C_NotSure) (.ref C_NoGrowing) = some false
  kit_NothingBack_NoGrowing : PySem.W.kitOne K (.ref C_NothingBack) (.ref C_NoGrowing) = some false
  kit_NotHeld_NoGrowing : PySem.W.kitOne K (.ref C_NotHeld) (.ref C_NoGrowing) = some false
  kit_NoKind_NoGrowing : PySem.W.kitOne K (.ref C_NoKind) (.ref C_NoGrowing) = some false
  kit_Taken_NoGrowing : PySem.W.kitOne K (.ref C_Taken) (.ref C_NoGrowing) = some false
  kit_NoPlace_NoGrowing : PySem.W.kitOne K (.ref C_NoPlace) (.ref C_NoGrowing) = some false
  kit_NoText_NoGrowing : PySem.W.kitOne K (.ref C_NoText) (.ref C_NoGrowing) = some false
  kit_NoGrowing_NoGrowing : PySem.W.kitOne K (.ref C_NoGrowing) (.ref C_NoGrowing) = some true
  kit_TileError_NotHeld : PySem.W.kitOne K (.ref C_TileError) (.ref C_NotHeld) = some false
  kit_NoLine_NotHeld : PySem.W.kitOne K (.ref C_NoLine) (.ref C_NotHeld) = some false
  kit_NotFramed_NotHeld : PySem.W.kitOne K (.ref C_NotFramed) (.ref C_NotHeld) = some false
  kit_TooMany_NotHeld : PySem.W.kitOne K (.ref C_TooMany) (.ref C_NotHeld) = some false
  kit_NotSure_NotHeld : PySem.W.kitOne K (.ref C_NotSure) (.ref C_NotHeld) = some false
  kit_NothingBack_NotHeld : PySem.W.kitOne K (.ref C_NothingBack) (.ref C_NotHeld) = some false
  kit_NotHeld_NotHeld : PySem.W.kitOne K (.ref C_NotHeld) (.ref C_NotHeld) = some true
  kit_NoKind_NotHeld : PySem.W.kitOne K (.ref C_NoKind) (.ref C_NotHeld) = some false
  kit_Taken_NotHeld : PySem.W.kitOne K (.ref C_Taken) (.ref C_NotHeld) = some false
  kit_NoPlace_NotHeld : PySem.W.kitOne K (.ref C_NoPlace) (.ref C_NotHeld) = some false
  kit_NoText_NotHeld : PySem.W.kitOne K (.ref C_NoText) (.ref C_NotHeld) = some false
  kit_NoGrowing_NotHeld : PySem.W.kitOne K (.ref C_NoGrowing) (.ref C_NotHeld) = some false
  kit_TileError_NoKind : PySem.W.kitOne K (.ref C_TileError) (.ref C_NoKind) = some false
  kit_NoLine_NoKind : PySem.W.kitOne K (.ref C_NoLine) (.ref C_NoKind) = some false
  kit_NotFramed_NoKind : PySem.W.kitOne K (.ref C_NotFramed) (.ref C_NoKind) = some false
  kit_TooMany_NoKind : PySem.W.kitOne K (.ref C_TooMany) (.ref C_NoKind) = some false
  kit_NotSure_NoKind : PySem.W.kitOne K (.ref C_NotSure) (.ref C_NoKind) = some false
  kit_NothingBack_NoKind : PySem.W.kitOne K (.ref C_NothingBack) (.ref C_NoKind) = some false
  kit_NotHeld_NoKind : PySem.W.kitOne K (.ref C_NotHeld) (.ref C_NoKind) = some false
  kit_NoKind_NoKind : PySem.W.kitOne K (.ref C_NoKind) (.ref C_NoKind) = some true
  kit_Taken_NoKind : PySem.W.kitOne K (.ref C_Taken) (.ref C_NoKind) = some false
  kit_NoPlace_NoKind : PySem.W.kitOne K (.ref C_NoPlace) (.ref C_NoKind) = some false
  kit_NoText_NoKind : PySem.W.kitOne K (.ref C_NoText) (.ref C_NoKind) = some false
  kit_NoGrowing_NoKind : PySem.W.kitOne K (.ref C_NoGrowing) (.ref C_NoKind) = some false
  kit_TileError_Taken : PySem.W.kitOne K (.ref C_TileError) (.ref C_Taken) = some false
  kit_NoLine_Taken : PySem.W.kitOne K (.ref C_NoLine) (.ref C_Taken) = some false
  kit_NotFramed_Taken : PySem.W.kitOne K (.ref C_NotFramed) (.ref C_Taken) = some false
  kit_TooMany_Taken : PySem.W.kitOne K (.ref C_TooMany) (.ref C_Taken) = some false
  kit_NotSure_Taken : PySem.W.kitOne K (.ref C_NotSure) (.ref C_Taken) = some false
  kit_NothingBack_Taken : PySem.W.kitOne K (.ref C_NothingBack) (.ref C_Taken) = some false
  kit_NotHeld_Taken : PySem.W.kitOne K (.ref C_NotHeld) (.ref C_Taken) = some false
  kit_NoKind_Taken : PySem.W.kitOne K (.ref C_NoKind) (.ref C_Taken) = some false
  kit_Taken_Taken : PySem.W.kitOne K (.ref C_Taken) (.ref C_Taken) = some true
  kit_NoPlace_Taken : PySem.W.kitOne K (.ref C_NoPlace) (.ref C_Taken) = some false
  kit_NoText_Taken : PySem.W.kitOne K (.ref C_NoText) (.ref C_Taken) = some false
  kit_NoGrowing_Taken : PySem.W.kitOne K (.ref C_NoGrowing) (.ref C_Taken) = some false
  kit_TileError_TooMany : PySem.W.kitOne K (.ref C_TileError) (.ref C_TooMany) = some false
  kit_NoLine_TooMany : PySem.W.kitOne K (.ref C_NoLine) (.ref C_TooMany) = some false
  kit_NotFramed_TooMany : PySem.W.kitOne K (.ref C_NotFramed) (.ref C_TooMany) = some false
  kit_TooMany_TooMany : PySem.W.kitOne K (.ref C_TooMany) (.ref C_TooMany) = some true
  kit_NotSure_TooMany : PySem.W.kitOne K (.ref C_NotSure) (.ref C_TooMany) = some false
  kit_NothingBack_TooMany : PySem.W.kitOne K (.ref C_NothingBack) (.ref C_TooMany) = some false
  kit_NotHeld_TooMany : PySem.W.kitOne K (.ref C_NotHeld) (.ref C_TooMany) = some false
  kit_NoKind_TooMany : PySem.W.kitOne K (.ref C_NoKind) (.ref C_TooMany) = some false
  kit_Taken_TooMany : PySem.W.kitOne K (.ref C_Taken) (.ref C_TooMany) = some false
  kit_NoPlace_TooMany : PySem.W.kitOne K (.ref C_NoPlace) (.ref C_TooMany) = some false
  kit_NoText_TooMany : PySem.W.kitOne K (.ref C_NoText) (.ref C_TooMany) = some false
  kit_NoGrowing_TooMany : PySem.W.kitOne K (.ref C_NoGrowing) (.ref C_TooMany) = some false
  kit_TileError_NotSure : PySem.W.kitOne K (.ref C_TileError) (.ref C_NotSure) = some false
  kit_NoLine_NotSure : PySem.W.kitOne K (.ref C_NoLine) (.ref C_NotSure) = some false
  kit_NotFramed_NotSure : PySem.W.kitOne K (.ref C_NotFramed) (.ref C_NotSure) = some false
  kit_TooMany_NotSure : PySem.W.kitOne K (.ref C_TooMany) (.ref C_NotSure) = some false
  kit_NotSure_NotSure : PySem.W.kitOne K (.ref C_NotSure) (.ref C_NotSure) = some true
  kit_NothingBack_NotSure : PySem.W.kitOne K (.ref C_NothingBack) (.ref C_NotSure) = some false
  kit_NotHeld_NotSure : PySem.W.kitOne K (.ref C_NotHeld) (.ref C_NotSure) = some false
  kit_NoKind_NotSure : PySem.W.kitOne K (.ref C_NoKind) (.ref C_NotSure) = some false
  kit_Taken_NotSure : PySem.W.kitOne K (.ref C_Taken) (.ref C_NotSure) = some false
  kit_NoPlace_NotSure : PySem.W.kitOne K (.ref C_NoPlace) (.ref C_NotSure) = some false
  kit_NoText_NotSure : PySem.W.kitOne K (.ref C_NoText) (.ref C_NotSure) = some false
  kit_NoGrowing_NotSure : PySem.W.kitOne K (.ref C_NoGrowing) (.ref C_NotSure) = some false
  kit_TileError_NothingBack : PySem.W.kitOne K (.ref C_TileError) (.ref C_NothingBack) = some false
  kit_NoLine_NothingBack : PySem.W.kitOne K (.ref C_NoLine) (.ref C_NothingBack) = some false
  kit_NotFramed_NothingBack : PySem.W.kitOne K (.ref C_NotFramed) (.ref C_NothingBack) = some false
  kit_TooMany_NothingBack : PySem.W.kitOne K (.ref C_TooMany) (.ref C_NothingBack) = some false
  kit_NotSure_NothingBack : PySem.W.kitOne K (.ref C_NotSure) (.ref C_NothingBack) = some false
  kit_NothingBack_NothingBack : PySem.W.kitOne K (.ref C_NothingBack) (.ref C_NothingBack) = some true
  kit_NotHeld_NothingBack : PySem.W.kitOne K (.ref C_NotHeld) (.ref C_NothingBack) = some false
  kit_NoKind_NothingBack : PySem.W.kitOne K (.ref C_NoKind) (.ref C_NothingBack) = some false
  kit_Taken_NothingBack : PySem.W.kitOne K (.ref C_Taken) (.ref C_NothingBack) = some false
  kit_NoPlace_NothingBack : PySem.W.kitOne K (.ref C_NoPlace) (.ref C_NothingBack) = some false
  kit_NoText_NothingBack : PySem.W.kitOne K (.ref C_NoText) (.ref C_NothingBack) = some false
  kit_NoGrowing_NothingBack : PySem.W.kitOne K (.ref C_NoGrowing) (.ref C_NothingBack) = some false
  kit_TileError_NoLine : PySem.W.kitOne K (.ref C_TileError) (.ref C_NoLine) = some false
  kit_NoLine_NoLine : PySem.W.kitOne K (.ref C_NoLine) (.ref C_NoLine) = some true
  kit_NotFramed_NoLine : PySem.W.kitOne K (.ref C_NotFramed) (.ref C_NoLine) = some false
  kit_TooMany_NoLine : PySem.W.kitOne K (.ref C_TooMany) (.ref C_NoLine) = some false
  kit_NotSure_NoLine : PySem.W.kitOne K (.ref C_NotSure) (.ref C_NoLine) = some false
  kit_NothingBack_NoLine : PySem.W.kitOne K (.ref C_NothingBack) (.ref C_NoLine) = some false
  kit_NotHeld_NoLine : PySem.W.kitOne K (.ref C_NotHeld) (.ref C_NoLine) = some false
  kit_NoKind_NoLine : PySem.W.kitOne K (.ref C_NoKind) (.ref C_NoLine) = some false
  kit_Taken_NoLine : PySem.W.kitOne K (.ref C_Taken) (.ref C_NoLine) = some false
  kit_NoPlace_NoLine : PySem.W.kitOne K (.ref C_NoPlace) (.ref C_NoLine) = some false
  kit_NoText_NoLine : PySem.W.kitOne K (.ref C_NoText) (.ref C_NoLine) = some false
  kit_NoGrowing_NoLine : PySem.W.kitOne K (.ref C_NoGrowing) (.ref C_NoLine) = some false
  kit_TileError_NotFramed : PySem.W.kitOne K (.ref C_TileError) (.ref C_NotFramed) = some false
  kit_NoLine_NotFramed : PySem.W.kitOne K (.ref C_NoLine) (.ref C_NotFramed) = some false
  kit_NotFramed_NotFramed : PySem.W.kitOne K (.ref C_NotFramed) (.ref C_NotFramed) = some true
  kit_TooMany_NotFramed : PySem.W.kitOne K (.ref C_TooMany) (.ref C_NotFramed) = some false
  kit_NotSure_NotFramed : PySem.W.kitOne K (.ref C_NotSure) (.ref C_NotFramed) = some false
  kit_NothingBack_NotFramed : PySem.W.kitOne K (.ref C_NothingBack) (.ref C_NotFramed) = some false
  kit_NotHeld_NotFramed : PySem.W.kitOne K (.ref C_NotHeld) (.ref C_NotFramed) = some false
  kit_NoKind_NotFramed : PySem.W.kitOne K (.ref C_NoKind) (.ref C_NotFramed) = some false
  kit_Taken_NotFramed : PySem.W.kitOne K (.ref C_Taken) (.ref C_NotFramed) = some false
  kit_NoPlace_NotFramed : PySem.W.kitOne K (.ref C_NoPlace) (.ref C_NotFramed) = some false
  kit_NoText_NotFramed : PySem.W.kitOne K (.ref C_NoText) (.ref C_NotFramed) = some false
  kit_NoGrowing_NotFramed : PySem.W.kitOne K (.ref C_NoGrowing) (.ref C_NotFramed) = some false
  kit_NoLine_TileError : PySem.W.kitOne K (.ref C_NoLine) (.ref C_TileError) = some true
  kit_NotFramed_TileError : PySem.W.kitOne K (.ref C_NotFramed) (.ref C_TileError) = some true
  kit_TooMany_TileError : PySem.W.kitOne K (.ref C_TooMany) (.ref C_TileError) = some true
  kit_NotSure_TileError : PySem.W.kitOne K (.ref C_NotSure) (.ref C_TileError) = some true
  kit_NothingBack_TileError : PySem.W.kitOne K (.ref C_NothingBack) (.ref C_TileError) = some true
  kit_NotHeld_TileError : PySem.W.kitOne K (.ref C_NotHeld) (.ref C_TileError) = some true
  kit_NoKind_TileError : PySem.W.kitOne K (.ref C_NoKind) (.ref C_TileError) = some true
  kit_Taken_TileError : PySem.W.kitOne K (.ref C_Taken) (.ref C_TileError) = some true
  kit_NoPlace_TileError : PySem.W.kitOne K (.ref C_NoPlace) (.ref C_TileError) = some true
  kit_NoText_TileError : PySem.W.kitOne K (.ref C_NoText) (.ref C_TileError) = some true
  kit_NoGrowing_TileError : PySem.W.kitOne K (.ref C_NoGrowing) (.ref C_TileError) = some true
  kit_NoLine_ValueError : PySem.W.kitOne K (.ref C_NoLine) (.type "ValueError") = some true
  kit_NotFramed_ValueError : PySem.W.kitOne K (.ref C_NotFramed) (.type "ValueError") = some true
  kit_TooMany_ValueError : PySem.W.kitOne K (.ref C_TooMany) (.type "ValueError") = some true
  kit_NotSure_ValueError : PySem.W.kitOne K (.ref C_NotSure) (.type "ValueError") = some true
  kit_NothingBack_ValueError : PySem.W.kitOne K (.ref C_NothingBack) (.type "ValueError") = some true
  kit_NotHeld_ValueError : PySem.W.kitOne K (.ref C_NotHeld) (.type "ValueError") = some true
  kit_NoKind_ValueError : PySem.W.kitOne K (.ref C_NoKind) (.type "ValueError") = some true
  kit_Taken_ValueError : PySem.W.kitOne K (.ref C_Taken) (.type "ValueError") = some true
  kit_NoPlace_ValueError : PySem.W.kitOne K (.ref C_NoPlace) (.type "ValueError") = some true
  kit_NoText_ValueError : PySem.W.kitOne K (.ref C_NoText) (.type "ValueError") = some true
  kit_NoGrowing_ValueError : PySem.W.kitOne K (.ref C_NoGrowing) (.type "ValueError") = some true
section
variable {P : Program} {w : World} {K : PySem.W.Frag} {mg : Str → Option Value} {base : Heap}
theorem okx_NoGrowing (T : Txt K mg) : FnOk P w K mg base (L2.CX P w) 1 T.fx_NoGrowing T.ex_NoGrowing ["self", "number"] (spXI K "number") :=
  fn_xi T.Fx_NoGrowing scx_NoGrowing fun cdv A outer s H E hr => pss_one (ps_ost (pe_var (by rfl) (Or.inl rfl)) (pe_var (by rfl) (Or.inl rfl)))
theorem okx_NoText (T : Txt K mg) : FnOk P w K mg base (L2.CX P w) 1 T.fx_NoText T.ex_NoText ["self", "line"] (spXI K "line") :=
  fn_xi T.Fx_NoText scx_NoText fun cdv A outer s H E hr => pss_one (ps_ost (pe_var (by rfl) (Or.inl rfl)) (pe_var (by rfl) (Or.inl rfl)))
noncomputable def t1_law_marks : DSt → Store → Res Bool :=
  (mT (m2 (mVar 1) (mVar 2) ixD))
noncomputable def e1_law_marks : DSt → Store → Res D :=
  (mVar 2)
noncomputable def m_law_marks : DSt → Store → Res Fl :=
  (mSeq (mSet 1 (mLst (mCons (mIsK [("NoGrowing", true), ("NoText", false), ("NoPlace", false), ("Taken", false), ("NoKind", false), ("NotHeld", false), ("NothingBack", false), ("NotSure", false), ("TooMany", false), ("NotFramed", false), ("NoLine", false), ("TileError", false)] (mVar 0)) (mCons (mIsK [("NoGrowing", false), ("NoText", true), ("NoPlace", false), ("Taken", false), ("NoKind", false), ("NotHeld", false), ("NothingBack", false), ("NotSure", false), ("TooMany", false), ("NotFramed", false), ("NoLine", false), ("TileError", false)] (mVar 0)) (mCons (mIsK [("NoGrowing", false), ("NoText", false), ("NoPlace", true), ("Taken", false), ("NoKind", false), ("NotHeld", false), ("NothingBack", false), ("NotSure", false), ("TooMany", false), ("NotFramed", false), ("NoLine", false), ("TileError", false)] (mVar 0)) mNil)))))
  (mSeq (mSet 1 (m2 (mVar 1) (mLst (mCons (mIsK [("NoGrowing", false), ("NoText", false), ("NoPlace", false), ("Taken", true), ("NoKind", false), ("NotHeld", false), ("NothingBack", false), ("NotSure", false), ("TooMany", false), ("NotFramed", false), ("NoLine", false), ("TileError", false)] (mVar 0)) (mCons (mIsK [("NoGrowing", false), ("NoText", false), ("NoPlace", false), ("Taken", false), ("NoKind", true), ("NotHeld", false), ("NothingBack", false), ("NotSure", false), ("TooMany", false), ("NotFramed", false), ("NoLine", false), ("TileError", false)] (mVar 0)) (mCons (mIsK [("NoGrowing", false), ("NoText", false), ("NoPlace", false), ("Taken", false), ("NoKind", false), ("NotHeld", true), ("NothingBack", false), ("NotSure", false), ("TooMany", false), ("NotFramed", false), ("NoLine", false), ("TileError", false)] (mVar 0)) mNil)))) addD))
  (mSeq (mSet 1 (m2 (mVar 1) (mLst (mCons (mIsK [("NoGrowing", false), ("NoText", false), ("NoPlace", false), ("Taken", false), ("NoKind", false), ("NotHeld", false), ("NothingBack", true), ("NotSure", false), ("TooMany", false), ("NotFramed", false), ("NoLine", false), ("TileError", false)] (mVar 0)) (mCons (mIsK [("NoGrowing", false), ("NoText", false), ("NoPlace", false), ("Taken", false), ("NoKind", false), ("NotHeld", false), ("NothingBack", false), ("NotSure", true), ("TooMany", false), ("NotFramed", false), ("NoLine", false), ("TileError", false)] (mVar 0)) (mCons (mIsK [("NoGrowing", false), ("NoText", false), ("NoPlace", false), ("Taken", false), ("NoKind", false), ("NotHeld", false), ("NothingBack", false), ("NotSure", false), ("TooMany", true), ("NotFramed", false), ("NoLine", false), ("TileError", false)] (mVar 0)) mNil)))) addD))
  (mSeq (mSet 1 (m2 (mVar 1) (mLst (mCons (mIsK [("NoGrowing", false), ("NoText", false), ("NoPlace", false), ("Taken", false), ("NoKind", false), ("NotHeld", false), ("NothingBack", false), ("NotSure", false), ("TooMany", false), ("NotFramed", true), ("NoLine", false), ("TileError", false)] (mVar 0)) (mCons (mIsK [("NoGrowing", false), ("NoText", false), ("NoPlace", false), ("Taken", false), ("NoKind", false), ("NotHeld", false), ("NothingBack", false), ("NotSure", false), ("TooMany", false), ("NotFramed", false), ("NoLine", true), ("TileError", false)] (mVar 0)) mNil))) addD))
  (mRet (mLc (mRng1 (mCons (mCB lenD (mCons (mVar 1) mNil)) mNil)) (gtName 2) t1_law_marks
  e1_law_marks [2]))))))
noncomputable def d_law_marks : List D → Store → Res D := gcD (denOf 3 m_law_marks)
theorem ok_law_marks (T : Txt K mg) : FnOk P w K mg base CX0 1 T.f_law_marks T.e_law_marks ["_law_error"] (spD K mg 1 d_law_marks) :=
  fn_gc (fn_den T.F_law_marks sc_law_marks fun cdv A outer s H E hr =>
   ((pms_cons (pms_set (i := 1) sc_law_marks.nd rfl (Or.inr rfl) (pm_lst (pma_cons (pm_isK (c := .ref T.C_NoGrowing) (cv := .ref T.C_NoGrowing) (by rfl) T.n_isinstance bb_isinstance (pm_var 0) (pe_glob (v := .ref T.C_NoGrowing) rfl T.g_NoGrowing rfl) (fun _ h => h) (List.forall_mem_cons.mpr ⟨iskO T.xn_NoGrowing T.ic_NoGrowing T.kit_NoGrowing_NoGrowing, (List.forall_mem_cons.mpr ⟨iskO T.xn_NoText T.ic_NoText T.kit_NoText_NoGrowing, (List.forall_mem_cons.mpr ⟨iskO T.xn_NoPlace T.x_NoPlace.ic T.kit_NoPlace_NoGrowing, (List.forall_mem_cons.mpr ⟨iskO T.xn_Taken T.x_Taken.ic T.kit_Taken_NoGrowing, (List.forall_mem_cons.mpr ⟨iskO T.xn_NoKind T.x_NoKind.ic T.kit_NoKind_NoGrowing, (List.forall_mem_cons.mpr ⟨iskO T.xn_NotHeld T.x_NotHeld.ic T.kit_NotHeld_NoGrowing, (List.forall_mem_cons.mpr ⟨iskO T.xn_NothingBack T.x_NothingBack.ic T.kit_NothingBack_NoGrowing, (List.forall_mem_cons.mpr ⟨iskO T.xn_NotSure T.x_NotSure.ic T.kit_NotSure_NoGrowing, (List.forall_mem_cons.mpr ⟨iskO T.xn_TooMany T.x_TooMany.ic T.kit_TooMany_NoGrowing, (List.forall_mem_cons.mpr ⟨iskO T.xn_NotFramed T.x_NotFramed.ic T.kit_NotFramed_NoGrowing, (List.forall_mem_cons.mpr ⟨iskO T.xn_NoLine T.x_NoLine.ic T.kit_NoLine_NoGrowing, (List.forall_mem_cons.mpr ⟨iskO T.xn_TileError T.x_TileError.ic T.kit_TileError_NoGrowing, (fun _ h => (List.not_mem_nil h).elim)⟩)⟩)⟩)⟩)⟩)⟩)⟩)⟩)⟩)⟩)⟩)⟩)) (pma_cons (pm_isK (c := .ref T.C_NoText) (cv := .ref T.C_NoText) (by rfl) T.n_isinstance bb_isinstance (pm_var 0) (pe_glob (v := .ref T.C_NoText) rfl T.g_NoText rfl) (fun _ h => h) (List.forall_mem_cons.mpr ⟨iskO T.xn_NoGrowing T.ic_NoGrowing T.kit_NoGrowing_NoText, (List.forall_mem_cons.mpr ⟨iskO T.xn_NoText T.ic_NoText T.kit_NoText_NoText, (List.forall_mem_cons.mpr ⟨iskO T.xn_NoPlace T.x_NoPlace.ic T.kit_NoPlace_NoText, (List.forall_mem_cons.mpr ⟨iskO T.xn_Taken T.x_Taken.ic T.kit_Taken_NoText, (List.forall_mem_cons.mpr ⟨iskO T.xn_NoKind T.x_NoKind.ic T.kit_NoKind_NoText, (List.forall_mem_cons.mpr ⟨iskO T.xn_NotHeld T.x_NotHeld.ic T.kit_NotHeld_NoText, (List.forall_mem_cons.mpr ⟨iskO T.xn_NothingBack T.x_NothingBack.ic T.kit_NothingBack_NoText, (List.forall_mem_cons.mpr ⟨iskO T.xn_NotSure T.x_NotSure.ic T.kit_NotSure_NoText, (List.forall_mem_cons.mpr ⟨iskO T.xn_TooMany T.x_TooMany.ic T.kit_TooMany_NoText, (List.forall_mem_cons.mpr ⟨iskO T.xn_NotFramed T.x_NotFramed.ic T.kit_NotFramed_NoText, (List.forall_mem_cons.mpr ⟨iskO T.xn_NoLine T.x_NoLine.ic T.kit_NoLine_NoText, (List.forall_mem_cons.mpr ⟨iskO T.xn_TileError T.x_TileError.ic T.kit_TileError_NoText, (fun _ h => (List.not_mem_nil h).elim)⟩)⟩)⟩)⟩)⟩)⟩)⟩)⟩)⟩)⟩)⟩)⟩)) (pma_cons (pm_isK (c := .ref T.C_NoPlace) (cv := .ref T.C_NoPlace) (by rfl) T.n_isinstance bb_isinstance (pm_var 0) (pe_glob (v := .ref T.C_NoPlace) rfl T.g_NoPlace rfl) (fun _ h => h) (List.forall_mem_cons.mpr ⟨iskO T.xn_NoGrowing T.ic_NoGrowing T.kit_NoGrowing_NoPlace, (List.forall_mem_cons.mpr ⟨iskO T.xn_NoText T.ic_NoText T.kit_NoText_NoPlace, (List.forall_mem_cons.mpr ⟨iskO T.xn_NoPlace T.x_NoPlace.ic T.kit_NoPlace_NoPlace, (List.forall_mem_cons.mpr ⟨iskO T.xn_Taken T.x_Taken.ic T.kit_Taken_NoPlace, (List.forall_mem_cons.mpr ⟨iskO T.xn_NoKind T.x_NoKind.ic T.kit_NoKind_NoPlace, (List.forall_mem_cons.mpr ⟨iskO T.xn_NotHeld T.x_NotHeld.ic T.kit_NotHeld_NoPlace, (List.forall_mem_cons.mpr ⟨iskO T.xn_NothingBack T.x_NothingBack.ic T.kit_NothingBack_NoPlace, (List.forall_mem_cons.mpr ⟨iskO T.xn_NotSure T.x_NotSure.ic T.kit_NotSure_NoPlace, (List.forall_mem_cons.mpr ⟨iskO T.xn_TooMany T.x_TooMany.ic T.kit_TooMany_NoPlace, (List.forall_mem_cons.mpr ⟨iskO T.xn_NotFramed T.x_NotFramed.ic T.kit_NotFramed_NoPlace, (List.forall_mem_cons.mpr ⟨iskO T.xn_NoLine T.x_NoLine.ic T.kit_NoLine_NoPlace, (List.forall_mem_cons.mpr ⟨iskO T.xn_TileError T.x_TileError.ic T.kit_TileError_NoPlace, (fun _ h => (List.not_mem_nil h).elim)⟩)⟩)⟩)⟩)⟩)⟩)⟩)⟩)⟩)⟩)⟩)⟩)) pma_nil)))))
  (pms_cons (pms_set (i := 1) sc_law_marks.nd rfl (Or.inr rfl) (pm_op od_add (pm_var 1) (pm_lst (pma_cons (pm_isK (c := .ref T.C_Taken) (cv := .ref T.C_Taken) (by rfl) T.n_isinstance bb_isinstance (pm_var 0) (pe_glob (v := .ref T.C_Taken) rfl T.g_Taken rfl) (fun _ h => h) (List.forall_mem_cons.mpr ⟨iskO T.xn_NoGrowing T.ic_NoGrowing T.kit_NoGrowing_Taken, (List.forall_mem_cons.mpr ⟨iskO T.xn_NoText T.ic_NoText T.kit_NoText_Taken, (List.forall_mem_cons.mpr ⟨iskO T.xn_NoPlace T.x_NoPlace.ic T.kit_NoPlace_Taken, (List.forall_mem_cons.mpr ⟨iskO T.xn_Taken T.x_Taken.ic T.kit_Taken_Taken, (List.forall_mem_cons.mpr ⟨iskO T.xn_NoKind T.x_NoKind.ic T.kit_NoKind_Taken, (List.forall_mem_cons.mpr ⟨iskO T.xn_NotHeld T.x_NotHeld.ic T.kit_NotHeld_Taken, (List.forall_mem_cons.mpr ⟨iskO T.xn_NothingBack T.x_NothingBack.ic T.kit_NothingBack_Taken, (List.forall_mem_cons.mpr ⟨iskO T.xn_NotSure T.x_NotSure.ic T.kit_NotSure_Taken, (List.forall_mem_cons.mpr ⟨iskO T.xn_TooMany T.x_TooMany.ic T.kit_TooMany_Taken, (List.forall_mem_cons.mpr ⟨iskO T.xn_NotFramed T.x_NotFramed.ic T.kit_NotFramed_Taken, (List.forall_mem_cons.mpr ⟨iskO T.xn_NoLine T.x_NoLine.ic T.kit_NoLine_Taken, (List.forall_mem_cons.mpr ⟨iskO T.xn_TileError T.x_TileError.ic T.kit_TileError_Taken, (fun _ h => (List.not_mem_nil h).elim)⟩)⟩)⟩)⟩)⟩)⟩)⟩)⟩)⟩)⟩)⟩)⟩)) (pma_cons (pm_isK (c := .ref T.C_NoKind) (cv := .ref T.C_NoKind) (by rfl) T.n_isinstance bb_isinstance (pm_var 0) (pe_glob (v := .ref T.C_NoKind) rfl T.g_NoKind rfl) (fun _ h => h) (List.forall_mem_cons.mpr ⟨iskO T.xn_NoGrowing T.ic_NoGrowing T.kit_NoGrowing_NoKind, (List.forall_mem_cons.mpr ⟨iskO T.xn_NoText T.ic_NoText T.kit_NoText_NoKind, (List.forall_mem_cons.mpr ⟨iskO T.xn_NoPlace T.x_NoPlace.ic T.kit_NoPlace_NoKind, (List.forall_mem_cons.mpr ⟨iskO T.xn_Taken T.x_Taken.ic T.kit_Taken_NoKind, (List.forall_mem_cons.mpr ⟨iskO T.xn_NoKind T.x_NoKind.ic T.kit_NoKind_NoKind, (List.forall_mem_cons.mpr ⟨iskO T.xn_NotHeld T.x_NotHeld.ic T.kit_NotHeld_NoKind, (List.forall_mem_cons.mpr ⟨iskO T.xn_NothingBack T.x_NothingBack.ic T.kit_NothingBack_NoKind, (List.forall_mem_cons.mpr ⟨iskO T.xn_NotSure T.x_NotSure.ic T.kit_NotSure_NoKind, (List.forall_mem_cons.mpr ⟨iskO T.xn_TooMany T.x_TooMany.ic T.kit_TooMany_NoKind, (List.forall_mem_cons.mpr ⟨iskO T.xn_NotFramed T.x_NotFramed.ic T.kit_NotFramed_NoKind, (List.forall_mem_cons.mpr ⟨iskO T.xn_NoLine T.x_NoLine.ic T.kit_NoLine_NoKind, (List.forall_mem_cons.mpr ⟨iskO T.xn_TileError T.x_TileError.ic T.kit_TileError_NoKind, (fun _ h => (List.not_mem_nil h).elim)⟩)⟩)⟩)⟩)⟩)⟩)⟩)⟩)⟩)⟩)⟩)⟩)) (pma_cons (pm_isK (c := .ref T.C_NotHeld) (cv := .ref T.C_NotHeld) (by rfl) T.n_isinstance bb_isinstance (pm_var 0) (pe_glob (v := .ref T.C_NotHeld) rfl T.g_NotHeld rfl) (fun _ h => h) (List.forall_mem_cons.mpr ⟨iskO T.xn_NoGrowing T.ic_NoGrowing T.kit_NoGrowing_NotHeld, (List.forall_mem_cons.mpr ⟨iskO T.xn_NoText T.ic_NoText T.kit_NoText_NotHeld, (List.forall_mem_cons.mpr ⟨iskO T.xn_NoPlace T.x_NoPlace.ic T.kit_NoPlace_NotHeld, (List.forall_mem_cons.mpr ⟨iskO T.xn_Taken T.x_Taken.ic T.kit_Taken_NotHeld, (List.forall_mem_cons.mpr ⟨iskO T.xn_NoKind T.x_NoKind.ic T.kit_NoKind_NotHeld, (List.forall_mem_cons.mpr ⟨iskO T.xn_NotHeld T.x_NotHeld.ic T.kit_NotHeld_NotHeld, (List.forall_mem_cons.mpr ⟨iskO T.xn_NothingBack T.x_NothingBack.ic T.kit_NothingBack_NotHeld, (List.forall_mem_cons.mpr ⟨iskO T.xn_NotSure T.x_NotSure.ic T.kit_NotSure_NotHeld, (List.forall_mem_cons.mpr ⟨iskO T.xn_TooMany T.x_TooMany.ic T.kit_TooMany_NotHeld, (List.forall_mem_cons.mpr ⟨iskO T.xn_NotFramed T.x_NotFramed.ic T.kit_NotFramed_NotHeld, (List.forall_mem_cons.mpr ⟨iskO T.xn_NoLine T.x_NoLine.ic T.kit_NoLine_NotHeld, (List.forall_mem_cons.mpr ⟨iskO T.xn_TileError T.x_TileError.ic T.kit_TileError_NotHeld, (fun _ h => (List.not_mem_nil h).elim)⟩)⟩)⟩)⟩)⟩)⟩)⟩)⟩)⟩)⟩)⟩)⟩)) pma_nil))))))
  (pms_cons (pms_set (i := 1) sc_law_marks.nd rfl (Or.inr rfl) (pm_op od_add (pm_var 1) (pm_lst (pma_cons (pm_isK (c := .ref T.C_NothingBack) (cv := .ref T.C_NothingBack) (by rfl) T.n_isinstance bb_isinstance (pm_var 0) (pe_glob (v := .ref T.C_NothingBack) rfl T.g_NothingBack rfl) (fun _ h => h) (List.forall_mem_cons.mpr ⟨iskO T.xn_NoGrowing T.ic_NoGrowing T.kit_NoGrowing_NothingBack, (List.forall_mem_cons.mpr ⟨iskO T.xn_NoText T.ic_NoText T.kit_NoText_NothingBack, (List.forall_mem_cons.mpr ⟨iskO T.xn_NoPlace T.x_NoPlace.ic T.kit_NoPlace_NothingBack, (List.forall_mem_cons.mpr ⟨iskO T.xn_Taken T.x_Taken.ic T.kit_Taken_NothingBack, (List.forall_mem_cons.mpr ⟨iskO T.xn_NoKind T.x_NoKind.ic T.kit_NoKind_NothingBack, (List.forall_mem_cons.mpr ⟨iskO T.xn_NotHeld T.x_NotHeld.ic T.kit_NotHeld_NothingBack, (List.forall_mem_cons.mpr ⟨iskO T.xn_NothingBack T.x_NothingBack.ic T.kit_NothingBack_NothingBack, (List.forall_mem_cons.mpr ⟨iskO T.xn_NotSure T.x_NotSure.ic T.kit_NotSure_NothingBack, (List.forall_mem_cons.mpr ⟨iskO T.xn_TooMany T.x_TooMany.ic T.kit_TooMany_NothingBack, (List.forall_mem_cons.mpr ⟨iskO T.xn_NotFramed T.x_NotFramed.ic T.kit_NotFramed_NothingBack, (List.forall_mem_cons.mpr ⟨iskO T.xn_NoLine T.x_NoLine.ic T.kit_NoLine_NothingBack, (List.forall_mem_cons.mpr ⟨iskO T.xn_TileError T.x_TileError.ic T.kit_TileError_NothingBack, (fun _ h => (List.not_mem_nil h).elim)⟩)⟩)⟩)⟩)⟩)⟩)⟩)⟩)⟩)⟩)⟩)⟩)) (pma_cons (pm_isK (c := .ref T.C_NotSure) (cv := .ref T.C_NotSure) (by rfl) T.n_isinstance bb_isinstance (pm_var 0) (pe_glob (v := .ref T.C_NotSure) rfl T.g_NotSure rfl) (fun _ h => h) (List.forall_mem_cons.mpr ⟨iskO T.xn_NoGrowing T.ic_NoGrowing T.kit_NoGrowing_NotSure, (List.forall_mem_cons.mpr ⟨iskO T.xn_NoText T.ic_NoText T.kit_NoText_NotSure, (List.forall_mem_cons.mpr ⟨iskO T.xn_NoPlace T.x_NoPlace.ic T.kit_NoPlace_NotSure, (List.forall_mem_cons.mpr ⟨iskO T.xn_Taken T.x_Taken.ic T.kit_Taken_NotSure, (List.forall_mem_cons.mpr ⟨iskO T.xn_NoKind T.x_NoKind.ic T.kit_NoKind_NotSure, (List.forall_mem_cons.mpr ⟨iskO T.xn_NotHeld T.x_NotHeld.ic T.kit_NotHeld_NotSure, (List.forall_mem_cons.mpr ⟨iskO T.xn_NothingBack T.x_NothingBack.ic T.kit_NothingBack_NotSure, (List.forall_mem_cons.mpr ⟨iskO T.xn_NotSure T.x_NotSure.ic T.kit_NotSure_NotSure, (List.forall_mem_cons.mpr ⟨iskO T.xn_TooMany T.x_TooMany.ic T.kit_TooMany_NotSure, (List.forall_mem_cons.mpr ⟨iskO T.xn_NotFramed T.x_NotFramed.ic T.kit_NotFramed_NotSure, (List.forall_mem_cons.mpr ⟨iskO T.xn_NoLine T.x_NoLine.ic T.kit_NoLine_NotSure, (List.forall_mem_cons.mpr ⟨iskO T.xn_TileError T.x_TileError.ic T.kit_TileError_NotSure, (fun _ h => (List.not_mem_nil h).elim)⟩)⟩)⟩)⟩)⟩)⟩)⟩)⟩)⟩)⟩)⟩)⟩)) (pma_cons (pm_isK (c := .ref T.C_TooMany) (cv := .ref T.C_TooMany) (by rfl) T.n_isinstance bb_isinstance (pm_var 0) (pe_glob (v := .ref T.C_TooMany) rfl T.g_TooMany rfl) (fun _ h => h) (List.forall_mem_cons.mpr ⟨iskO T.xn_NoGrowing T.ic_NoGrowing T.kit_NoGrowing_TooMany, (List.forall_mem_cons.mpr ⟨iskO T.xn_NoText T.ic_NoText T.kit_NoText_TooMany, (List.forall_mem_cons.mpr ⟨iskO T.xn_NoPlace T.x_NoPlace.ic T.kit_NoPlace_TooMany, (List.forall_mem_cons.mpr ⟨iskO T.xn_Taken T.x_Taken.ic T.kit_Taken_TooMany, (List.forall_mem_cons.mpr ⟨iskO T.xn_NoKind T.x_NoKind.ic T.kit_NoKind_TooMany, (List.forall_mem_cons.mpr ⟨iskO T.xn_NotHeld T.x_NotHeld.ic T.kit_NotHeld_TooMany, (List.forall_mem_cons.mpr ⟨iskO T.xn_NothingBack T.x_NothingBack.ic T.kit_NothingBack_TooMany, (List.forall_mem_cons.mpr ⟨iskO T.xn_NotSure T.x_NotSure.ic T.kit_NotSure_TooMany, (List.forall_mem_cons.mpr ⟨iskO T.xn_TooMany T.x_TooMany.ic T.kit_TooMany_TooMany, (List.forall_mem_cons.mpr ⟨iskO T.xn_NotFramed T.x_NotFramed.ic T.kit_NotFramed_TooMany, (List.forall_mem_cons.mpr ⟨iskO T.xn_NoLine T.x_NoLine.ic T.kit_NoLine_TooMany, (List.forall_mem_cons.mpr ⟨iskO T.xn_TileError T.x_TileError.ic T.kit_TileError_TooMany, (fun _ h => (List.not_mem_nil h).elim)⟩)⟩)⟩)⟩)⟩)⟩)⟩)⟩)⟩)⟩)⟩)⟩)) pma_nil))))))
  (pms_cons (pms_set (i := 1) sc_law_marks.nd rfl (Or.inr rfl) (pm_op od_add (pm_var 1) (pm_lst (pma_cons (pm_isK (c := .ref T.C_NotFramed) (cv := .ref T.C_NotFramed) (by rfl) T.n_isinstance bb_isinstance (pm_var 0) (pe_glob (v := .ref T.C_NotFramed) rfl T.g_NotFramed rfl) (fun _ h => h) (List.forall_mem_cons.mpr ⟨iskO T.xn_NoGrowing T.ic_NoGrowing T.kit_NoGrowing_NotFramed, (List.forall_mem_cons.mpr ⟨iskO T.xn_NoText T.ic_NoText T.kit_NoText_NotFramed, (List.forall_mem_cons.mpr ⟨iskO T.xn_NoPlace T.x_NoPlace.ic T.kit_NoPlace_NotFramed, (List.forall_mem_cons.mpr ⟨iskO T.xn_Taken T.x_Taken.ic T.kit_Taken_NotFramed, (List.forall_mem_cons.mpr ⟨iskO T.xn_NoKind T.x_NoKind.ic T.kit_NoKind_NotFramed, (List.forall_mem_cons.mpr ⟨iskO T.xn_NotHeld T.x_NotHeld.ic T.kit_NotHeld_NotFramed, (List.forall_mem_cons.mpr ⟨iskO T.xn_NothingBack T.x_NothingBack.ic T.kit_NothingBack_NotFramed, (List.forall_mem_cons.mpr ⟨iskO T.xn_NotSure T.x_NotSure.ic T.kit_NotSure_NotFramed, (List.forall_mem_cons.mpr ⟨iskO T.xn_TooMany T.x_TooMany.ic T.kit_TooMany_NotFramed, (List.forall_mem_cons.mpr ⟨iskO T.xn_NotFramed T.x_NotFramed.ic T.kit_NotFramed_NotFramed, (List.forall_mem_cons.mpr ⟨iskO T.xn_NoLine T.x_NoLine.ic T.kit_NoLine_NotFramed, (List.forall_mem_cons.mpr ⟨iskO T.xn_TileError T.x_TileError.ic T.kit_TileError_NotFramed, (fun _ h => (List.not_mem_nil h).elim)⟩)⟩)⟩)⟩)⟩)⟩)⟩)⟩)⟩)⟩)⟩)⟩)) (pma_cons (pm_isK (c := .ref T.C_NoLine) (cv := .ref T.C_NoLine) (by rfl) T.n_isinstance bb_isinstance (pm_var 0) (pe_glob (v := .ref T.C_NoLine) rfl T.g_NoLine rfl) (fun _ h => h) (List.forall_mem_cons.mpr ⟨iskO T.xn_NoGrowing T.ic_NoGrowing T.kit_NoGrowing_NoLine, (List.forall_mem_cons.mpr ⟨iskO T.xn_NoText T.ic_NoText T.kit_NoText_NoLine, (List.forall_mem_cons.mpr ⟨iskO T.xn_NoPlace T.x_NoPlace.ic T.kit_NoPlace_NoLine, (List.forall_mem_cons.mpr ⟨iskO T.xn_Taken T.x_Taken.ic T.kit_Taken_NoLine, (List.forall_mem_cons.mpr ⟨iskO T.xn_NoKind T.x_NoKind.ic T.kit_NoKind_NoLine, (List.forall_mem_cons.mpr ⟨iskO T.xn_NotHeld T.x_NotHeld.ic T.kit_NotHeld_NoLine, (List.forall_mem_cons.mpr ⟨iskO T.xn_NothingBack T.x_NothingBack.ic T.kit_NothingBack_NoLine, (List.forall_mem_cons.mpr ⟨iskO T.xn_NotSure T.x_NotSure.ic T.kit_NotSure_NoLine, (List.forall_mem_cons.mpr ⟨iskO T.xn_TooMany T.x_TooMany.ic T.kit_TooMany_NoLine, (List.forall_mem_cons.mpr ⟨iskO T.xn_NotFramed T.x_NotFramed.ic T.kit_NotFramed_NoLine, (List.forall_mem_cons.mpr ⟨iskO T.xn_NoLine T.x_NoLine.ic T.kit_NoLine_NoLine, (List.forall_mem_cons.mpr ⟨iskO T.xn_TileError T.x_TileError.ic T.kit_TileError_NoLine, (fun _ h => (List.not_mem_nil h).elim)⟩)⟩)⟩)⟩)⟩)⟩)⟩)⟩)⟩)⟩)⟩)⟩)) pma_nil)))))
  (pms_one (pms_ret (pm_lc (own := [("_law_at", 2)]) (is := [2]) rfl sc_law_marks.nd (pmi_range1 (by rfl) T.n_range (pma_cons (pm_callB cd_len (by rfl) T.n_len bb_len (pma_cons (pm_var 1) pma_nil)) pma_nil)) (blkOk_by (by show blkC N_law_marks (defScope s_law_marks) _ _ = true; decide +kernel)) (fun _ _ _ _ _ => (pmx_name (i := 2) sc_law_marks.nd rfl (Or.inl rfl))) (fun _ _ _ _ _ => pmt_one (pmt_val (pm_ix (hu_of hr) (pm_var 1) (pm_var 2) (fun _ _ => rfl)))) (fun _ _ _ _ _ => (pm_var 2)) (by decide))))))))))
noncomputable def b1_law : DSt → Store → Res Fl :=
  (mIfS (mOrT (mNotT (mT (mIsK [("NoGrowing", true), ("NoText", true), ("NoPlace", true), ("Taken", true), ("NoKind", true), ("NotHeld", true), ("NothingBack", true), ("NotSure", true), ("TooMany", true), ("NotFramed", true), ("NoLine", true)] (mVar 5)))) (mOrT (mNotT (mT (mIsK [("NoGrowing", true), ("NoText", true), ("NoPlace", true), ("Taken", true), ("NoKind", true), ("NotHeld", true), ("NothingBack", true), ("NotSure", true), ("TooMany", true), ("NotFramed", true), ("NoLine", true)] (mVar 5)))) (mT (m2 (mCall 1 d_law_marks (mCons (mVar 5) mNil)) (mLst (mCons (mVar 4) mNil)) (eqD true)))))
  (mRet (mC (.bl false)))
  mSkip)
noncomputable def b2_law : DSt → Store → Res Fl :=
  (mSeq (mSet 2 (m2 (m2 (m2 (m2 (mCB (listD false) (mCons (mVar 0) mNil)) (mLst (mCons (mC (.int 3)) mNil)) addD) (mVar 1) ixD) (m2 (mC (.int 10)) (mC (.int 30)) powD) modD) (m2 (mC (.int 10)) (mC (.int 6)) powD) subD))
  (mSeq (mSet 3 (mLst (mCons (mNewKF "NoGrowing" "number" (mVar 2)) (mCons (mNewKF "NoText" "line" (m2 (mVar 2) (mC (.int 1)) addD)) (mCons (mNewK "NoPlace") (mCons (mNewK "Taken") (mCons (mNewK "NoKind") (mCons (mNewK "NotHeld") (mCons (mNewK "NothingBack") mNil)))))))))
  (mSeq (mSet 3 (m2 (mVar 3) (mLst (mCons (mNewK "NotSure") (mCons (mNewK "TooMany") (mCons (mNewK "NotFramed") (mCons (mNewK "NoLine") mNil))))) addD))
  (mSeq (mFor (mEnum (mCons (mVar 3) mNil)) (gtTup 2 (gtCons (gtName 4) (gtCons (gtName 5) gtNil)))
  b1_law)
  (mIfS (mOrT (mT (m2 (mXfK ["NoGrowing"] "number" (m2 (mVar 3) (mC (.int 0)) ixD)) (mVar 2) (eqD true))) (mOrT (mT (m2 (mXfK ["NoText"] "line" (m2 (mVar 3) (mC (.int 1)) ixD)) (m2 (mVar 2) (mC (.int 1)) addD) (eqD true))) (mT (m2 (mCall 1 d_law_marks (mCons (mNewK "TileError") mNil)) (mLst mNil) (eqD true)))))
  (mRet (mC (.bl false)))
  mSkip)))))
noncomputable def m_law : DSt → Store → Res Fl :=
  (mSeq (mFor (mRng1 (mCons (mCB max2D (mCons (mC (.int 1)) (mCons (mCB min2D (mCons (mCB lenD (mCons (mVar 0) mNil)) (mCons (mC (.int 8)) mNil))) mNil))) mNil)) (gtName 1)
  b2_law)
  (mRet (mC (.bl true))))
noncomputable def d_law : List D → Store → Res D := denOf 6 m_law
theorem ok_law (T : Txt K mg) : FnOk P w K mg base CX0 3 T.f_law T.e_law ["_law_script"] (spD K mg 1 d_law) :=
  fn_den T.F_law sc_law fun cdv A outer s H E hr =>
   ((pms_cons (pms_for PassesOwn.never rfl (pmi_range1 (by rfl) T.n_range (pma_cons (pm_callB (cd_max2 rfl) (by rfl) T.n_max bb_max (pma_cons pm_int (pma_cons (pm_callB (cd_min2 rfl) (by rfl) T.n_min bb_min (pma_cons (pm_callB cd_len (by rfl) T.n_len bb_len (pma_cons (pm_var 0) pma_nil)) (pma_cons pm_int pma_nil))) pma_nil))) pma_nil)) (pmg_name (i := 1) sc_law.nd rfl (Or.inl rfl))
  (pms_cons (pms_set (i := 2) sc_law.nd rfl (Or.inl rfl) (pm_op od_sub (pm_op od_mod (pm_ix (hu_of hr) (pm_op od_add (pm_callTy (cd_list rfl false) (by rfl) T.n_list bb_list (pma_cons (pm_var 0) pma_nil)) (pm_lst (pma_cons pm_int pma_nil))) (pm_var 1) (fun _ _ => rfl)) (pm_op od_pow pm_int pm_int)) (pm_op od_pow pm_int pm_int)))
  (pms_cons (pms_set (i := 3) sc_law.nd rfl (Or.inl rfl) (pm_lst (pma_cons (pm_newKF T.o_NoGrowing T.ix_NoGrowing T.tx_NoGrowing (okx_NoGrowing T) (hr.mono (by decide)) T.bx_NoGrowing T.nx_NoGrowing T.xn_NoGrowing rfl T.g_NoGrowing (pm_var 2)) (pma_cons (pm_newKF T.o_NoText T.ix_NoText T.tx_NoText (okx_NoText T) (hr.mono (by decide)) T.bx_NoText T.nx_NoText T.xn_NoText rfl T.g_NoText (pm_op od_add (pm_var 2) pm_int)) (pma_cons (pm_newK T.x_NoPlace T.g_NoPlace T.xn_NoPlace rfl) (pma_cons (pm_newK T.x_Taken T.g_Taken T.xn_Taken rfl) (pma_cons (pm_newK T.x_NoKind T.g_NoKind T.xn_NoKind rfl) (pma_cons (pm_newK T.x_NotHeld T.g_NotHeld T.xn_NotHeld rfl) (pma_cons (pm_newK T.x_NothingBack T.g_NothingBack T.xn_NothingBack rfl) pma_nil)))))))))
  (pms_cons (pms_set (i := 3) sc_law.nd rfl (Or.inl rfl) (pm_op od_add (pm_var 3) (pm_lst (pma_cons (pm_newK T.x_NotSure T.g_NotSure T.xn_NotSure rfl) (pma_cons (pm_newK T.x_TooMany T.g_TooMany T.xn_TooMany rfl) (pma_cons (pm_newK T.x_NotFramed T.g_NotFramed T.xn_NotFramed rfl) (pma_cons (pm_newK T.x_NoLine T.g_NoLine T.xn_NoLine rfl) pma_nil)))))))
  (pms_cons (pms_for PassesOwn.never rfl (pmi_enum (by rfl) T.n_enumerate (pma_cons (pm_var 3) pma_nil)) (pmg_tup rfl (pmgs_cons (pmg_name (i := 4) sc_law.nd rfl (Or.inl rfl)) (pmgs_cons (pmg_name (i := 5) sc_law.nd rfl (Or.inl rfl)) pmgs_nil)))
  (pms_one (pms_if (PMW.pt (pmw_or (pmt_not (pmt_val (pm_isK (c := .ref T.C_TileError) (cv := .ref T.C_TileError) (by rfl) T.n_isinstance bb_isinstance (pm_var 5) (pe_glob (v := .ref T.C_TileError) rfl T.g_TileError rfl) (fun _ h => h) (List.forall_mem_cons.mpr ⟨iskO T.xn_NoGrowing T.ic_NoGrowing T.kit_NoGrowing_TileError, (List.forall_mem_cons.mpr ⟨iskO T.xn_NoText T.ic_NoText T.kit_NoText_TileError, (List.forall_mem_cons.mpr ⟨iskO T.xn_NoPlace T.x_NoPlace.ic T.kit_NoPlace_TileError, (List.forall_mem_cons.mpr ⟨iskO T.xn_Taken T.x_Taken.ic T.kit_Taken_TileError, (List.forall_mem_cons.mpr ⟨iskO T.xn_NoKind T.x_NoKind.ic T.kit_NoKind_TileError, (List.forall_mem_cons.mpr ⟨iskO T.xn_NotHeld T.x_NotHeld.ic T.kit_NotHeld_TileError, (List.forall_mem_cons.mpr ⟨iskO T.xn_NothingBack T.x_NothingBack.ic T.kit_NothingBack_TileError, (List.forall_mem_cons.mpr ⟨iskO T.xn_NotSure T.x_NotSure.ic T.kit_NotSure_TileError, (List.forall_mem_cons.mpr ⟨iskO T.xn_TooMany T.x_TooMany.ic T.kit_TooMany_TileError, (List.forall_mem_cons.mpr ⟨iskO T.xn_NotFramed T.x_NotFramed.ic T.kit_NotFramed_TileError, (List.forall_mem_cons.mpr ⟨iskO T.xn_NoLine T.x_NoLine.ic T.kit_NoLine_TileError, (fun _ h => (List.not_mem_nil h).elim)⟩)⟩)⟩)⟩)⟩)⟩)⟩)⟩)⟩)⟩)⟩)))) (pmw_or (pmt_not (pmt_val (pm_isK (c := .ty "ValueError") (cv := .type "ValueError") (by rfl) T.n_isinstance bb_isinstance (pm_var 5) (pe_bltn (v := .ty "ValueError") rfl T.n_ValueError rfl rfl) (fun _ h => h) (List.forall_mem_cons.mpr ⟨iskO T.xn_NoGrowing T.ic_NoGrowing T.kit_NoGrowing_ValueError, (List.forall_mem_cons.mpr ⟨iskO T.xn_NoText T.ic_NoText T.kit_NoText_ValueError, (List.forall_mem_cons.mpr ⟨iskO T.xn_NoPlace T.x_NoPlace.ic T.kit_NoPlace_ValueError, (List.forall_mem_cons.mpr ⟨iskO T.xn_Taken T.x_Taken.ic T.kit_Taken_ValueError, (List.forall_mem_cons.mpr ⟨iskO T.xn_NoKind T.x_NoKind.ic T.kit_NoKind_ValueError, (List.forall_mem_cons.mpr ⟨iskO T.xn_NotHeld T.x_NotHeld.ic T.kit_NotHeld_ValueError, (List.forall_mem_cons.mpr ⟨iskO T.xn_NothingBack T.x_NothingBack.ic T.kit_NothingBack_ValueError, (List.forall_mem_cons.mpr ⟨iskO T.xn_NotSure T.x_NotSure.ic T.kit_NotSure_ValueError, (List.forall_mem_cons.mpr ⟨iskO T.xn_TooMany T.x_TooMany.ic T.kit_TooMany_ValueError, (List.forall_mem_cons.mpr ⟨iskO T.xn_NotFramed T.x_NotFramed.ic T.kit_NotFramed_ValueError, (List.forall_mem_cons.mpr ⟨iskO T.xn_NoLine T.x_NoLine.ic T.kit_NoLine_ValueError, (fun _ h => (List.not_mem_nil h).elim)⟩)⟩)⟩)⟩)⟩)⟩)⟩)⟩)⟩)⟩)⟩)))) (pmw_or1 (pmt_cmp (od_ne hr.units) (pm_call (ok_law_marks T) (hr.mono (by decide)) (by rfl) T.g_law_marks T.F_law_marks.kp T.b_law_marks (pma_cons (pm_var 5) pma_nil)) (pm_lst (pma_cons (pm_var 4) pma_nil)) (nomark _))))))
  (pms_one (pms_ret pm_bl))
  pms_nil)))
  (pms_one (pms_if (PMW.pt (pmw_or (pmt_cmp (od_ne hr.units) (pm_xfk (pm_ix (hu_of hr) (pm_var 3) pm_int (fun _ _ => rfl)) (List.forall_mem_cons.mpr ⟨xfkO T.xn_NoGrowing T.xf_NoGrowing T.nx_NoGrowing, (fun _ h => (List.not_mem_nil h).elim)⟩)) (pm_var 2) (nomark _)) (pmw_or (pmt_cmp (od_ne hr.units) (pm_xfk (pm_ix (hu_of hr) (pm_var 3) pm_int (fun _ _ => rfl)) (List.forall_mem_cons.mpr ⟨xfkO T.xn_NoText T.xf_NoText T.nx_NoText, (fun _ h => (List.not_mem_nil h).elim)⟩)) (pm_op od_add (pm_var 2) pm_int) (nomark _)) (pmw_or1 (pmt_cmp (od_ne hr.units) (pm_call (ok_law_marks T) (hr.mono (by decide)) (by rfl) T.g_law_marks T.F_law_marks.kp T.b_law_marks (pma_cons (pm_newK T.x_TileError T.g_TileError T.xn_TileError rfl) pma_nil)) (pm_lst pma_nil) (nomark _))))))
  (pms_one (pms_ret pm_bl))
  pms_nil)))))))
  (pms_one (pms_ret pm_bl))))
end
theorem set_go {σ : DSt} {i : Nat} {x : Option D} {P : DSt → Prop} (h : ∀ σ', σ.set i x = σ' → P σ') : ∀ σ', σ.set i x = σ' → P σ' := h
theorem wipe_go {σ : DSt} {vs : List Nat} {P : DSt → Prop} (h : ∀ σ', dwipe σ vs = σ' → P σ') : ∀ σ', dwipe σ vs = σ' → P σ' := h
theorem setS_go {S t t' : Store} {n k : Nat} {o : Ob} {P : Store → Prop} (hl : S.length = n) (e : t.set k o = t') (h : P (S ++ t')) : ∀ S', (S ++ t).set (n + k) o = S' → P S' := fun S' q => by rw [st_set hl, e] at q; subst q; exact h
theorem setS_go0 {S t t' : Store} {n : Nat} {o : Ob} {P : Store → Prop} (hl : S.length = n) (e : t.set 0 o = t') (h : P (S ++ t')) : ∀ S', (S ++ t).set n o = S' → P S' := setS_go (k := 0) hl e h
theorem get_go {S t : Store} {n k : Nat} {o : Ob} (hl : S.length = n) (e : t[k]? = some o) : (S ++ t)[n + k]? = some o := (st_get hl).trans e
theorem get_go0 {S t : Store} {n : Nat} {o : Ob} (hl : S.length = n) (e : t[0]? = some o) : (S ++ t)[n]? = some o := (st_get0 hl).trans e
section
variable {α : Type} {σ : DSt} {S t : Store} {Q : D → Store → Prop} {QB : Bool → Store → Prop} {n : Nat} {ms : DSt → Store → Res (List D)}
theorem k_dict0 (hl : S.length = n) (h : Q (.loc n) (S ++ [.dT []])) : Ok ((fun _ S => .ok (.loc S.length) (S ++ [.dT []]) : DSt → Store → Res D) σ S) Q := by
  subst hl; exact k_ok h
theorem k_dict1 {k : Nat} {t' : Store} (hl : S.length = n) (hk : t.length = k) (ht : t ++ [.dT []] = t') (h : Q (.loc (n + k)) (S ++ t')) : Ok ((fun _ S => .ok (.loc S.length) (S ++ [.dT []]) : DSt → Store → Res D) σ (S ++ t)) Q := by
  subst hl hk ht
  refine k_ok ?_
  rw [List.length_append, List.append_assoc]; exact h
theorem par_of {σ : DSt} {i j : Nat} {x y : D} {P : DSt → Prop} (h : ∀ σ', (σ.set i (some x)).set j (some y) = σ' → P σ') : ∃ x' y', [x, y] = [x', y'] ∧ ∀ σ', (σ.set i (some x')).set j (some y') = σ' → P σ' := ⟨x, y, rfl, h⟩
theorem len_of {k : Nat} {p : Prop} {ds : List D} (e : ds.length ≤ k) (h : p) : ds.length ≤ k ∧ p := ⟨e, h⟩
theorem true_of {p : Prop} {b : Bool} (e : b = true) (h : p) : b = true ∧ p := ⟨e, h⟩
theorem lenE_of {k : Nat} {p : Prop} {ds : List D} (e : ds.length = k) (h : p) : ds.length = k ∧ p := ⟨e, h⟩
theorem src_of {s : Src} {P : Src → Prop} {d : D} (e : seqSrc d S = some s) (h : P s) : ∃ s, seqSrc d S = some s ∧ P s := ⟨_, e, h⟩
theorem src_str {l : List Nat} {P : Src → Prop} (e : l.length ≤ 16777216) (h : P ⟨l.map fun c => D.str (tx [c]), []⟩) : ∃ s, seqSrc (.str (tx l)) S = some s ∧ P s := ⟨_, by rw [seqSrc_str, if_pos (by rw [tx_len, size_eq]; exact e)]; rfl, h⟩
theorem rng_of {i : Int} {m : Nat} {P : Nat → Prop} (e : i = (m : Int)) (hl : m ≤ 16777216) (h : P m) : ∃ (i' : Int) (n' : Nat), [D.int i] = [D.int i'] ∧ i' = (n' : Int) ∧ n' ≤ 16777216 ∧ P n' := ⟨i, m, rfl, e, hl, h⟩
end
section
variable {α : Type} {xs : List α} {l : List Nat}
theorem cutL_to (n : Nat) : L3.cut xs none (some (n : Int)) = xs.take n := by
  unfold L3.cut
  rw [HT.sIx_none, HT.sIx_nat, List.drop_zero, Nat.sub_zero]
  rcases Nat.le_total n xs.length with h | h
  · rw [Nat.min_eq_left h]
  · rw [Nat.min_eq_right h, List.take_length, List.take_of_length_le h]
theorem cutL_from (n : Nat) : L3.cut xs (some (n : Int)) none = xs.drop n := by
  unfold L3.cut
  rw [HT.sIx_none, HT.sIx_nat]
  rcases Nat.le_total n xs.length with h | h
  · rw [Nat.min_eq_left h, List.take_of_length_le (by rw [List.length_drop]; omega)]
  · rw [Nat.min_eq_right h, List.drop_eq_nil_of_le h, List.drop_length]
    simp
theorem cutL_toO (n : Nat) : L3.cut xs none (some (no_index (OfNat.ofNat n : Int))) = xs.take n := cutL_to n
theorem cutL_fromO (n : Nat) : L3.cut xs (some (no_index (OfNat.ofNat n : Int))) none = xs.drop n := cutL_from n
theorem cutS_toO (n : Nat) : cutS (tx l) none (some (no_index (OfNat.ofNat n : Int))) = tx (l.take n) := cut_to l n
theorem cutS_fromO (n : Nat) : cutS (tx l) (some (no_index (OfNat.ofNat n : Int))) none = tx (l.drop n) := cut_from l n
theorem p_slT2 {S : Store} {Q : D → Store → Prop} {ds es : List D} {lo hi : Option Int} (e : L3.cut ds lo hi = es) (h : Q (.tup es) S) : Ok (sliceD (.tup ds) lo hi S) Q := p_slT (by rw [e]; exact h)
theorem p_slL2 {S : Store} {Q : D → Store → Prop} {ds es : List D} {lo hi : Option Int} (e : L3.cut ds lo hi = es) (h : Q (.lst es) S) : Ok (sliceD (.lst ds) lo hi S) Q := p_slL (by rw [e]; exact h)
theorem p_slF2 {S : Store} {Q : D → Store → Prop} {ds es : List D} {lo hi : Option Int} (e : L3.cut ds lo hi = es) (h : Q (.lst es) S) : Ok (sliceD (.frz ds) lo hi S) Q := p_slF (by rw [e]; exact h)
theorem p_slS2 {S : Store} {Q : D → Store → Prop} {m : Str} {lo hi : Option Int} (hl : l.length ≤ 16777216) (e : cutS (tx l) lo hi = m) (h : Q (.str m) S) : Ok (sliceD (.str (tx l)) lo hi S) Q := p_slS hl (by rw [e]; exact h)
end
theorem en_lst {S : Store} {ds : List D} {P : Src → Prop} (h : P ⟨ds, []⟩) : ∃ d s, [D.lst ds] = [d] ∧ lstSrc d S = some s ∧ P s := ⟨_, _, rfl, lstSrc_lst, h⟩
theorem en_frz {S : Store} {ds : List D} {P : Src → Prop} (h : P ⟨ds, []⟩) : ∃ d s, [D.frz ds] = [d] ∧ lstSrc d S = some s ∧ P s := ⟨_, _, rfl, lstSrc_frz, h⟩
local macro_rules | `(tactic| walk_at "sz") => `(tactic| first | assumption | (simp only [List.length_cons, List.length_nil, List.length_map, List.length_append, List.length_range] <;> omega) | (simp <;> omega) | (simp; done))
local macro_rules | `(tactic| walk_at "st") => `(tactic| first | assumption | exact get_go (by assumption) rfl | exact get_go0 (by assumption) rfl | exact get_go rfl rfl | exact get_go0 rfl rfl)
local macro_rules | `(tactic| walk_at "lk") => `(tactic| (intro σ' e; simp only [List.set_cons_zero, List.set_cons_succ, dwipe] at e; subst e))
local macro_rules | `(tactic| walk_at "s1") => `(tactic| first
  | with_reducible refine w_seq ?_
  | with_reducible refine w_set ?_
  | with_reducible refine w_ifs ?_
  | with_reducible refine w_ret ?_
  | with_reducible refine w_do ?_
  | with_reducible refine w_skip ?_
  | with_reducible refine w_for ?_
  | with_reducible refine w_asg ?_
  | with_reducible refine w_par ?_
  | with_reducible refine w_par3 ?_
  | with_reducible refine w_nx ?_
  | with_reducible refine w_rt ?_
  | with_reducible refine w_bk ?_
  | with_reducible refine w_ct ?_
  | with_reducible refine w_raise ?_
  | with_reducible refine br_t ?_
  | with_reducible refine br_f ?_
  | with_reducible refine br_not ?_
  | with_reducible refine br_xt ?_
  | with_reducible refine br_xf ?_
  | ((fail_if_success (with_reducible refine wf_id ?_)); (fail_if_success (with_reducible refine br_id ?_)); walk_at "s1b"))
local macro_rules | `(tactic| walk_at "s1b") => `(tactic| first
  | ((with_reducible apply k_var); focus exact rfl)
  | with_reducible refine k_cons ?_
  | with_reducible refine k_nil ?_
  | with_reducible refine k_C ?_
  | with_reducible refine k_m2 ?_
  | ((with_reducible refine set_go ?_); walk_at "lk")
  | ((with_reducible refine wipe_go ?_); walk_at "lk")
  | with_reducible refine k_mT ?_
  | with_reducible refine bl_of ?_
  | with_reducible refine int_of ?_
  | with_reducible refine k_call ?_
  | ((with_reducible refine lenE_of ?_ ?_); focus exact rfl)
  | with_reducible refine k_cb ?_
  | with_reducible refine k_gname ?_
  | with_reducible refine k_gnil ?_
  | with_reducible refine k_gcons ?_
  | ((with_reducible refine k_gtup ?_ ?_); focus exact rfl)
  | ((with_reducible refine k_gktp ?_ ?_); focus exact rfl)
  | with_reducible refine k_gsub ?_
  | with_reducible refine k_tup ?_
  | with_reducible refine k_lst ?_
  | with_reducible refine k_lstM ?_
  | ((with_reducible refine len_of ?_ ?_); focus (walk_at "sz"))
  | with_reducible refine k_m1 ?_
  | with_reducible refine k_andT ?_
  | with_reducible refine k_orT ?_
  | with_reducible refine k_notT ?_
  | with_reducible refine k_andV ?_
  | with_reducible refine k_orV ?_
  | with_reducible refine k_notV ?_
  | with_reducible refine k_ifx ?_
  | with_reducible refine k_neg ?_
  | with_reducible refine k_ch ?_
  | with_reducible refine k_lc ?_
  | with_reducible refine k_lcM ?_
  | with_reducible refine k_sl ?_
  | with_reducible refine k_nopart ?_
  | with_reducible refine k_part ?_
  | with_reducible refine k_bm ?_
  | with_reducible refine k_get1 ?_
  | with_reducible refine k_get2 ?_
  | with_reducible refine k_seqi ?_
  | ((with_reducible refine src_str ?_ ?_); focus (walk_at "sz"))
  | ((with_reducible apply src_of); focus (first | exact seqSrc_tup | exact seqSrc_lst | exact seqSrc_frz | exact seqSrc_ktp | exact seqSrc_loc (by walk_at "st")))
  | with_reducible refine k_rng1 ?_
  | with_reducible refine k_enum ?_
  | with_reducible refine k_enumA ?_
  | with_reducible refine en_lst ?_
  | with_reducible refine en_frz ?_
  | ((with_reducible refine par_of ?_); walk_at "lk")
  | ((with_reducible refine par3_of ?_); walk_at "lk")
  | walk_at "s2")
local macro_rules | `(tactic| walk_at "s2") => `(tactic| first
  | with_reducible refine k_ok ?_
  | with_reducible refine p_add ?_
  | ((with_reducible refine p_addS ?_ ?_); focus (walk_at "sz"))
  | ((with_reducible refine p_addT ?_ ?_); focus (walk_at "sz"))
  | ((with_reducible refine p_addL ?_ ?_); focus (walk_at "sz"))
  | ((with_reducible refine p_addM ?_ ?_); focus (walk_at "sz"))
  | ((with_reducible apply p_addLO); (focus (walk_at "st")); (focus (walk_at "sz")))
  | with_reducible refine p_sub ?_
  | ((with_reducible refine p_mulR ?_ ?_ ?_); (focus omega); (focus omega))
  | ((with_reducible refine p_mulL ?_ ?_ ?_); (focus omega); (focus omega))
  | ((with_reducible refine p_fdiv ?_ ?_ ?_); (focus omega); (focus omega))
  | ((with_reducible refine p_mod ?_ ?_); focus omega)
  | with_reducible refine p_lt ?_
  | with_reducible refine p_ltS ?_
  | with_reducible refine p_cmp ?_
  | with_reducible refine p_eqI ?_
  | with_reducible refine p_isN ?_
  | with_reducible refine p_isNi ?_
  | with_reducible refine p_isNs ?_
  | with_reducible refine p_isNl ?_
  | with_reducible refine p_isNt ?_
  | with_reducible refine p_isB ?_
  | with_reducible refine p_eqB ?_
  | ((with_reducible apply p_isi); focus (first | exact isi_tuple_tup | exact isi_tuple_ktp | exact isi_tuple_str | exact isi_tuple_int | exact isi_tuple_bl | exact isi_tuple_lst | exact isi_tuple_non | exact isi_str_tup | exact isi_str_str | exact isi_str_int | exact isi_str_bl | exact isi_str_lst | exact isi_str_non | exact isi_int_tup | exact isi_int_str | exact isi_int_int | exact isi_int_bl | exact isi_int_lst | exact isi_int_non | exact isi_bool_tup | exact isi_bool_str | exact isi_bool_int | exact isi_bool_bl | exact isi_bool_lst | exact isi_bool_non | exact isi_list_tup | exact isi_list_str | exact isi_list_int | exact isi_list_bl | exact isi_list_lst | exact isi_list_non | exact isi_dict_tup | exact isi_dict_str | exact isi_dict_int | exact isi_dict_bl | exact isi_dict_lst | exact isi_dict_non))
  | ((with_reducible apply p_sortL); focus (walk_at "st"))
  | ((with_reducible apply p_ixT); focus exact rfl)
  | ((with_reducible apply p_ixL); focus exact rfl)
  | ((with_reducible apply p_ixTm); focus assumption)
  | ((with_reducible apply p_ixLm); focus assumption)
  | ((with_reducible apply p_ixFm); focus assumption)
  | ((with_reducible apply p_ixO); (focus (walk_at "st")); (focus exact rfl))
  | ((with_reducible apply p_slT2); (focus (simp only [cutL_to, cutL_from, cutL_toO, cutL_fromO, List.take_succ_cons, List.take_zero, List.drop_succ_cons, List.drop_zero]; exact rfl)))
  | ((with_reducible apply p_slL2); (focus (simp only [cutL_to, cutL_from, cutL_toO, cutL_fromO, List.take_succ_cons, List.take_zero, List.drop_succ_cons, List.drop_zero]; exact rfl)))
  | ((with_reducible apply p_slF2); (focus (simp only [cutL_to, cutL_from, cutL_toO, cutL_fromO, List.take_succ_cons, List.take_zero, List.drop_succ_cons, List.drop_zero]; exact rfl)))
  | with_reducible refine p_slT ?_
  | with_reducible refine p_slL ?_
  | ((with_reducible apply p_slS2); (focus (walk_at "sz")); (focus (simp only [cut_to, cut_from, cutS_toO, cutS_fromO]; exact rfl)))
  | ((with_reducible refine p_slS ?_ ?_); focus (walk_at "sz"))
  | with_reducible refine p_lenT ?_
  | with_reducible refine p_lenL ?_
  | with_reducible refine p_lenF ?_
  | with_reducible refine p_lenK ?_
  | ((with_reducible refine p_lenS ?_ ?_); focus (walk_at "sz"))
  | ((with_reducible apply p_lenO); focus (walk_at "st"))
  | with_reducible refine p_abs ?_
  | with_reducible refine p_max2 ?_
  | with_reducible refine p_min2 ?_
  | with_reducible refine p_int ?_
  | with_reducible refine p_intB ?_
  | with_reducible refine p_tupL ?_
  | with_reducible refine p_tupT ?_
  | with_reducible refine p_tupX ?_
  | ((with_reducible apply p_ixPm); focus assumption)
  | ((with_reducible apply p_ixP); focus exact rfl)
  | with_reducible refine p_tupF ?_
  | ((with_reducible apply p_tupO); focus (walk_at "st"))
  | with_reducible refine p_listL ?_
  | with_reducible refine p_listT ?_
  | with_reducible refine p_listF ?_
  | ((with_reducible apply p_app); (focus (walk_at "st")); (focus (walk_at "sz")))
  | ((with_reducible apply p_extL); (focus (walk_at "st")); (focus (walk_at "sz")))
  | ((with_reducible apply setS_go); (focus assumption); (focus (simp only [List.set_cons_zero, List.set_cons_succ]; exact rfl)))
  | ((with_reducible apply setS_go0); (focus assumption); (focus (simp only [List.set_cons_zero, List.set_cons_succ]; exact rfl)))
  | ((with_reducible refine true_of ?_ ?_); focus (first | exact rfl | exact tyOk_loc (by walk_at "st")))
  | ((with_reducible apply k_dict0); (focus assumption))
  | ((with_reducible apply k_dict1); (focus assumption); (focus exact rfl); (focus exact rfl)))
local macro_rules | `(tactic| walk_at "vs") => `(tactic| repeat walk_at "s1")
local macro_rules | `(tactic| walk_at "vp") => `(tactic| repeat ((fail_if_success (with_reducible refine w_ifs ?_)); walk_at "s1"))
local macro_rules | `(tactic| walk_at "den") => `(tactic| ((with_reducible apply den_ok); (focus (simp only [List.map_cons, List.map_nil, List.length_cons, List.length_nil, Nat.reduceAdd, Nat.reduceSub, List.replicate, List.cons_append, List.nil_append]; exact rfl))))
/-! ### the marks of an exception -/
section
variable {den : List D → Store → Res D} {ds : List D} {S : Store} {P : D → Store → Prop}
theorem gc_pure (h : Ok (den ds S) fun d S' => (∃ g, S' = S ++ g) ∧ d.sc S.length = true ∧ P d S) : Ok (gcD den ds S) P := by
  obtain ⟨d, S', e, ⟨g, rfl⟩, hs, hp⟩ := h
  exact k_eq (gcD_pure e hs) hp
end
def xcs : List (Str × Nat) := [("NoGrowing", 0), ("NoText", 1), ("NoPlace", 2), ("Taken", 3), ("NoKind", 4), ("NotHeld", 5), ("NothingBack", 6), ("NotSure", 7), ("TooMany", 8), ("NotFramed", 9), ("NoLine", 10)]
theorem marks_lc (i : Nat) (x : Option D) {S : Store} {QL : List D → Store → Prop} (h : QL (((List.range 11).filter fun j => decide (j = i)).map fun j : Nat => D.int j) S) :
    Ok (lcGo [] (gtName 2) t1_law_marks e1_law_marks [x, some (.lst ([.bl (decide (i = 0)), .bl (decide (i = 1)), .bl (decide (i = 2))] ++ [.bl (decide (i = 3)), .bl (decide (i = 4)), .bl (decide (i = 5))] ++ [.bl (decide (i = 6)), .bl (decide (i = 7)), .bl (decide (i = 8))] ++ [.bl (decide (i = 9)), .bl (decide (i = 10))])), none] ((List.range 11).map fun k : Nat => D.int k) S) QL := by
  refine k_lcP (fun j : Nat => decide (j = i)) (fun j : Nat => D.int j) (fun _ h => (List.not_mem_nil h).elim) (fun j hj => ?_) h
  walk_at "vs"
  have hj := List.mem_range.mp hj
  unfold t1_law_marks e1_law_marks
  walk_at "vs"
  refine k_eq (x := .bl (decide (j = i))) (S := S) ?_ ?_
  · obtain rfl | rfl | rfl | rfl | rfl | rfl | rfl | rfl | rfl | rfl | rfl : j = 0 ∨ j = 1 ∨ j = 2 ∨ j = 3 ∨ j = 4 ∨ j = 5 ∨ j = 6 ∨ j = 7 ∨ j = 8 ∨ j = 9 ∨ j = 10 := by omega
    all_goals (simp [ixD, eq_comm]; try rfl)
  walk_at "vs"
  exact ⟨rfl, br_dec (fun _ => k_var rfl ⟨rfl, rfl⟩) (fun _ => rfl)⟩
theorem marks_sol {c : Str} {fl : Option (Str × Int)} {S : Store} (i : Nat) (h : (c, i) ∈ xcs) : Ok (d_law_marks [.exk c fl] S) fun d S' => d = .lst [.int i] ∧ S' = S := by
  simp only [xcs, List.mem_cons, Prod.mk.injEq, List.not_mem_nil, or_false] at h
  rcases h with ⟨rfl, rfl⟩ | ⟨rfl, rfl⟩ | ⟨rfl, rfl⟩ | ⟨rfl, rfl⟩ | ⟨rfl, rfl⟩ | ⟨rfl, rfl⟩ | ⟨rfl, rfl⟩ | ⟨rfl, rfl⟩ | ⟨rfl, rfl⟩ | ⟨rfl, rfl⟩ | ⟨rfl, rfl⟩
  · unfold d_law_marks
    refine gc_pure ?_
    walk_at "den"
    unfold m_law_marks
    walk_at "vs"
    repeat ((first | refine k_isK (b := true) rfl rfl ?_ | refine k_isK (b := false) rfl rfl ?_); walk_at "vs")
    refine ⟨_, 11, rfl, rfl, by decide, ?_⟩
    walk_at "lk"
    refine marks_lc 0 _ ?_
    exact ⟨⟨[], (List.append_nil _).symm⟩, rfl, rfl, rfl⟩
  · unfold d_law_marks
    refine gc_pure ?_
    walk_at "den"
    unfold m_law_marks
    walk_at "vs"
    repeat ((first | refine k_isK (b := true) rfl rfl ?_ | refine k_isK (b := false) rfl rfl ?_); walk_at "vs")
    refine ⟨_, 11, rfl, rfl, by decide, ?_⟩
    walk_at "lk"
    refine marks_lc 1 _ ?_
    exact ⟨⟨[], (List.append_nil _).symm⟩, rfl, rfl, rfl⟩
  · unfold d_law_marks
    refine gc_pure ?_
    walk_at "den"
    unfold m_law_marks
    walk_at "vs"
    repeat ((first | refine k_isK (b := true) rfl rfl ?_ | refine k_isK (b := false) rfl rfl ?_); walk_at "vs")
    refine ⟨_, 11, rfl, rfl, by decide, ?_⟩
    walk_at "lk"
    refine marks_lc 2 _ ?_
    exact ⟨⟨[], (List.append_nil _).symm⟩, rfl, rfl, rfl⟩
  · unfold d_law_marks
    refine gc_pure ?_
    walk_at "den"
    unfold m_law_marks
    walk_at "vs"
    repeat ((first | refine k_isK (b := true) rfl rfl ?_ | refine k_isK (b := false) rfl rfl ?_); walk_at "vs")
    refine ⟨_, 11, rfl, rfl, by decide, ?_⟩
    walk_at "lk"
    refine marks_lc 3 _ ?_
    exact ⟨⟨[], (List.append_nil _).symm⟩, rfl, rfl, rfl⟩
  · unfold d_law_marks
    refine gc_pure ?_
    walk_at "den"
    unfold m_law_marks
    walk_at "vs"
    repeat ((first | refine k_isK (b := true) rfl rfl ?_ | refine k_isK (b := false) rfl rfl ?_); walk_at "vs")
    refine ⟨_, 11, rfl, rfl, by decide, ?_⟩
    walk_at "lk"
    refine marks_lc 4 _ ?_
    exact ⟨⟨[], (List.append_nil _).symm⟩, rfl, rfl, rfl⟩
  · unfold d_law_marks
    refine gc_pure ?_
    walk_at "den"
    unfold m_law_marks
    walk_at "vs"
    repeat ((first | refine k_isK (b := true) rfl rfl ?_ | refine k_isK (b := false) rfl rfl ?_); walk_at "vs")
    refine ⟨_, 11, rfl, rfl, by decide, ?_⟩
    walk_at "lk"
    refine marks_lc 5 _ ?_
    exact ⟨⟨[], (List.append_nil _).symm⟩, rfl, rfl, rfl⟩
  · unfold d_law_marks
    refine gc_pure ?_
    walk_at "den"
    unfold m_law_marks
    walk_at "vs"
    repeat ((first | refine k_isK (b := true) rfl rfl ?_ | refine k_isK (b := false) rfl rfl ?_); walk_at "vs")
    refine ⟨_, 11, rfl, rfl, by decide, ?_⟩
    walk_at "lk"
    refine marks_lc 6 _ ?_
    exact ⟨⟨[], (List.append_nil _).symm⟩, rfl, rfl, rfl⟩
  · unfold d_law_marks
    refine gc_pure ?_
    walk_at "den"
    unfold m_law_marks
    walk_at "vs"
    repeat ((first | refine k_isK (b := true) rfl rfl ?_ | refine k_isK (b := false) rfl rfl ?_); walk_at "vs")
    refine ⟨_, 11, rfl, rfl, by decide, ?_⟩
    walk_at "lk"
    refine marks_lc 7 _ ?_
    exact ⟨⟨[], (List.append_nil _).symm⟩, rfl, rfl, rfl⟩
  · unfold d_law_marks
    refine gc_pure ?_
    walk_at "den"
    unfold m_law_marks
    walk_at "vs"
    repeat ((first | refine k_isK (b := true) rfl rfl ?_ | refine k_isK (b := false) rfl rfl ?_); walk_at "vs")
    refine ⟨_, 11, rfl, rfl, by decide, ?_⟩
    walk_at "lk"
    refine marks_lc 8 _ ?_
    exact ⟨⟨[], (List.append_nil _).symm⟩, rfl, rfl, rfl⟩
  · unfold d_law_marks
    refine gc_pure ?_
    walk_at "den"
    unfold m_law_marks
    walk_at "vs"
    repeat ((first | refine k_isK (b := true) rfl rfl ?_ | refine k_isK (b := false) rfl rfl ?_); walk_at "vs")
    refine ⟨_, 11, rfl, rfl, by decide, ?_⟩
    walk_at "lk"
    refine marks_lc 9 _ ?_
    exact ⟨⟨[], (List.append_nil _).symm⟩, rfl, rfl, rfl⟩
  · unfold d_law_marks
    refine gc_pure ?_
    walk_at "den"
    unfold m_law_marks
    walk_at "vs"
    repeat ((first | refine k_isK (b := true) rfl rfl ?_ | refine k_isK (b := false) rfl rfl ?_); walk_at "vs")
    refine ⟨_, 11, rfl, rfl, by decide, ?_⟩
    walk_at "lk"
    refine marks_lc 10 _ ?_
    exact ⟨⟨[], (List.append_nil _).symm⟩, rfl, rfl, rfl⟩
theorem marks_none {S : Store} : Ok (d_law_marks [.exk "TileError" none] S) fun d S' => d = .lst [] ∧ S' = S := by
  unfold d_law_marks
  refine gc_pure ?_
  walk_at "den"
  unfold m_law_marks
  walk_at "vs"
  repeat ((first | refine k_isK (b := true) rfl rfl ?_ | refine k_isK (b := false) rfl rfl ?_); walk_at "vs")
  refine ⟨_, 11, rfl, rfl, by decide, ?_⟩
  walk_at "lk"
  refine marks_lc 11 _ ?_
  exact ⟨⟨[], (List.append_nil _).symm⟩, rfl, rfl, rfl⟩
/-! ### the law -/
theorem k_newK {c : Str} {σ : DSt} {S : Store} {Q : D → Store → Prop} (hq : Q (.exk c none) S) : Ok (mNewK c σ S) Q := k_eq (by rfl) hq
theorem k_newKF {c f : Str} {i : Int} {m : DSt → Store → Res D} {σ : DSt} {S : Store} {Q : D → Store → Prop} (e : Ok (m σ S) fun d S' => d = .int i ∧ S' = S) (hq : Q (.exk c (some (f, i))) S) : Ok (mNewKF c f m σ S) Q := by
  obtain ⟨_, _, e, rfl, rfl⟩ := e
  refine k_eq ?_ hq
  unfold mNewKF
  rw [e]
  rfl
theorem no_guardE {α : Type} {I : List α → DSt → Store → Prop} : ∀ l σ S, I l σ S → gOk [] S := fun _ _ _ _ => fun _ h => (List.not_mem_nil h).elim
def exl (N : Int) : List (Str × Option (Str × Int) × Nat) := [("NoGrowing", some ("number", N), 0), ("NoText", some ("line", N + 1), 1), ("NoPlace", none, 2), ("Taken", none, 3), ("NoKind", none, 4), ("NotHeld", none, 5), ("NothingBack", none, 6), ("NotSure", none, 7), ("TooMany", none, 8), ("NotFramed", none, 9), ("NoLine", none, 10)]
theorem exl_ok {N : Int} {x : Str × Option (Str × Int) × Nat} (h : x ∈ exl N) : (x.1, x.2.2) ∈ xcs := by
  simp only [exl, List.mem_cons, List.not_mem_nil, or_false] at h
  rcases h with rfl | rfl | rfl | rfl | rfl | rfl | rfl | rfl | rfl | rfl | rfl <;> simp [xcs]
theorem xcs_look {c : Str} {j : Nat} (h : (c, j) ∈ xcs) : ([("NoGrowing", true), ("NoText", true), ("NoPlace", true), ("Taken", true), ("NoKind", true), ("NotHeld", true), ("NothingBack", true), ("NotSure", true), ("TooMany", true), ("NotFramed", true), ("NoLine", true)] : List (Str × Bool)).lookup c = some true := by
  simp only [xcs, List.mem_cons, Prod.mk.injEq, List.not_mem_nil, or_false] at h
  rcases h with ⟨rfl, rfl⟩ | ⟨rfl, rfl⟩ | ⟨rfl, rfl⟩ | ⟨rfl, rfl⟩ | ⟨rfl, rfl⟩ | ⟨rfl, rfl⟩ | ⟨rfl, rfl⟩ | ⟨rfl, rfl⟩ | ⟨rfl, rfl⟩ | ⟨rfl, rfl⟩ | ⟨rfl, rfl⟩ <;> rfl
theorem says : Says d_law := by
  intro ns hns
  have key : Ok (d_law [.frz (ns.map D.int)] []) fun d _ => d = .bl true := by
    unfold d_law
    walk_at "den"
    unfold m_law
    walk_at "vs"
    refine rng_of (m := max 1 (min ns.length 8)) (by simp; omega) (by omega) ?_
    refine w_each (fun l σ S' => ∃ x1 x2 x3 x4 x5 : Option D, σ = [some (.frz (ns.map D.int)), x1, x2, x3, x4, x5]) ⟨_, _, _, _, _, rfl⟩ no_guardE ?_ ?_
    · rintro l k r σ S e0 ⟨x1, x2, x3, x4, x5, rfl⟩
      have hk : k < ns.length + 1 := by
        have h1 : k ∈ List.range (max 1 (min ns.length 8)) := by rw [e0]; simp
        have := List.mem_range.mp h1
        omega
      obtain ⟨z, hz⟩ : ∃ z : Int, (ns ++ [3])[k]? = some z := ⟨_, List.getElem?_eq_getElem (by simpa using hk)⟩
      unfold b2_law
      walk_at "vs"
      rw [show ns.map D.int ++ [D.int 3] = (ns ++ [3]).map D.int by simp]
      refine p_ixLm hz ?_
      walk_at "vs"
      refine k_eq (show powD (.int 10) (.int 30) S = .ok (.int (10 ^ 30)) S from by rw [e_pow, if_pos (by decide)]; rfl) ?_
      walk_at "vs"
      refine k_eq (show powD (.int 10) (.int 6) S = .ok (.int (10 ^ 6)) S from by rw [e_pow, if_pos (by decide)]; rfl) ?_
      walk_at "vs"
      generalize z % 10 ^ 30 - 10 ^ 6 = N
      refine k_newKF (i := N) (k_var rfl ⟨rfl, rfl⟩) ?_
      walk_at "vs"
      refine k_newKF (i := N + 1) (by walk_at "vs"; exact ⟨rfl, rfl⟩) ?_
      walk_at "vs"
      repeat (refine k_newK ?_; walk_at "vs")
      refine w_each (xs := exl N) (f := fun x => D.tup [.int x.2.2, .exk x.1 x.2.1]) (fun l σ S' => ∃ x4 x5 : Option D, S' = S ∧ σ = [some (.frz (ns.map D.int)), some (.int k), some (.int N), some (.lst ((exl N).map fun x => D.exk x.1 x.2.1)), x4, x5]) ⟨_, _, rfl, rfl⟩ no_guardE ?_ ?_
      · rintro l2 x r2 σ S' e1 ⟨x4, x5, rfl, rfl⟩
        have hx := exl_ok (show x ∈ exl N from by rw [e1]; simp)
        obtain ⟨c, fl, j⟩ := x
        unfold b1_law
        walk_at "vs"
        refine k_isK (b := true) rfl (xcs_look hx) ?_
        walk_at "vs"
        refine k_isK (b := true) rfl (xcs_look hx) ?_
        walk_at "vs"
        refine (marks_sol j hx).imp ?_
        rintro _ _ ⟨rfl, rfl⟩
        walk_at "vs"
        refine p_eqS (by simp) ?_
        walk_at "vs"
        exact ⟨_, _, rfl, rfl⟩
      · rintro σ S' ⟨x4, x5, rfl, rfl⟩
        walk_at "vs"
        refine k_xfK (c := "NoGrowing") (z := N) rfl (by simp) ?_
        walk_at "vs"
        rw [decide_eq_true rfl]
        walk_at "vs"
        refine k_xfK (c := "NoText") (z := N + 1) rfl (by simp) ?_
        walk_at "vs"
        rw [decide_eq_true rfl]
        walk_at "vs"
        refine k_newK ?_
        walk_at "vs"
        refine marks_none.imp ?_
        rintro _ _ ⟨rfl, rfl⟩
        walk_at "vs"
        refine p_eqS (by simp) ?_
        walk_at "vs"
        exact ⟨_, _, _, _, _, rfl⟩
    · rintro σ S ⟨x1, x2, x3, x4, x5, rfl⟩
      walk_at "vs"
      rfl
  obtain ⟨d, S', e, rfl⟩ := key
  exact ⟨S', e⟩
theorem all_mk {l : PySem.W.OpenLaw} {w : World} {K : PySem.W.Frag} {h : Heap} {mg : Str → Option Value} {fa : Addr} (X : K.In h) (G : h.Ns mainGlobals mg) (hfa : mg "law" = some (.ref fa))
    {CNoGrowing : Addr} (aCNoGrowing : PySem.W.nsIn K mainGlobals "NoGrowing" = some (some (.ref CNoGrowing)))
    {CNoKind : Addr} (aCNoKind : PySem.W.nsIn K mainGlobals "NoKind" = some (some (.ref CNoKind)))
    {CNoLine : Addr} (aCNoLine : PySem.W.nsIn K mainGlobals "NoLine" = some (some (.ref CNoLine)))
    {CNoPlace : Addr} (aCNoPlace : PySem.W.nsIn K mainGlobals "NoPlace" = some (some (.ref CNoPlace)))
    {CNoText : Addr} (aCNoText : PySem.W.nsIn K mainGlobals "NoText" = some (some (.ref CNoText)))
    {CNotFramed : Addr} (aCNotFramed : PySem.W.nsIn K mainGlobals "NotFramed" = some (some (.ref CNotFramed)))
    {CNotHeld : Addr} (aCNotHeld : PySem.W.nsIn K mainGlobals "NotHeld" = some (some (.ref CNotHeld)))
    {CNotSure : Addr} (aCNotSure : PySem.W.nsIn K mainGlobals "NotSure" = some (some (.ref CNotSure)))
    {CNothingBack : Addr} (aCNothingBack : PySem.W.nsIn K mainGlobals "NothingBack" = some (some (.ref CNothingBack)))
    {CTaken : Addr} (aCTaken : PySem.W.nsIn K mainGlobals "Taken" = some (some (.ref CTaken)))
    {CTileError : Addr} (aCTileError : PySem.W.nsIn K mainGlobals "TileError" = some (some (.ref CTileError)))
    {CTooMany : Addr} (aCTooMany : PySem.W.nsIn K mainGlobals "TooMany" = some (some (.ref CTooMany)))
    (x5 : PySem.W.specialIn K (.builtin "object.__class__") "__get__" = some (some (.builtin "getset_descriptor.__get__"))) (x6 : PySem.W.takesIn K (.builtin "object.__class__") = some true)
    {nmNoGrowing qqNoGrowing : Str} {NNNoGrowing : Addr} {bsNoGrowing : List Value} {snNoGrowing : List Str} {subNoGrowing : List Value} {abNoGrowing : Bool} {colNoGrowing : Option Bool} {ddNoGrowing : Option Addr} {maNoGrowing mbNoGrowing mcNoGrowing mdNoGrowing meNoGrowing : Option Value} {cbNoGrowingTileError : Addr}
    (xLNoGrowing : K.lookup CNoGrowing = some (excClassObj nmNoGrowing qqNoGrowing CNoGrowing NNNoGrowing bsNoGrowing [.ref cbNoGrowingTileError, .type "ValueError", .type "Exception", .type "BaseException", .type "object"] true snNoGrowing subNoGrowing abNoGrowing colNoGrowing ddNoGrowing maNoGrowing mbNoGrowing mcNoGrowing mdNoGrowing meNoGrowing "ValueError.__new__"))
    (saNoGrowing : PySem.W.findIn K (.ref CNoGrowing) "__setattr__" = some (some (.builtin "object.__setattr__")))
    (nfNoGrowing : PySem.W.findIn K (.ref CNoGrowing) "number" = some none)
    {fXNoGrowing : Addr} {odXNoGrowing anXNoGrowing : Option Addr} {slXNoGrowing : Array (Option Value)} {ocXNoGrowing kVXNoGrowing dcXNoGrowing pmXNoGrowing cdXNoGrowing ctXNoGrowing : Value}
    (aXNoGrowing : PySem.W.findIn K (.ref CNoGrowing) "__init__" = some (some (.ref fXNoGrowing))) (iXNoGrowing : PySem.W.typeIn K (.ref fXNoGrowing) = some (.type "function")) (lXNoGrowing : K.lookup fXNoGrowing = some ⟨ocXNoGrowing, odXNoGrowing, .func (PySem.W.fnOf "__init__" "NoGrowing.__init__" (defArgs sx_NoGrowing) (defBody sx_NoGrowing) (defScope sx_NoGrowing) .none kVXNoGrowing dcXNoGrowing pmXNoGrowing anXNoGrowing cdXNoGrowing ctXNoGrowing), slXNoGrowing⟩) (cXNoGrowing : PySem.W.codeIn K cdXNoGrowing "NoGrowing.__init__" = true) (kXNoGrowing : PySem.W.keepIn K (.ref fXNoGrowing) = true)
    {nmNoText qqNoText : Str} {NNNoText : Addr} {bsNoText : List Value} {snNoText : List Str} {subNoText : List Value} {abNoText : Bool} {colNoText : Option Bool} {ddNoText : Option Addr} {maNoText mbNoText mcNoText mdNoText meNoText : Option Value} {cbNoTextTileError : Addr}
    (xLNoText : K.lookup CNoText = some (excClassObj nmNoText qqNoText CNoText NNNoText bsNoText [.ref cbNoTextTileError, .type "ValueError", .type "Exception", .type "BaseException", .type "object"] true snNoText subNoText abNoText colNoText ddNoText maNoText mbNoText mcNoText mdNoText meNoText "ValueError.__new__"))
    (saNoText : PySem.W.findIn K (.ref CNoText) "__setattr__" = some (some (.builtin "object.__setattr__")))
    (nfNoText : PySem.W.findIn K (.ref CNoText) "line" = some none)
    {fXNoText : Addr} {odXNoText anXNoText : Option Addr} {slXNoText : Array (Option Value)} {ocXNoText kVXNoText dcXNoText pmXNoText cdXNoText ctXNoText : Value}
    (aXNoText : PySem.W.findIn K (.ref CNoText) "__init__" = some (some (.ref fXNoText))) (iXNoText : PySem.W.typeIn K (.ref fXNoText) = some (.type "function")) (lXNoText : K.lookup fXNoText = some ⟨ocXNoText, odXNoText, .func (PySem.W.fnOf "__init__" "NoText.__init__" (defArgs sx_NoText) (defBody sx_NoText) (defScope sx_NoText) .none kVXNoText dcXNoText pmXNoText anXNoText cdXNoText ctXNoText), slXNoText⟩) (cXNoText : PySem.W.codeIn K cdXNoText "NoText.__init__" = true) (kXNoText : PySem.W.keepIn K (.ref fXNoText) = true)
    (xpNoGrowing : PySem.W.keepIn K (.ref CNoGrowing) = true)
    (xbNoGrowing : PySem.W.subIn K (.ref CNoGrowing) (.type "BaseException") = some true)
    (xtNoGrowing : PySem.W.typeIn K (.ref CNoGrowing) = some (.type "type"))
    (x1NoGrowing : PySem.W.findIn K (.ref CNoGrowing) "__getattribute__" = some (some (.builtin "BaseException.__getattribute__")))
    (x2NoGrowing : PySem.W.findIn K (.ref CNoGrowing) "__getattr__" = some none)
    (x3NoGrowing : PySem.W.hasDictIn K CNoGrowing = true)
    (x4NoGrowing : PySem.W.findIn K (.ref CNoGrowing) "__class__" = some (some (.builtin "object.__class__")))
    (x7NoGrowing : PySem.W.mroIn K CNoGrowing (.type "object") = some true)
    (xeNoKind : PySem.W.excIn K CNoKind [.type "ValueError", .type "Exception", .type "BaseException", .type "object"] "ValueError.__new__" = true)
    (xpNoKind : PySem.W.keepIn K (.ref CNoKind) = true)
    (xbNoKind : PySem.W.subIn K (.ref CNoKind) (.type "BaseException") = some true)
    (xtNoKind : PySem.W.typeIn K (.ref CNoKind) = some (.type "type"))
    (x1NoKind : PySem.W.findIn K (.ref CNoKind) "__getattribute__" = some (some (.builtin "BaseException.__getattribute__")))
    (x2NoKind : PySem.W.findIn K (.ref CNoKind) "__getattr__" = some none)
    (x3NoKind : PySem.W.hasDictIn K CNoKind = true)
    (x4NoKind : PySem.W.findIn K (.ref CNoKind) "__class__" = some (some (.builtin "object.__class__")))
    (x7NoKind : PySem.W.mroIn K CNoKind (.type "object") = some true)
    (xeNoLine : PySem.W.excIn K CNoLine [.type "ValueError", .type "Exception", .type "BaseException", .type "object"] "ValueError.__new__" = true)
    (xpNoLine : PySem.W.keepIn K (.ref CNoLine) = true)
    (xbNoLine : PySem.W.subIn K (.ref CNoLine) (.type "BaseException") = some true)
    (xtNoLine : PySem.W.typeIn K (.ref CNoLine) = some (.type "type"))
    (x1NoLine : PySem.W.findIn K (.ref CNoLine) "__getattribute__" = some (some (.builtin "BaseException.__getattribute__")))
    (x2NoLine : PySem.W.findIn K (.ref CNoLine) "__getattr__" = some none)
    (x3NoLine : PySem.W.hasDictIn K CNoLine = true)
    (x4NoLine : PySem.W.findIn K (.ref CNoLine) "__class__" = some (some (.builtin "object.__class__")))
    (x7NoLine : PySem.W.mroIn K CNoLine (.type "object") = some true)
    (xeNoPlace : PySem.W.excIn K CNoPlace [.type "ValueError", .type "Exception", .type "BaseException", .type "object"] "ValueError.__new__" = true)
    (xpNoPlace : PySem.W.keepIn K (.ref CNoPlace) = true)
    (xbNoPlace : PySem.W.subIn K (.ref CNoPlace) (.type "BaseException") = some true)
    (xtNoPlace : PySem.W.typeIn K (.ref CNoPlace) = some (.type "type"))
    (x1NoPlace : PySem.W.findIn K (.ref CNoPlace) "__getattribute__" = some (some (.builtin "BaseException.__getattribute__")))
    (x2NoPlace : PySem.W.findIn K (.ref CNoPlace) "__getattr__" = some none)
    (x3NoPlace : PySem.W.hasDictIn K CNoPlace = true)
    (x4NoPlace : PySem.W.findIn K (.ref CNoPlace) "__class__" = some (some (.builtin "object.__class__")))
    (x7NoPlace : PySem.W.mroIn K CNoPlace (.type "object") = some true)
    (xpNoText : PySem.W.keepIn K (.ref CNoText) = true)
    (xbNoText : PySem.W.subIn K (.ref CNoText) (.type "BaseException") = some true)
    (xtNoText : PySem.W.typeIn K (.ref CNoText) = some (.type "type"))
    (x1NoText : PySem.W.findIn K (.ref CNoText) "__getattribute__" = some (some (.builtin "BaseException.__getattribute__")))
    (x2NoText : PySem.W.findIn K (.ref CNoText) "__getattr__" = some none)
    (x3NoText : PySem.W.hasDictIn K CNoText = true)
    (x4NoText : PySem.W.findIn K (.ref CNoText) "__class__" = some (some (.builtin "object.__class__")))
    (x7NoText : PySem.W.mroIn K CNoText (.type "object") = some true)
    (xeNotFramed : PySem.W.excIn K CNotFramed [.type "ValueError", .type "Exception", .type "BaseException", .type "object"] "ValueError.__new__" = true)
    (xpNotFramed : PySem.W.keepIn K (.ref CNotFramed) = true)
    (xbNotFramed : PySem.W.subIn K (.ref CNotFramed) (.type "BaseException") = some true)
    (xtNotFramed : PySem.W.typeIn K (.ref CNotFramed) = some (.type "type"))
    (x1NotFramed : PySem.W.findIn K (.ref CNotFramed) "__getattribute__" = some (some (.builtin "BaseException.__getattribute__")))
    (x2NotFramed : PySem.W.findIn K (.ref CNotFramed) "__getattr__" = some none)
    (x3NotFramed : PySem.W.hasDictIn K CNotFramed = true)
    (x4NotFramed : PySem.W.findIn K (.ref CNotFramed) "__class__" = some (some (.builtin "object.__class__")))
    (x7NotFramed : PySem.W.mroIn K CNotFramed (.type "object") = some true)
    (xeNotHeld : PySem.W.excIn K CNotHeld [.type "ValueError", .type "Exception", .type "BaseException", .type "object"] "ValueError.__new__" = true)
    (xpNotHeld : PySem.W.keepIn K (.ref CNotHeld) = true)
    (xbNotHeld : PySem.W.subIn K (.ref CNotHeld) (.type "BaseException") = some true)
    (xtNotHeld : PySem.W.typeIn K (.ref CNotHeld) = some (.type "type"))
    (x1NotHeld : PySem.W.findIn K (.ref CNotHeld) "__getattribute__" = some (some (.builtin "BaseException.__getattribute__")))
    (x2NotHeld : PySem.W.findIn K (.ref CNotHeld) "__getattr__" = some none)
    (x3NotHeld : PySem.W.hasDictIn K CNotHeld = true)
    (x4NotHeld : PySem.W.findIn K (.ref CNotHeld) "__class__" = some (some (.builtin "object.__class__")))
    (x7NotHeld : PySem.W.mroIn K CNotHeld (.type "object") = some true)
    (xeNotSure : PySem.W.excIn K CNotSure [.type "ValueError", .type "Exception", .type "BaseException", .type "object"] "ValueError.__new__" = true)
    (xpNotSure : PySem.W.keepIn K (.ref CNotSure) = true)
    (xbNotSure : PySem.W.subIn K (.ref CNotSure) (.type "BaseException") = some true)
    (xtNotSure : PySem.W.typeIn K (.ref CNotSure) = some (.type "type"))
    (x1NotSure : PySem.W.findIn K (.ref CNotSure) "__getattribute__" = some (some (.builtin "BaseException.__getattribute__")))
    (x2NotSure : PySem.W.findIn K (.ref CNotSure) "__getattr__" = some none)
    (x3NotSure : PySem.W.hasDictIn K CNotSure = true)
    (x4NotSure : PySem.W.findIn K (.ref CNotSure) "__class__" = some (some (.builtin "object.__class__")))
    (x7NotSure : PySem.W.mroIn K CNotSure (.type "object") = some true)
    (xeNothingBack : PySem.W.excIn K CNothingBack [.type "ValueError", .type "Exception", .type "BaseException", .type "object"] "ValueError.__new__" = true)
    (xpNothingBack : PySem.W.keepIn K (.ref CNothingBack) = true)
    (xbNothingBack : PySem.W.subIn K (.ref CNothingBack) (.type "BaseException") = some true)
    (xtNothingBack : PySem.W.typeIn K (.ref CNothingBack) = some (.type "type"))
    (x1NothingBack : PySem.W.findIn K (.ref CNothingBack) "__getattribute__" = some (some (.builtin "BaseException.__getattribute__")))
    (x2NothingBack : PySem.W.findIn K (.ref CNothingBack) "__getattr__" = some none)
    (x3NothingBack : PySem.W.hasDictIn K CNothingBack = true)
    (x4NothingBack : PySem.W.findIn K (.ref CNothingBack) "__class__" = some (some (.builtin "object.__class__")))
    (x7NothingBack : PySem.W.mroIn K CNothingBack (.type "object") = some true)
    (xeTaken : PySem.W.excIn K CTaken [.type "ValueError", .type "Exception", .type "BaseException", .type "object"] "ValueError.__new__" = true)
    (xpTaken : PySem.W.keepIn K (.ref CTaken) = true)
    (xbTaken : PySem.W.subIn K (.ref CTaken) (.type "BaseException") = some true)
    (xtTaken : PySem.W.typeIn K (.ref CTaken) = some (.type "type"))
    (x1Taken : PySem.W.findIn K (.ref CTaken) "__getattribute__" = some (some (.builtin "BaseException.__getattribute__")))
    (x2Taken : PySem.W.findIn K (.ref CTaken) "__getattr__" = some none)
    (x3Taken : PySem.W.hasDictIn K CTaken = true)
    (x4Taken : PySem.W.findIn K (.ref CTaken) "__class__" = some (some (.builtin "object.__class__")))
    (x7Taken : PySem.W.mroIn K CTaken (.type "object") = some true)
    (xeTileError : PySem.W.excIn K CTileError [.type "ValueError", .type "Exception", .type "BaseException", .type "object"] "ValueError.__new__" = true)
    (xpTileError : PySem.W.keepIn K (.ref CTileError) = true)
    (xbTileError : PySem.W.subIn K (.ref CTileError) (.type "BaseException") = some true)
    (xtTileError : PySem.W.typeIn K (.ref CTileError) = some (.type "type"))
    (x1TileError : PySem.W.findIn K (.ref CTileError) "__getattribute__" = some (some (.builtin "BaseException.__getattribute__")))
    (x2TileError : PySem.W.findIn K (.ref CTileError) "__getattr__" = some none)
    (x3TileError : PySem.W.hasDictIn K CTileError = true)
    (x4TileError : PySem.W.findIn K (.ref CTileError) "__class__" = some (some (.builtin "object.__class__")))
    (x7TileError : PySem.W.mroIn K CTileError (.type "object") = some true)
    (xeTooMany : PySem.W.excIn K CTooMany [.type "ValueError", .type "Exception", .type "BaseException", .type "object"] "ValueError.__new__" = true)
    (xpTooMany : PySem.W.keepIn K (.ref CTooMany) = true)
    (xbTooMany : PySem.W.subIn K (.ref CTooMany) (.type "BaseException") = some true)
    (xtTooMany : PySem.W.typeIn K (.ref CTooMany) = some (.type "type"))
    (x1TooMany : PySem.W.findIn K (.ref CTooMany) "__getattribute__" = some (some (.builtin "BaseException.__getattribute__")))
    (x2TooMany : PySem.W.findIn K (.ref CTooMany) "__getattr__" = some none)
    (x3TooMany : PySem.W.hasDictIn K CTooMany = true)
    (x4TooMany : PySem.W.findIn K (.ref CTooMany) "__class__" = some (some (.builtin "object.__class__")))
    (x7TooMany : PySem.W.mroIn K CTooMany (.type "object") = some true)
    (xqNoGrowing : PySem.W.isClsIn K CNoGrowing = true) (xrNoGrowing : PySem.W.typeIn K (.ref CNoGrowing) = some (.type "type")) (xsNoGrowing : PySem.W.subIn K (.ref CNoGrowing) (.ref CNoGrowing) = some true)
    (xqNoKind : PySem.W.isClsIn K CNoKind = true) (xrNoKind : PySem.W.typeIn K (.ref CNoKind) = some (.type "type")) (xsNoKind : PySem.W.subIn K (.ref CNoKind) (.ref CNoKind) = some true)
    (xqNoLine : PySem.W.isClsIn K CNoLine = true) (xrNoLine : PySem.W.typeIn K (.ref CNoLine) = some (.type "type")) (xsNoLine : PySem.W.subIn K (.ref CNoLine) (.ref CNoLine) = some true)
    (xqNoPlace : PySem.W.isClsIn K CNoPlace = true) (xrNoPlace : PySem.W.typeIn K (.ref CNoPlace) = some (.type "type")) (xsNoPlace : PySem.W.subIn K (.ref CNoPlace) (.ref CNoPlace) = some true)
    (xqNoText : PySem.W.isClsIn K CNoText = true) (xrNoText : PySem.W.typeIn K (.ref CNoText) = some (.type "type")) (xsNoText : PySem.W.subIn K (.ref CNoText) (.ref CNoText) = some true)
    (xqNotFramed : PySem.W.isClsIn K CNotFramed = true) (xrNotFramed : PySem.W.typeIn K (.ref CNotFramed) = some (.type "type")) (xsNotFramed : PySem.W.subIn K (.ref CNotFramed) (.ref CNotFramed) = some true)
    (xqNotHeld : PySem.W.isClsIn K CNotHeld = true) (xrNotHeld : PySem.W.typeIn K (.ref CNotHeld) = some (.type "type")) (xsNotHeld : PySem.W.subIn K (.ref CNotHeld) (.ref CNotHeld) = some true)
    (xqNotSure : PySem.W.isClsIn K CNotSure = true) (xrNotSure : PySem.W.typeIn K (.ref CNotSure) = some (.type "type")) (xsNotSure : PySem.W.subIn K (.ref CNotSure) (.ref CNotSure) = some true)
    (xqNothingBack : PySem.W.isClsIn K CNothingBack = true) (xrNothingBack : PySem.W.typeIn K (.ref CNothingBack) = some (.type "type")) (xsNothingBack : PySem.W.subIn K (.ref CNothingBack) (.ref CNothingBack) = some true)
    (xqTaken : PySem.W.isClsIn K CTaken = true) (xrTaken : PySem.W.typeIn K (.ref CTaken) = some (.type "type")) (xsTaken : PySem.W.subIn K (.ref CTaken) (.ref CTaken) = some true)
    (xqTileError : PySem.W.isClsIn K CTileError = true) (xrTileError : PySem.W.typeIn K (.ref CTileError) = some (.type "type")) (xsTileError : PySem.W.subIn K (.ref CTileError) (.ref CTileError) = some true)
    (xqTooMany : PySem.W.isClsIn K CTooMany = true) (xrTooMany : PySem.W.typeIn K (.ref CTooMany) = some (.type "type")) (xsTooMany : PySem.W.subIn K (.ref CTooMany) (.ref CTooMany) = some true)
    (sp_NoGrowing_NoGrowing : PySem.W.subIn K (.ref CNoGrowing) (.ref CNoGrowing) = some true)
    (sp_NoGrowing_NoKind : PySem.W.subIn K (.ref CNoGrowing) (.ref CNoKind) = some false)
    (sp_NoGrowing_NoLine : PySem.W.subIn K (.ref CNoGrowing) (.ref CNoLine) = some false)
    (sp_NoGrowing_NoPlace : PySem.W.subIn K (.ref CNoGrowing) (.ref CNoPlace) = some false)
    (sp_NoGrowing_NoText : PySem.W.subIn K (.ref CNoGrowing) (.ref CNoText) = some false)
    (sp_NoGrowing_NotFramed : PySem.W.subIn K (.ref CNoGrowing) (.ref CNotFramed) = some false)
    (sp_NoGrowing_NotHeld : PySem.W.subIn K (.ref CNoGrowing) (.ref CNotHeld) = some false)
    (sp_NoGrowing_NotSure : PySem.W.subIn K (.ref CNoGrowing) (.ref CNotSure) = some false)
    (sp_NoGrowing_NothingBack : PySem.W.subIn K (.ref CNoGrowing) (.ref CNothingBack) = some false)
    (sp_NoGrowing_Taken : PySem.W.subIn K (.ref CNoGrowing) (.ref CTaken) = some false)
    (sp_NoGrowing_TileError : PySem.W.subIn K (.ref CNoGrowing) (.ref CTileError) = some true)
    (sp_NoGrowing_TooMany : PySem.W.subIn K (.ref CNoGrowing) (.ref CTooMany) = some false)
    (sp_NoGrowing_ValueError : PySem.W.subIn K (.ref CNoGrowing) (.type "ValueError") = some true)
    (sp_NoKind_NoGrowing : PySem.W.subIn K (.ref CNoKind) (.ref CNoGrowing) = some false)
    (sp_NoKind_NoKind : PySem.W.subIn K (.ref CNoKind) (.ref CNoKind) = some true)
    (sp_NoKind_NoLine : PySem.W.subIn K (.ref CNoKind) (.ref CNoLine) = some false)
    (sp_NoKind_NoPlace : PySem.W.subIn K (.ref CNoKind) (.ref CNoPlace) = some false)
    (sp_NoKind_NoText : PySem.W.subIn K (.ref CNoKind) (.ref CNoText) = some false)
    (sp_NoKind_NotFramed : PySem.W.subIn K (.ref CNoKind) (.ref CNotFramed) = some false)
    (sp_NoKind_NotHeld : PySem.W.subIn K (.ref CNoKind) (.ref CNotHeld) = some false)
    (sp_NoKind_NotSure : PySem.W.subIn K (.ref CNoKind) (.ref CNotSure) = some false)
    (sp_NoKind_NothingBack : PySem.W.subIn K (.ref CNoKind) (.ref CNothingBack) = some false)
    (sp_NoKind_Taken : PySem.W.subIn K (.ref CNoKind) (.ref CTaken) = some false)
    (sp_NoKind_TileError : PySem.W.subIn K (.ref CNoKind) (.ref CTileError) = some true)
    (sp_NoKind_TooMany : PySem.W.subIn K (.ref CNoKind) (.ref CTooMany) = some false)
    (sp_NoKind_ValueError : PySem.W.subIn K (.ref CNoKind) (.type "ValueError") = some true)
    (sp_NoLine_NoGrowing : PySem.W.subIn K (.ref CNoLine) (.ref CNoGrowing) = some false)
    (sp_NoLine_NoKind : PySem.W.subIn K (.ref CNoLine) (.ref CNoKind) = some false)
    (sp_NoLine_NoLine : PySem.W.subIn K (.ref CNoLine) (.ref CNoLine) = some true)
    (sp_NoLine_NoPlace : PySem.W.subIn K (.ref CNoLine) (.ref CNoPlace) = some false)
    (sp_NoLine_NoText : PySem.W.subIn K (.ref CNoLine) (.ref CNoText) = some false)
    (sp_NoLine_NotFramed : PySem.W.subIn K (.ref CNoLine) (.ref CNotFramed) = some false)
    (sp_NoLine_NotHeld : PySem.W.subIn K (.ref CNoLine) (.ref CNotHeld) = some false)
    (sp_NoLine_NotSure : PySem.W.subIn K (.ref CNoLine) (.ref CNotSure) = some false)
    (sp_NoLine_NothingBack : PySem.W.subIn K (.ref CNoLine) (.ref CNothingBack) = some false)
    (sp_NoLine_Taken : PySem.W.subIn K (.ref CNoLine) (.ref CTaken) = some false)
    (sp_NoLine_TileError : PySem.W.subIn K (.ref CNoLine) (.ref CTileError) = some true)
    (sp_NoLine_TooMany : PySem.W.subIn K (.ref CNoLine) (.ref CTooMany) = some false)
    (sp_NoLine_ValueError : PySem.W.subIn K (.ref CNoLine) (.type "ValueError") = some true)
    (sp_NoPlace_NoGrowing : PySem.W.subIn K (.ref CNoPlace) (.ref CNoGrowing) = some false)
    (sp_NoPlace_NoKind : PySem.W.subIn K (.ref CNoPlace) (.ref CNoKind) = some false)
    (sp_NoPlace_NoLine : PySem.W.subIn K (.ref CNoPlace) (.ref CNoLine) = some false)
    (sp_NoPlace_NoPlace : PySem.W.subIn K (.ref CNoPlace) (.ref CNoPlace) = some true)
    (sp_NoPlace_NoText : PySem.W.subIn K (.ref CNoPlace) (.ref CNoText) = some false)
    (sp_NoPlace_NotFramed : PySem.W.subIn K (.ref CNoPlace) (.ref CNotFramed) = some false)
    (sp_NoPlace_NotHeld : PySem.W.subIn K (.ref CNoPlace) (.ref CNotHeld) = some false)
    (sp_NoPlace_NotSure : PySem.W.subIn K (.ref CNoPlace) (.ref CNotSure) = some false)
    (sp_NoPlace_NothingBack : PySem.W.subIn K (.ref CNoPlace) (.ref CNothingBack) = some false)
    (sp_NoPlace_Taken : PySem.W.subIn K (.ref CNoPlace) (.ref CTaken) = some false)
    (sp_NoPlace_TileError : PySem.W.subIn K (.ref CNoPlace) (.ref CTileError) = some true)
    (sp_NoPlace_TooMany : PySem.W.subIn K (.ref CNoPlace) (.ref CTooMany) = some false)
    (sp_NoPlace_ValueError : PySem.W.subIn K (.ref CNoPlace) (.type "ValueError") = some true)
    (sp_NoText_NoGrowing : PySem.W.subIn K (.ref CNoText) (.ref CNoGrowing) = some false)
    (sp_NoText_NoKind : PySem.W.subIn K (.ref CNoText) (.ref CNoKind) = some false)
    (sp_NoText_NoLine : PySem.W.subIn K (.ref CNoText) (.ref CNoLine) = some false)
    (sp_NoText_NoPlace : PySem.W.subIn K (.ref CNoText) (.ref CNoPlace) = some false)
    (sp_NoText_NoText : PySem.W.subIn K (.ref CNoText) (.ref CNoText) = some true)
    (sp_NoText_NotFramed : PySem.W.subIn K (.ref CNoText) (.ref CNotFramed) = some false)
    (sp_NoText_NotHeld : PySem.W.subIn K (.ref CNoText) (.ref CNotHeld) = some false)
    (sp_NoText_NotSure : PySem.W.subIn K (.ref CNoText) (.ref CNotSure) = some false)
    (sp_NoText_NothingBack : PySem.W.subIn K (.ref CNoText) (.ref CNothingBack) = some false)
    (sp_NoText_Taken : PySem.W.subIn K (.ref CNoText) (.ref CTaken) = some false)
    (sp_NoText_TileError : PySem.W.subIn K (.ref CNoText) (.ref CTileError) = some true)
    (sp_NoText_TooMany : PySem.W.subIn K (.ref CNoText) (.ref CTooMany) = some false)
    (sp_NoText_ValueError : PySem.W.subIn K (.ref CNoText) (.type "ValueError") = some true)
    (sp_NotFramed_NoGrowing : PySem.W.subIn K (.ref CNotFramed) (.ref CNoGrowing) = some false)
    (sp_NotFramed_NoKind : PySem.W.subIn K (.ref CNotFramed) (.ref CNoKind) = some false)
    (sp_NotFramed_NoLine : PySem.W.subIn K (.ref CNotFramed) (.ref CNoLine) = some false)
    (sp_NotFramed_NoPlace : PySem.W.subIn K (.ref CNotFramed) (.ref CNoPlace) = some false)
    (sp_NotFramed_NoText : PySem.W.subIn K (.ref CNotFramed) (.ref CNoText) = some false)
    (sp_NotFramed_NotFramed : PySem.W.subIn K (.ref CNotFramed) (.ref CNotFramed) = some true)
    (sp_NotFramed_NotHeld : PySem.W.subIn K (.ref CNotFramed) (.ref CNotHeld) = some false)
    (sp_NotFramed_NotSure : PySem.W.subIn K (.ref CNotFramed) (.ref CNotSure) = some false)
    (sp_NotFramed_NothingBack : PySem.W.subIn K (.ref CNotFramed) (.ref CNothingBack) = some false)
    (sp_NotFramed_Taken : PySem.W.subIn K (.ref CNotFramed) (.ref CTaken) = some false)
    (sp_NotFramed_TileError : PySem.W.subIn K (.ref CNotFramed) (.ref CTileError) = some true)
    (sp_NotFramed_TooMany : PySem.W.subIn K (.ref CNotFramed) (.ref CTooMany) = some false)
    (sp_NotFramed_ValueError : PySem.W.subIn K (.ref CNotFramed) (.type "ValueError") = some true)
    (sp_NotHeld_NoGrowing : PySem.W.subIn K (.ref CNotHeld) (.ref CNoGrowing) = some false)
    (sp_NotHeld_NoKind : PySem.W.subIn K (.ref CNotHeld) (.ref CNoKind) = some false)
    (sp_NotHeld_NoLine : PySem.W.subIn K (.ref CNotHeld) (.ref CNoLine) = some false)
    (sp_NotHeld_NoPlace : PySem.W.subIn K (.ref CNotHeld) (.ref CNoPlace) = some false)
    (sp_NotHeld_NoText : PySem.W.subIn K (.ref CNotHeld) (.ref CNoText) = some false)
    (sp_NotHeld_NotFramed : PySem.W.subIn K (.ref CNotHeld) (.ref CNotFramed) = some false)
    (sp_NotHeld_NotHeld : PySem.W.subIn K (.ref CNotHeld) (.ref CNotHeld) = some true)
    (sp_NotHeld_NotSure : PySem.W.subIn K (.ref CNotHeld) (.ref CNotSure) = some false)
    (sp_NotHeld_NothingBack : PySem.W.subIn K (.ref CNotHeld) (.ref CNothingBack) = some false)
    (sp_NotHeld_Taken : PySem.W.subIn K (.ref CNotHeld) (.ref CTaken) = some false)
    (sp_NotHeld_TileError : PySem.W.subIn K (.ref CNotHeld) (.ref CTileError) = some true)
    (sp_NotHeld_TooMany : PySem.W.subIn K (.ref CNotHeld) (.ref CTooMany) = some false)
    (sp_NotHeld_ValueError : PySem.W.subIn K (.ref CNotHeld) (.type "ValueError") = some true)
    (sp_NotSure_NoGrowing : PySem.W.subIn K (.ref CNotSure) (.ref CNoGrowing) = some false)
    (sp_NotSure_NoKind : PySem.W.subIn K (.ref CNotSure) (.ref CNoKind) = some false)
    (sp_NotSure_NoLine : PySem.W.subIn K (.ref CNotSure) (.ref CNoLine) = some false)
    (sp_NotSure_NoPlace : PySem.W.subIn K (.ref CNotSure) (.ref CNoPlace) = some false)
    (sp_NotSure_NoText : PySem.W.subIn K (.ref CNotSure) (.ref CNoText) = some false)
    (sp_NotSure_NotFramed : PySem.W.subIn K (.ref CNotSure) (.ref CNotFramed) = some false)
    (sp_NotSure_NotHeld : PySem.W.subIn K (.ref CNotSure) (.ref CNotHeld) = some false)
    (sp_NotSure_NotSure : PySem.W.subIn K (.ref CNotSure) (.ref CNotSure) = some true)
    (sp_NotSure_NothingBack : PySem.W.subIn K (.ref CNotSure) (.ref CNothingBack) = some false)
    (sp_NotSure_Taken : PySem.W.subIn K (.ref CNotSure) (.ref CTaken) = some false)
    (sp_NotSure_TileError : PySem.W.subIn K (.ref CNotSure) (.ref CTileError) = some true)
    (sp_NotSure_TooMany : PySem.W.subIn K (.ref CNotSure) (.ref CTooMany) = some false)
    (sp_NotSure_ValueError : PySem.W.subIn K (.ref CNotSure) (.type "ValueError") = some true)
    (sp_NothingBack_NoGrowing : PySem.W.subIn K (.ref CNothingBack) (.ref CNoGrowing) = some false)
    (sp_NothingBack_NoKind : PySem.W.subIn K (.ref CNothingBack) (.ref CNoKind) = some false)
    (sp_NothingBack_NoLine : PySem.W.subIn K (.ref CNothingBack) (.ref CNoLine) = some false)
    (sp_NothingBack_NoPlace : PySem.W.subIn K (.ref CNothingBack) (.ref CNoPlace) = some false)
    (sp_NothingBack_NoText : PySem.W.subIn K (.ref CNothingBack) (.ref CNoText) = some false)
    (sp_NothingBack_NotFramed : PySem.W.subIn K (.ref CNothingBack) (.ref CNotFramed) = some false)
    (sp_NothingBack_NotHeld : PySem.W.subIn K (.ref CNothingBack) (.ref CNotHeld) = some false)
    (sp_NothingBack_NotSure : PySem.W.subIn K (.ref CNothingBack) (.ref CNotSure) = some false)
    (sp_NothingBack_NothingBack : PySem.W.subIn K (.ref CNothingBack) (.ref CNothingBack) = some true)
    (sp_NothingBack_Taken : PySem.W.subIn K (.ref CNothingBack) (.ref CTaken) = some false)
    (sp_NothingBack_TileError : PySem.W.subIn K (.ref CNothingBack) (.ref CTileError) = some true)
    (sp_NothingBack_TooMany : PySem.W.subIn K (.ref CNothingBack) (.ref CTooMany) = some false)
    (sp_NothingBack_ValueError : PySem.W.subIn K (.ref CNothingBack) (.type "ValueError") = some true)
    (sp_Taken_NoGrowing : PySem.W.subIn K (.ref CTaken) (.ref CNoGrowing) = some false)
    (sp_Taken_NoKind : PySem.W.subIn K (.ref CTaken) (.ref CNoKind) = some false)
    (sp_Taken_NoLine : PySem.W.subIn K (.ref CTaken) (.ref CNoLine) = some false)
    (sp_Taken_NoPlace : PySem.W.subIn K (.ref CTaken) (.ref CNoPlace) = some false)
    (sp_Taken_NoText : PySem.W.subIn K (.ref CTaken) (.ref CNoText) = some false)
    (sp_Taken_NotFramed : PySem.W.subIn K (.ref CTaken) (.ref CNotFramed) = some false)
    (sp_Taken_NotHeld : PySem.W.subIn K (.ref CTaken) (.ref CNotHeld) = some false)
    (sp_Taken_NotSure : PySem.W.subIn K (.ref CTaken) (.ref CNotSure) = some false)
    (sp_Taken_NothingBack : PySem.W.subIn K (.ref CTaken) (.ref CNothingBack) = some false)
    (sp_Taken_Taken : PySem.W.subIn K (.ref CTaken) (.ref CTaken) = some true)
    (sp_Taken_TileError : PySem.W.subIn K (.ref CTaken) (.ref CTileError) = some true)
    (sp_Taken_TooMany : PySem.W.subIn K (.ref CTaken) (.ref CTooMany) = some false)
    (sp_Taken_ValueError : PySem.W.subIn K (.ref CTaken) (.type "ValueError") = some true)
    (sp_TileError_NoGrowing : PySem.W.subIn K (.ref CTileError) (.ref CNoGrowing) = some false)
    (sp_TileError_NoKind : PySem.W.subIn K (.ref CTileError) (.ref CNoKind) = some false)
    (sp_TileError_NoLine : PySem.W.subIn K (.ref CTileError) (.ref CNoLine) = some false)
    (sp_TileError_NoPlace : PySem.W.subIn K (.ref CTileError) (.ref CNoPlace) = some false)
    (sp_TileError_NoText : PySem.W.subIn K (.ref CTileError) (.ref CNoText) = some false)
    (sp_TileError_NotFramed : PySem.W.subIn K (.ref CTileError) (.ref CNotFramed) = some false)
    (sp_TileError_NotHeld : PySem.W.subIn K (.ref CTileError) (.ref CNotHeld) = some false)
    (sp_TileError_NotSure : PySem.W.subIn K (.ref CTileError) (.ref CNotSure) = some false)
    (sp_TileError_NothingBack : PySem.W.subIn K (.ref CTileError) (.ref CNothingBack) = some false)
    (sp_TileError_Taken : PySem.W.subIn K (.ref CTileError) (.ref CTaken) = some false)
    (sp_TileError_TooMany : PySem.W.subIn K (.ref CTileError) (.ref CTooMany) = some false)
    (sp_TooMany_NoGrowing : PySem.W.subIn K (.ref CTooMany) (.ref CNoGrowing) = some false)
    (sp_TooMany_NoKind : PySem.W.subIn K (.ref CTooMany) (.ref CNoKind) = some false)
    (sp_TooMany_NoLine : PySem.W.subIn K (.ref CTooMany) (.ref CNoLine) = some false)
    (sp_TooMany_NoPlace : PySem.W.subIn K (.ref CTooMany) (.ref CNoPlace) = some false)
    (sp_TooMany_NoText : PySem.W.subIn K (.ref CTooMany) (.ref CNoText) = some false)
    (sp_TooMany_NotFramed : PySem.W.subIn K (.ref CTooMany) (.ref CNotFramed) = some false)
    (sp_TooMany_NotHeld : PySem.W.subIn K (.ref CTooMany) (.ref CNotHeld) = some false)
    (sp_TooMany_NotSure : PySem.W.subIn K (.ref CTooMany) (.ref CNotSure) = some false)
    (sp_TooMany_NothingBack : PySem.W.subIn K (.ref CTooMany) (.ref CNothingBack) = some false)
    (sp_TooMany_Taken : PySem.W.subIn K (.ref CTooMany) (.ref CTaken) = some false)
    (sp_TooMany_TileError : PySem.W.subIn K (.ref CTooMany) (.ref CTileError) = some true)
    (sp_TooMany_TooMany : PySem.W.subIn K (.ref CTooMany) (.ref CTooMany) = some true)
    (sp_TooMany_ValueError : PySem.W.subIn K (.ref CTooMany) (.type "ValueError") = some true)
    {f0 : Addr} {od0 an0 : Option Addr} {sl0 : Array (Option Value)} {oc0 kV0 dc0 pm0 cd0 ct0 : Value}
    (a0 : PySem.W.nsIn K mainGlobals "_law_marks" = some (some (.ref f0))) (l0 : K.lookup f0 = some ⟨oc0, od0, .func (PySem.W.fnOf "_law_marks" "_law_marks" (defArgs s_law_marks) (defBody s_law_marks) (defScope s_law_marks) .none kV0 dc0 pm0 an0 cd0 ct0), sl0⟩) (c0 : PySem.W.codeIn K cd0 "_law_marks" = true) (k0 : PySem.W.keepIn K (.ref f0) = true)
    {f1 : Addr} {od1 an1 : Option Addr} {sl1 : Array (Option Value)} {oc1 kV1 dc1 pm1 cd1 ct1 : Value}
    (a1 : PySem.W.nsIn K mainGlobals "law" = some (some (.ref f1))) (l1 : K.lookup f1 = some ⟨oc1, od1, .func (PySem.W.fnOf "law" "law" (defArgs s_law) (defBody s_law) (defScope s_law) .none kV1 dc1 pm1 an1 cd1 ct1), sl1⟩) (c1 : PySem.W.codeIn K cd1 "law" = true) (k1 : PySem.W.keepIn K (.ref f1) = true)
    (z0 : PySem.W.nsIn K mainGlobals "ValueError" = some none)
    (z1 : PySem.W.nsIn K mainGlobals "enumerate" = some none)
    (z2 : PySem.W.nsIn K mainGlobals "isinstance" = some none)
    (z3 : PySem.W.nsIn K mainGlobals "len" = some none)
    (z4 : PySem.W.nsIn K mainGlobals "list" = some none)
    (z5 : PySem.W.nsIn K mainGlobals "max" = some none)
    (z6 : PySem.W.nsIn K mainGlobals "min" = some none)
    (z7 : PySem.W.nsIn K mainGlobals "range" = some none)
    : ∃ fd : FuncData, (∀ (s : Shared) (v : Value), BindsTo s fd ⟨[v], []⟩ [("_law_script", v)]) ∧ ∀ base : Heap, K.In base → base.Ns mainGlobals mg → FnOk l.prog w K mg base CX0 3 fa fd ["_law_script"] (spOut K d_law) := by
  have e := hfa.symm.trans (PySem.W.mg_of X G a1)
  cases e
  have FXNoGrowing := fun_mk (st := sx_NoGrowing) lXNoGrowing cXNoGrowing kXNoGrowing
  have bXNoGrowing := FXNoGrowing.binds (ps := ["self", "number"]) fun _ _ _ _ _ _ us hl => match us, hl with | [_, _], _ => rfl
  have FXNoText := fun_mk (st := sx_NoText) lXNoText cXNoText kXNoText
  have bXNoText := FXNoText.binds (ps := ["self", "line"]) fun _ _ _ _ _ _ us hl => match us, hl with | [_, _], _ => rfl
  have F0 := fun_mk (st := s_law_marks) l0 c0 k0
  have b0 := F0.binds (ps := ["_law_error"]) fun _ _ _ _ _ _ us hl => match us, hl with | [_], _ => rfl
  have F1 := fun_mk (st := s_law) l1 c1 k1
  have b1 := F1.binds (ps := ["_law_script"]) fun _ _ _ _ _ _ us hl => match us, hl with | [_], _ => rfl
  refine ⟨PySem.W.fnOf "law" "law" (defArgs s_law) (defBody s_law) (defScope s_law) .none kV1 dc1 pm1 an1 cd1 ct1, fun s v => .of_eq rfl, fun base _ _ => FnOk.out (ok_law (Txt.mk _ _ F0 (PySem.W.mg_of X G a0) b0 _ _ F1 (PySem.W.mg_of X G a1) b1 (PySem.W.mg_none_of X G z0) (PySem.W.mg_none_of X G z1) (PySem.W.mg_none_of X G z2) (PySem.W.mg_none_of X G z3) (PySem.W.mg_none_of X G z4) (PySem.W.mg_none_of X G z5) (PySem.W.mg_none_of X G z6) (PySem.W.mg_none_of X G z7) CNoGrowing (PySem.W.mg_of X G aCNoGrowing) CNoKind (PySem.W.mg_of X G aCNoKind) CNoLine (PySem.W.mg_of X G aCNoLine) CNoPlace (PySem.W.mg_of X G aCNoPlace) CNoText (PySem.W.mg_of X G aCNoText) CNotFramed (PySem.W.mg_of X G aCNotFramed) CNotHeld (PySem.W.mg_of X G aCNotHeld) CNotSure (PySem.W.mg_of X G aCNotSure) CNothingBack (PySem.W.mg_of X G aCNothingBack) CTaken (PySem.W.mg_of X G aCTaken) CTileError (PySem.W.mg_of X G aCTileError) CTooMany (PySem.W.mg_of X G aCTooMany) (⟨⟨_, _, _, _, _, _, _, _, _, _, _, _, _, _, _, xLNoGrowing, (show PySem.HandSPX.refsVE [.type "ValueError", .type "Exception", .type "BaseException", .type "object"] = true from by decide +kernel)⟩, saNoGrowing, xbNoGrowing, xtNoGrowing, xpNoGrowing⟩) (⟨x1NoGrowing, x2NoGrowing, xbNoGrowing, x3NoGrowing, x4NoGrowing, x5, x6, x7NoGrowing⟩) (⟨x1NoGrowing, x2NoGrowing, xbNoGrowing, x3NoGrowing⟩) _ _ FXNoGrowing bXNoGrowing aXNoGrowing iXNoGrowing nfNoGrowing (⟨xeNoKind, xpNoKind, xbNoKind, xtNoKind, ⟨x1NoKind, x2NoKind, xbNoKind, x3NoKind, x4NoKind, x5, x6, x7NoKind⟩⟩) (⟨xeNoLine, xpNoLine, xbNoLine, xtNoLine, ⟨x1NoLine, x2NoLine, xbNoLine, x3NoLine, x4NoLine, x5, x6, x7NoLine⟩⟩) (⟨xeNoPlace, xpNoPlace, xbNoPlace, xtNoPlace, ⟨x1NoPlace, x2NoPlace, xbNoPlace, x3NoPlace, x4NoPlace, x5, x6, x7NoPlace⟩⟩) (⟨⟨_, _, _, _, _, _, _, _, _, _, _, _, _, _, _, xLNoText, (show PySem.HandSPX.refsVE [.type "ValueError", .type "Exception", .type "BaseException", .type "object"] = true from by decide +kernel)⟩, saNoText, xbNoText, xtNoText, xpNoText⟩) (⟨x1NoText, x2NoText, xbNoText, x3NoText, x4NoText, x5, x6, x7NoText⟩) (⟨x1NoText, x2NoText, xbNoText, x3NoText⟩) _ _ FXNoText bXNoText aXNoText iXNoText nfNoText (⟨xeNotFramed, xpNotFramed, xbNotFramed, xtNotFramed, ⟨x1NotFramed, x2NotFramed, xbNotFramed, x3NotFramed, x4NotFramed, x5, x6, x7NotFramed⟩⟩) (⟨xeNotHeld, xpNotHeld, xbNotHeld, xtNotHeld, ⟨x1NotHeld, x2NotHeld, xbNotHeld, x3NotHeld, x4NotHeld, x5, x6, x7NotHeld⟩⟩) (⟨xeNotSure, xpNotSure, xbNotSure, xtNotSure, ⟨x1NotSure, x2NotSure, xbNotSure, x3NotSure, x4NotSure, x5, x6, x7NotSure⟩⟩) (⟨xeNothingBack, xpNothingBack, xbNothingBack, xtNothingBack, ⟨x1NothingBack, x2NothingBack, xbNothingBack, x3NothingBack, x4NothingBack, x5, x6, x7NothingBack⟩⟩) (⟨xeTaken, xpTaken, xbTaken, xtTaken, ⟨x1Taken, x2Taken, xbTaken, x3Taken, x4Taken, x5, x6, x7Taken⟩⟩) (⟨xeTileError, xpTileError, xbTileError, xtTileError, ⟨x1TileError, x2TileError, xbTileError, x3TileError, x4TileError, x5, x6, x7TileError⟩⟩) (⟨xeTooMany, xpTooMany, xbTooMany, xtTooMany, ⟨x1TooMany, x2TooMany, xbTooMany, x3TooMany, x4TooMany, x5, x6, x7TooMany⟩⟩) aCNoGrowing aCNoKind aCNoLine aCNoPlace aCNoText aCNotFramed aCNotHeld aCNotSure aCNothingBack aCTaken aCTileError aCTooMany ((kit_ref xqNoPlace xrNoPlace xsNoPlace sp_TileError_NoPlace)) ((kit_ref xqNoPlace xrNoPlace xsNoPlace sp_NoLine_NoPlace)) ((kit_ref xqNoPlace xrNoPlace xsNoPlace sp_NotFramed_NoPlace)) ((kit_ref xqNoPlace xrNoPlace xsNoPlace sp_TooMany_NoPlace)) ((kit_ref xqNoPlace xrNoPlace xsNoPlace sp_NotSure_NoPlace)) ((kit_ref xqNoPlace xrNoPlace xsNoPlace sp_NothingBack_NoPlace)) ((kit_ref xqNoPlace xrNoPlace xsNoPlace sp_NotHeld_NoPlace)) ((kit_ref xqNoPlace xrNoPlace xsNoPlace sp_NoKind_NoPlace)) ((kit_ref xqNoPlace xrNoPlace xsNoPlace sp_Taken_NoPlace)) ((kit_ref xqNoPlace xrNoPlace xsNoPlace sp_NoPlace_NoPlace)) ((kit_ref xqNoPlace xrNoPlace xsNoPlace sp_NoText_NoPlace)) ((kit_ref xqNoPlace xrNoPlace xsNoPlace sp_NoGrowing_NoPlace)) ((kit_ref xqNoText xrNoText xsNoText sp_TileError_NoText)) ((kit_ref xqNoText xrNoText xsNoText sp_NoLine_NoText)) ((kit_ref xqNoText xrNoText xsNoText sp_NotFramed_NoText)) ((kit_ref xqNoText xrNoText xsNoText sp_TooMany_NoText)) ((kit_ref xqNoText xrNoText xsNoText sp_NotSure_NoText)) ((kit_ref xqNoText xrNoText xsNoText sp_NothingBack_NoText)) ((kit_ref xqNoText xrNoText xsNoText sp_NotHeld_NoText)) ((kit_ref xqNoText xrNoText xsNoText sp_NoKind_NoText)) ((kit_ref xqNoText xrNoText xsNoText sp_Taken_NoText)) ((kit_ref xqNoText xrNoText xsNoText sp_NoPlace_NoText)) ((kit_ref xqNoText xrNoText xsNoText sp_NoText_NoText)) ((kit_ref xqNoText xrNoText xsNoText sp_NoGrowing_NoText)) ((kit_ref xqNoGrowing xrNoGrowing xsNoGrowing sp_TileError_NoGrowing)) ((kit_ref xqNoGrowing xrNoGrowing xsNoGrowing sp_NoLine_NoGrowing)) ((kit_ref xqNoGrowing xrNoGrowing xsNoGrowing sp_NotFramed_NoGrowing)) ((kit_ref xqNoGrowing xrNoGrowing xsNoGrowing sp_TooMany_NoGrowing)) ((kit_ref xqNoGrowing xrNoGrowing xsNoGrowing sp_NotSure_NoGrowing)) ((kit_ref xqNoGrowing xrNoGrowing xsNoGrowing sp_NothingBack_NoGrowing)) ((kit_ref xqNoGrowing xrNoGrowing xsNoGrowing sp_NotHeld_NoGrowing)) ((kit_ref xqNoGrowing xrNoGrowing xsNoGrowing sp_NoKind_NoGrowing)) ((kit_ref xqNoGrowing xrNoGrowing xsNoGrowing sp_Taken_NoGrowing)) ((kit_ref xqNoGrowing xrNoGrowing xsNoGrowing sp_NoPlace_NoGrowing)) ((kit_ref xqNoGrowing xrNoGrowing xsNoGrowing sp_NoText_NoGrowing)) ((kit_ref xqNoGrowing xrNoGrowing xsNoGrowing sp_NoGrowing_NoGrowing)) ((kit_ref xqNotHeld xrNotHeld xsNotHeld sp_TileError_NotHeld)) ((kit_ref xqNotHeld xrNotHeld xsNotHeld sp_NoLine_NotHeld)) ((kit_ref xqNotHeld xrNotHeld xsNotHeld sp_NotFramed_NotHeld)) ((kit_ref xqNotHeld xrNotHeld xsNotHeld sp_TooMany_NotHeld)) ((kit_ref xqNotHeld xrNotHeld xsNotHeld sp_NotSure_NotHeld)) ((kit_ref xqNotHeld xrNotHeld xsNotHeld sp_NothingBack_NotHeld)) ((kit_ref xqNotHeld xrNotHeld xsNotHeld sp_NotHeld_NotHeld)) ((kit_ref xqNotHeld xrNotHeld xsNotHeld sp_NoKind_NotHeld)) ((kit_ref xqNotHeld xrNotHeld xsNotHeld sp_Taken_NotHeld)) ((kit_ref xqNotHeld xrNotHeld xsNotHeld sp_NoPlace_NotHeld)) ((kit_ref xqNotHeld xrNotHeld xsNotHeld sp_NoText_NotHeld)) ((kit_ref xqNotHeld xrNotHeld xsNotHeld sp_NoGrowing_NotHeld)) ((kit_ref xqNoKind xrNoKind xsNoKind sp_TileError_NoKind)) ((kit_ref xqNoKind xrNoKind xsNoKind sp_NoLine_NoKind)) ((kit_ref xqNoKind xrNoKind xsNoKind sp_NotFramed_NoKind)) ((kit_ref xqNoKind xrNoKind xsNoKind sp_TooMany_NoKind)) ((kit_ref xqNoKind xrNoKind xsNoKind sp_NotSure_NoKind)) ((kit_ref xqNoKind xrNoKind xsNoKind sp_NothingBack_NoKind)) ((kit_ref xqNoKind xrNoKind xsNoKind sp_NotHeld_NoKind)) ((kit_ref xqNoKind xrNoKind xsNoKind sp_NoKind_NoKind)) ((kit_ref xqNoKind xrNoKind xsNoKind sp_Taken_NoKind)) ((kit_ref xqNoKind xrNoKind xsNoKind sp_NoPlace_NoKind)) ((kit_ref xqNoKind xrNoKind xsNoKind sp_NoText_NoKind)) ((kit_ref xqNoKind xrNoKind xsNoKind sp_NoGrowing_NoKind)) ((kit_ref xqTaken xrTaken xsTaken sp_TileError_Taken)) ((kit_ref xqTaken xrTaken xsTaken sp_NoLine_Taken)) ((kit_ref xqTaken xrTaken xsTaken sp_NotFramed_Taken)) ((kit_ref xqTaken xrTaken xsTaken sp_TooMany_Taken)) ((kit_ref xqTaken xrTaken xsTaken sp_NotSure_Taken)) ((kit_ref xqTaken xrTaken xsTaken sp_NothingBack_Taken)) ((kit_ref xqTaken xrTaken xsTaken sp_NotHeld_Taken)) ((kit_ref xqTaken xrTaken xsTaken sp_NoKind_Taken)) ((kit_ref xqTaken xrTaken xsTaken sp_Taken_Taken)) ((kit_ref xqTaken xrTaken xsTaken sp_NoPlace_Taken)) ((kit_ref xqTaken xrTaken xsTaken sp_NoText_Taken)) ((kit_ref xqTaken xrTaken xsTaken sp_NoGrowing_Taken)) ((kit_ref xqTooMany xrTooMany xsTooMany sp_TileError_TooMany)) ((kit_ref xqTooMany xrTooMany xsTooMany sp_NoLine_TooMany)) ((kit_ref xqTooMany xrTooMany xsTooMany sp_NotFramed_TooMany)) ((kit_ref xqTooMany xrTooMany xsTooMany sp_TooMany_TooMany)) ((kit_ref xqTooMany xrTooMany xsTooMany sp_NotSure_TooMany)) ((kit_ref xqTooMany xrTooMany xsTooMany sp_NothingBack_TooMany)) ((kit_ref xqTooMany xrTooMany xsTooMany sp_NotHeld_TooMany)) ((kit_ref xqTooMany xrTooMany xsTooMany sp_NoKind_TooMany)) ((kit_ref xqTooMany xrTooMany xsTooMany sp_Taken_TooMany)) ((kit_ref xqTooMany xrTooMany xsTooMany sp_NoPlace_TooMany)) ((kit_ref xqTooMany xrTooMany xsTooMany sp_NoText_TooMany)) ((kit_ref xqTooMany xrTooMany xsTooMany sp_NoGrowing_TooMany)) ((kit_ref xqNotSure xrNotSure xsNotSure sp_TileError_NotSure)) ((kit_ref xqNotSure xrNotSure xsNotSure sp_NoLine_NotSure)) ((kit_ref xqNotSure xrNotSure xsNotSure sp_NotFramed_NotSure)) ((kit_ref xqNotSure xrNotSure xsNotSure sp_TooMany_NotSure)) ((kit_ref xqNotSure xrNotSure xsNotSure sp_NotSure_NotSure)) ((kit_ref xqNotSure xrNotSure xsNotSure sp_NothingBack_NotSure)) ((kit_ref xqNotSure xrNotSure xsNotSure sp_NotHeld_NotSure)) ((kit_ref xqNotSure xrNotSure xsNotSure sp_NoKind_NotSure)) ((kit_ref xqNotSure xrNotSure xsNotSure sp_Taken_NotSure)) ((kit_ref xqNotSure xrNotSure xsNotSure sp_NoPlace_NotSure)) ((kit_ref xqNotSure xrNotSure xsNotSure sp_NoText_NotSure)) ((kit_ref xqNotSure xrNotSure xsNotSure sp_NoGrowing_NotSure)) ((kit_ref xqNothingBack xrNothingBack xsNothingBack sp_TileError_NothingBack)) ((kit_ref xqNothingBack xrNothingBack xsNothingBack sp_NoLine_NothingBack)) ((kit_ref xqNothingBack xrNothingBack xsNothingBack sp_NotFramed_NothingBack)) ((kit_ref xqNothingBack xrNothingBack xsNothingBack sp_TooMany_NothingBack)) ((kit_ref xqNothingBack xrNothingBack xsNothingBack sp_NotSure_NothingBack)) ((kit_ref xqNothingBack xrNothingBack xsNothingBack sp_NothingBack_NothingBack)) ((kit_ref xqNothingBack xrNothingBack xsNothingBack sp_NotHeld_NothingBack)) ((kit_ref xqNothingBack xrNothingBack xsNothingBack sp_NoKind_NothingBack)) ((kit_ref xqNothingBack xrNothingBack xsNothingBack sp_Taken_NothingBack)) ((kit_ref xqNothingBack xrNothingBack xsNothingBack sp_NoPlace_NothingBack)) ((kit_ref xqNothingBack xrNothingBack xsNothingBack sp_NoText_NothingBack)) ((kit_ref xqNothingBack xrNothingBack xsNothingBack sp_NoGrowing_NothingBack)) ((kit_ref xqNoLine xrNoLine xsNoLine sp_TileError_NoLine)) ((kit_ref xqNoLine xrNoLine xsNoLine sp_NoLine_NoLine)) ((kit_ref xqNoLine xrNoLine xsNoLine sp_NotFramed_NoLine)) ((kit_ref xqNoLine xrNoLine xsNoLine sp_TooMany_NoLine)) ((kit_ref xqNoLine xrNoLine xsNoLine sp_NotSure_NoLine)) ((kit_ref xqNoLine xrNoLine xsNoLine sp_NothingBack_NoLine)) ((kit_ref xqNoLine xrNoLine xsNoLine sp_NotHeld_NoLine)) ((kit_ref xqNoLine xrNoLine xsNoLine sp_NoKind_NoLine)) ((kit_ref xqNoLine xrNoLine xsNoLine sp_Taken_NoLine)) ((kit_ref xqNoLine xrNoLine xsNoLine sp_NoPlace_NoLine)) ((kit_ref xqNoLine xrNoLine xsNoLine sp_NoText_NoLine)) ((kit_ref xqNoLine xrNoLine xsNoLine sp_NoGrowing_NoLine)) ((kit_ref xqNotFramed xrNotFramed xsNotFramed sp_TileError_NotFramed)) ((kit_ref xqNotFramed xrNotFramed xsNotFramed sp_NoLine_NotFramed)) ((kit_ref xqNotFramed xrNotFramed xsNotFramed sp_NotFramed_NotFramed)) ((kit_ref xqNotFramed xrNotFramed xsNotFramed sp_TooMany_NotFramed)) ((kit_ref xqNotFramed xrNotFramed xsNotFramed sp_NotSure_NotFramed)) ((kit_ref xqNotFramed xrNotFramed xsNotFramed sp_NothingBack_NotFramed)) ((kit_ref xqNotFramed xrNotFramed xsNotFramed sp_NotHeld_NotFramed)) ((kit_ref xqNotFramed xrNotFramed xsNotFramed sp_NoKind_NotFramed)) ((kit_ref xqNotFramed xrNotFramed xsNotFramed sp_Taken_NotFramed)) ((kit_ref xqNotFramed xrNotFramed xsNotFramed sp_NoPlace_NotFramed)) ((kit_ref xqNotFramed xrNotFramed xsNotFramed sp_NoText_NotFramed)) ((kit_ref xqNotFramed xrNotFramed xsNotFramed sp_NoGrowing_NotFramed)) ((kit_ref xqTileError xrTileError xsTileError sp_NoLine_TileError)) ((kit_ref xqTileError xrTileError xsTileError sp_NotFramed_TileError)) ((kit_ref xqTileError xrTileError xsTileError sp_TooMany_TileError)) ((kit_ref xqTileError xrTileError xsTileError sp_NotSure_TileError)) ((kit_ref xqTileError xrTileError xsTileError sp_NothingBack_TileError)) ((kit_ref xqTileError xrTileError xsTileError sp_NotHeld_TileError)) ((kit_ref xqTileError xrTileError xsTileError sp_NoKind_TileError)) ((kit_ref xqTileError xrTileError xsTileError sp_Taken_TileError)) ((kit_ref xqTileError xrTileError xsTileError sp_NoPlace_TileError)) ((kit_ref xqTileError xrTileError xsTileError sp_NoText_TileError)) ((kit_ref xqTileError xrTileError xsTileError sp_NoGrowing_TileError)) ((kit_bt (by decide +kernel) sp_NoLine_ValueError)) ((kit_bt (by decide +kernel) sp_NotFramed_ValueError)) ((kit_bt (by decide +kernel) sp_TooMany_ValueError)) ((kit_bt (by decide +kernel) sp_NotSure_ValueError)) ((kit_bt (by decide +kernel) sp_NothingBack_ValueError)) ((kit_bt (by decide +kernel) sp_NotHeld_ValueError)) ((kit_bt (by decide +kernel) sp_NoKind_ValueError)) ((kit_bt (by decide +kernel) sp_Taken_ValueError)) ((kit_bt (by decide +kernel) sp_NoPlace_ValueError)) ((kit_bt (by decide +kernel) sp_NoText_ValueError)) ((kit_bt (by decide +kernel) sp_NoGrowing_ValueError))))⟩
end L3
open PySem PySem.W PyProof.Rows
set_option maxHeartbeats 0 in
theorem PySem.Challenge.cw_stickytiles_k08_errors_apart_holds : PySem.Challenge.rw_stickytiles_k08_errors_apart.Holds := by
  w_on; o_law; k_head; (case hw => w_witness2)
  k_fill
  refine L2.walk_of (l := PySem.Challenge.rw_stickytiles_k08_errors_apart) (n := 63) (k := 3) (x := "_law_script") (CX := fun _ => L2.CX0) (sp := fun w => L3.spOut _ L3.d_law) rfl (by decide) rfl ⟨rfl, by decide, by decide⟩ (fun w h Y => PySem.W.kIn_of Y) ?F (fun _ _ a ns hl _ hS => L3.says_out L3.says hl hS) (fun _ _ _ _ _ h => h)
  case F =>
    intro w mg fa h KX G hmg
    refine' L3.all_mk KX G hmg ?aCNoGrowing ?aCNoKind ?aCNoLine ?aCNoPlace ?aCNoText ?aCNotFramed ?aCNotHeld ?aCNotSure ?aCNothingBack ?aCTaken ?aCTileError ?aCTooMany ?x5 ?x6 ?xLNoGrowing ?saNoGrowing ?nfNoGrowing ?aXNoGrowing ?iXNoGrowing ?lXNoGrowing ?cXNoGrowing ?kXNoGrowing ?xLNoText ?saNoText ?nfNoText ?aXNoText ?iXNoText ?lXNoText ?cXNoText ?kXNoText ?xpNoGrowing ?xbNoGrowing ?xtNoGrowing ?x1NoGrowing ?x2NoGrowing ?x3NoGrowing ?x4NoGrowing ?x7NoGrowing ?xeNoKind ?xpNoKind ?xbNoKind ?xtNoKind ?x1NoKind ?x2NoKind ?x3NoKind ?x4NoKind ?x7NoKind ?xeNoLine ?xpNoLine ?xbNoLine ?xtNoLine ?x1NoLine ?x2NoLine ?x3NoLine ?x4NoLine ?x7NoLine ?xeNoPlace ?xpNoPlace ?xbNoPlace ?xtNoPlace ?x1NoPlace ?x2NoPlace ?x3NoPlace ?x4NoPlace ?x7NoPlace ?xpNoText ?xbNoText ?xtNoText ?x1NoText ?x2NoText ?x3NoText ?x4NoText ?x7NoText ?xeNotFramed ?xpNotFramed ?xbNotFramed ?xtNotFramed ?x1NotFramed ?x2NotFramed ?x3NotFramed ?x4NotFramed ?x7NotFramed ?xeNotHeld ?xpNotHeld ?xbNotHeld ?xtNotHeld ?x1NotHeld ?x2NotHeld ?x3NotHeld ?x4NotHeld ?x7NotHeld ?xeNotSure ?xpNotSure ?xbNotSure ?xtNotSure ?x1NotSure ?x2NotSure ?x3NotSure ?x4NotSure ?x7NotSure ?xeNothingBack ?xpNothingBack ?xbNothingBack ?xtNothingBack ?x1NothingBack ?x2NothingBack ?x3NothingBack ?x4NothingBack ?x7NothingBack ?xeTaken ?xpTaken ?xbTaken ?xtTaken ?x1Taken ?x2Taken ?x3Taken ?x4Taken ?x7Taken ?xeTileError ?xpTileError ?xbTileError ?xtTileError ?x1TileError ?x2TileError ?x3TileError ?x4TileError ?x7TileError ?xeTooMany ?xpTooMany ?xbTooMany ?xtTooMany ?x1TooMany ?x2TooMany ?x3TooMany ?x4TooMany ?x7TooMany ?xqNoGrowing ?xrNoGrowing ?xsNoGrowing ?xqNoKind ?xrNoKind ?xsNoKind ?xqNoLine ?xrNoLine ?xsNoLine ?xqNoPlace ?xrNoPlace ?xsNoPlace ?xqNoText ?xrNoText ?xsNoText ?xqNotFramed ?xrNotFramed ?xsNotFramed ?xqNotHeld ?xrNotHeld ?xsNotHeld ?xqNotSure ?xrNotSure ?xsNotSure ?xqNothingBack ?xrNothingBack ?xsNothingBack ?xqTaken ?xrTaken ?xsTaken ?xqTileError ?xrTileError ?xsTileError ?xqTooMany ?xrTooMany ?xsTooMany ?sp_NoGrowing_NoGrowing ?sp_NoGrowing_NoKind ?sp_NoGrowing_NoLine ?sp_NoGrowing_NoPlace ?sp_NoGrowing_NoText ?sp_NoGrowing_NotFramed ?sp_NoGrowing_NotHeld ?sp_NoGrowing_NotSure ?sp_NoGrowing_NothingBack ?sp_NoGrowing_Taken ?sp_NoGrowing_TileError ?sp_NoGrowing_TooMany ?sp_NoGrowing_ValueError ?sp_NoKind_NoGrowing ?sp_NoKind_NoKind ?sp_NoKind_NoLine ?sp_NoKind_NoPlace ?sp_NoKind_NoText ?sp_NoKind_NotFramed ?sp_NoKind_NotHeld ?sp_NoKind_NotSure ?sp_NoKind_NothingBack ?sp_NoKind_Taken ?sp_NoKind_TileError ?sp_NoKind_TooMany ?sp_NoKind_ValueError ?sp_NoLine_NoGrowing ?sp_NoLine_NoKind ?sp_NoLine_NoLine ?sp_NoLine_NoPlace ?sp_NoLine_NoText ?sp_NoLine_NotFramed ?sp_NoLine_NotHeld ?sp_NoLine_NotSure ?sp_NoLine_NothingBack ?sp_NoLine_Taken ?sp_NoLine_TileError ?sp_NoLine_TooMany ?sp_NoLine_ValueError ?sp_NoPlace_NoGrowing ?sp_NoPlace_NoKind ?sp_NoPlace_NoLine ?sp_NoPlace_NoPlace ?sp_NoPlace_NoText ?sp_NoPlace_NotFramed ?sp_NoPlace_NotHeld ?sp_NoPlace_NotSure ?sp_NoPlace_NothingBack ?sp_NoPlace_Taken ?sp_NoPlace_TileError ?sp_NoPlace_TooMany ?sp_NoPlace_ValueError ?sp_NoText_NoGrowing ?sp_NoText_NoKind ?sp_NoText_NoLine ?sp_NoText_NoPlace ?sp_NoText_NoText ?sp_NoText_NotFramed ?sp_NoText_NotHeld ?sp_NoText_NotSure ?sp_NoText_NothingBack ?sp_NoText_Taken ?sp_NoText_TileError ?sp_NoText_TooMany ?sp_NoText_ValueError ?sp_NotFramed_NoGrowing ?sp_NotFramed_NoKind ?sp_NotFramed_NoLine ?sp_NotFramed_NoPlace ?sp_NotFramed_NoText ?sp_NotFramed_NotFramed ?sp_NotFramed_NotHeld ?sp_NotFramed_NotSure ?sp_NotFramed_NothingBack ?sp_NotFramed_Taken ?sp_NotFramed_TileError ?sp_NotFramed_TooMany ?sp_NotFramed_ValueError ?sp_NotHeld_NoGrowing ?sp_NotHeld_NoKind ?sp_NotHeld_NoLine ?sp_NotHeld_NoPlace ?sp_NotHeld_NoText ?sp_NotHeld_NotFramed ?sp_NotHeld_NotHeld ?sp_NotHeld_NotSure ?sp_NotHeld_NothingBack ?sp_NotHeld_Taken ?sp_NotHeld_TileError ?sp_NotHeld_TooMany ?sp_NotHeld_ValueError ?sp_NotSure_NoGrowing ?sp_NotSure_NoKind ?sp_NotSure_NoLine ?sp_NotSure_NoPlace ?sp_NotSure_NoText ?sp_NotSure_NotFramed ?sp_NotSure_NotHeld ?sp_NotSure_NotSure ?sp_NotSure_NothingBack ?sp_NotSure_Taken ?sp_NotSure_TileError ?sp_NotSure_TooMany ?sp_NotSure_ValueError ?sp_NothingBack_NoGrowing ?sp_NothingBack_NoKind ?sp_NothingBack_NoLine ?sp_NothingBack_NoPlace ?sp_NothingBack_NoText ?sp_NothingBack_NotFramed ?sp_NothingBack_NotHeld ?sp_NothingBack_NotSure ?sp_NothingBack_NothingBack ?sp_NothingBack_Taken ?sp_NothingBack_TileError ?sp_NothingBack_TooMany ?sp_NothingBack_ValueError ?sp_Taken_NoGrowing ?sp_Taken_NoKind ?sp_Taken_NoLine ?sp_Taken_NoPlace ?sp_Taken_NoText ?sp_Taken_NotFramed ?sp_Taken_NotHeld ?sp_Taken_NotSure ?sp_Taken_NothingBack ?sp_Taken_Taken ?sp_Taken_TileError ?sp_Taken_TooMany ?sp_Taken_ValueError ?sp_TileError_NoGrowing ?sp_TileError_NoKind ?sp_TileError_NoLine ?sp_TileError_NoPlace ?sp_TileError_NoText ?sp_TileError_NotFramed ?sp_TileError_NotHeld ?sp_TileError_NotSure ?sp_TileError_NothingBack ?sp_TileError_Taken ?sp_TileError_TooMany ?sp_TooMany_NoGrowing ?sp_TooMany_NoKind ?sp_TooMany_NoLine ?sp_TooMany_NoPlace ?sp_TooMany_NoText ?sp_TooMany_NotFramed ?sp_TooMany_NotHeld ?sp_TooMany_NotSure ?sp_TooMany_NothingBack ?sp_TooMany_Taken ?sp_TooMany_TileError ?sp_TooMany_TooMany ?sp_TooMany_ValueError ?a0 ?l0 ?c0 ?k0 ?a1 ?l1 ?c1 ?k1 ?z0 ?z1 ?z2 ?z3 ?z4 ?z5 ?z6 ?z7
    (case aCNoGrowing => k_is); (case aCNoKind => k_is); (case aCNoLine => k_is); (case aCNoPlace => k_is); (case aCNoText => k_is); (case aCNotFramed => k_is); (case aCNotHeld => k_is); (case aCNotSure => k_is); (case aCNothingBack => k_is); (case aCTaken => k_is); (case aCTileError => k_is); (case aCTooMany => k_is); (case x5 => k_is); (case x6 => k_is); (case xLNoGrowing => k_is); (case saNoGrowing => k_is); (case nfNoGrowing => k_is); (case aXNoGrowing => k_is); (case iXNoGrowing => k_is); (case lXNoGrowing => k_is); (case cXNoGrowing => k_is); (case kXNoGrowing => k_is); (case xLNoText => k_is); (case saNoText => k_is); (case nfNoText => k_is); (case aXNoText => k_is); (case iXNoText => k_is); (case lXNoText => k_is); (case cXNoText => k_is); (case kXNoText => k_is); (case xpNoGrowing => k_is); (case xbNoGrowing => k_is); (case xtNoGrowing => k_is); (case x1NoGrowing => k_is); (case x2NoGrowing => k_is); (case x3NoGrowing => k_is); (case x4NoGrowing => k_is); (case x7NoGrowing => k_is); (case xeNoKind => k_exc); (case xpNoKind => k_is); (case xbNoKind => k_is); (case xtNoKind => k_is); (case x1NoKind => k_is); (case x2NoKind => k_is); (case x3NoKind => k_is); (case x4NoKind => k_is); (case x7NoKind => k_is); (case xeNoLine => k_exc); (case xpNoLine => k_is); (case xbNoLine => k_is); (case xtNoLine => k_is); (case x1NoLine => k_is); (case x2NoLine => k_is); (case x3NoLine => k_is); (case x4NoLine => k_is); (case x7NoLine => k_is); (case xeNoPlace => k_exc); (case xpNoPlace => k_is); (case xbNoPlace => k_is); (case xtNoPlace => k_is); (case x1NoPlace => k_is); (case x2NoPlace => k_is); (case x3NoPlace => k_is); (case x4NoPlace => k_is); (case x7NoPlace => k_is); (case xpNoText => k_is); (case xbNoText => k_is); (case xtNoText => k_is); (case x1NoText => k_is); (case x2NoText => k_is); (case x3NoText => k_is); (case x4NoText => k_is); (case x7NoText => k_is); (case xeNotFramed => k_exc); (case xpNotFramed => k_is); (case xbNotFramed => k_is); (case xtNotFramed => k_is); (case x1NotFramed => k_is); (case x2NotFramed => k_is); (case x3NotFramed => k_is); (case x4NotFramed => k_is); (case x7NotFramed => k_is); (case xeNotHeld => k_exc); (case xpNotHeld => k_is); (case xbNotHeld => k_is); (case xtNotHeld => k_is); (case x1NotHeld => k_is); (case x2NotHeld => k_is); (case x3NotHeld => k_is); (case x4NotHeld => k_is); (case x7NotHeld => k_is); (case xeNotSure => k_exc); (case xpNotSure => k_is); (case xbNotSure => k_is); (case xtNotSure => k_is); (case x1NotSure => k_is); (case x2NotSure => k_is); (case x3NotSure => k_is); (case x4NotSure => k_is); (case x7NotSure => k_is); (case xeNothingBack => k_exc); (case xpNothingBack => k_is); (case xbNothingBack => k_is); (case xtNothingBack => k_is); (case x1NothingBack => k_is); (case x2NothingBack => k_is); (case x3NothingBack => k_is); (case x4NothingBack => k_is); (case x7NothingBack => k_is); (case xeTaken => k_exc); (case xpTaken => k_is); (case xbTaken => k_is); (case xtTaken => k_is); (case x1Taken => k_is); (case x2Taken => k_is); (case x3Taken => k_is); (case x4Taken => k_is); (case x7Taken => k_is); (case xeTileError => k_exc); (case xpTileError => k_is); (case xbTileError => k_is); (case xtTileError => k_is); (case x1TileError => k_is); (case x2TileError => k_is); (case x3TileError => k_is); (case x4TileError => k_is); (case x7TileError => k_is); (case xeTooMany => k_exc); (case xpTooMany => k_is); (case xbTooMany => k_is); (case xtTooMany => k_is); (case x1TooMany => k_is); (case x2TooMany => k_is); (case x3TooMany => k_is); (case x4TooMany => k_is); (case x7TooMany => k_is); (case xqNoGrowing => k_is); (case xrNoGrowing => k_is); (case xsNoGrowing => k_is); (case xqNoKind => k_is); (case xrNoKind => k_is); (case xsNoKind => k_is); (case xqNoLine => k_is); (case xrNoLine => k_is); (case xsNoLine => k_is); (case xqNoPlace => k_is); (case xrNoPlace => k_is); (case xsNoPlace => k_is); (case xqNoText => k_is); (case xrNoText => k_is); (case xsNoText => k_is); (case xqNotFramed => k_is); (case xrNotFramed => k_is); (case xsNotFramed => k_is); (case xqNotHeld => k_is); (case xrNotHeld => k_is); (case xsNotHeld => k_is); (case xqNotSure => k_is); (case xrNotSure => k_is); (case xsNotSure => k_is); (case xqNothingBack => k_is); (case xrNothingBack => k_is); (case xsNothingBack => k_is); (case xqTaken => k_is); (case xrTaken => k_is); (case xsTaken => k_is); (case xqTileError => k_is); (case xrTileError => k_is); (case xsTileError => k_is); (case xqTooMany => k_is); (case xrTooMany => k_is); (case xsTooMany => k_is); (case sp_NoGrowing_NoGrowing => k_is); (case sp_NoGrowing_NoKind => k_is); (case sp_NoGrowing_NoLine => k_is); (case sp_NoGrowing_NoPlace => k_is); (case sp_NoGrowing_NoText => k_is); (case sp_NoGrowing_NotFramed => k_is); (case sp_NoGrowing_NotHeld => k_is); (case sp_NoGrowing_NotSure => k_is); (case sp_NoGrowing_NothingBack => k_is); (case sp_NoGrowing_Taken => k_is); (case sp_NoGrowing_TileError => k_is); (case sp_NoGrowing_TooMany => k_is); (case sp_NoGrowing_ValueError => k_is); (case sp_NoKind_NoGrowing => k_is); (case sp_NoKind_NoKind => k_is); (case sp_NoKind_NoLine => k_is); (case sp_NoKind_NoPlace => k_is); (case sp_NoKind_NoText => k_is); (case sp_NoKind_NotFramed => k_is); (case sp_NoKind_NotHeld => k_is); (case sp_NoKind_NotSure => k_is); (case sp_NoKind_NothingBack => k_is); (case sp_NoKind_Taken => k_is); (case sp_NoKind_TileError => k_is); (case sp_NoKind_TooMany => k_is); (case sp_NoKind_ValueError => k_is); (case sp_NoLine_NoGrowing => k_is); (case sp_NoLine_NoKind => k_is); (case sp_NoLine_NoLine => k_is); (case sp_NoLine_NoPlace => k_is); (case sp_NoLine_NoText => k_is); (case sp_NoLine_NotFramed => k_is); (case sp_NoLine_NotHeld => k_is); (case sp_NoLine_NotSure => k_is); (case sp_NoLine_NothingBack => k_is); (case sp_NoLine_Taken => k_is); (case sp_NoLine_TileError => k_is); (case sp_NoLine_TooMany => k_is); (case sp_NoLine_ValueError => k_is); (case sp_NoPlace_NoGrowing => k_is); (case sp_NoPlace_NoKind => k_is); (case sp_NoPlace_NoLine => k_is); (case sp_NoPlace_NoPlace => k_is); (case sp_NoPlace_NoText => k_is); (case sp_NoPlace_NotFramed => k_is); (case sp_NoPlace_NotHeld => k_is); (case sp_NoPlace_NotSure => k_is); (case sp_NoPlace_NothingBack => k_is); (case sp_NoPlace_Taken => k_is); (case sp_NoPlace_TileError => k_is); (case sp_NoPlace_TooMany => k_is); (case sp_NoPlace_ValueError => k_is); (case sp_NoText_NoGrowing => k_is); (case sp_NoText_NoKind => k_is); (case sp_NoText_NoLine => k_is); (case sp_NoText_NoPlace => k_is); (case sp_NoText_NoText => k_is); (case sp_NoText_NotFramed => k_is); (case sp_NoText_NotHeld => k_is); (case sp_NoText_NotSure => k_is); (case sp_NoText_NothingBack => k_is); (case sp_NoText_Taken => k_is); (case sp_NoText_TileError => k_is); (case sp_NoText_TooMany => k_is); (case sp_NoText_ValueError => k_is); (case sp_NotFramed_NoGrowing => k_is); (case sp_NotFramed_NoKind => k_is); (case sp_NotFramed_NoLine => k_is); (case sp_NotFramed_NoPlace => k_is); (case sp_NotFramed_NoText => k_is); (case sp_NotFramed_NotFramed => k_is); (case sp_NotFramed_NotHeld => k_is); (case sp_NotFramed_NotSure => k_is); (case sp_NotFramed_NothingBack => k_is); (case sp_NotFramed_Taken => k_is); (case sp_NotFramed_TileError => k_is); (case sp_NotFramed_TooMany => k_is); (case sp_NotFramed_ValueError => k_is); (case sp_NotHeld_NoGrowing => k_is); (case sp_NotHeld_NoKind => k_is); (case sp_NotHeld_NoLine => k_is); (case sp_NotHeld_NoPlace => k_is); (case sp_NotHeld_NoText => k_is); (case sp_NotHeld_NotFramed => k_is); (case sp_NotHeld_NotHeld => k_is); (case sp_NotHeld_NotSure => k_is); (case sp_NotHeld_NothingBack => k_is); (case sp_NotHeld_Taken => k_is); (case sp_NotHeld_TileError => k_is); (case sp_NotHeld_TooMany => k_is); (case sp_NotHeld_ValueError => k_is); (case sp_NotSure_NoGrowing => k_is); (case sp_NotSure_NoKind => k_is); (case sp_NotSure_NoLine => k_is); (case sp_NotSure_NoPlace => k_is); (case sp_NotSure_NoText => k_is); (case sp_NotSure_NotFramed => k_is); (case sp_NotSure_NotHeld => k_is); (case sp_NotSure_NotSure => k_is); (case sp_NotSure_NothingBack => k_is); (case sp_NotSure_Taken => k_is); (case sp_NotSure_TileError => k_is); (case sp_NotSure_TooMany => k_is); (case sp_NotSure_ValueError => k_is); (case sp_NothingBack_NoGrowing => k_is); (case sp_NothingBack_NoKind => k_is); (case sp_NothingBack_NoLine => k_is); (case sp_NothingBack_NoPlace => k_is); (case sp_NothingBack_NoText => k_is); (case sp_NothingBack_NotFramed => k_is); (case sp_NothingBack_NotHeld => k_is); (case sp_NothingBack_NotSure => k_is); (case sp_NothingBack_NothingBack => k_is); (case sp_NothingBack_Taken => k_is); (case sp_NothingBack_TileError => k_is); (case sp_NothingBack_TooMany => k_is); (case sp_NothingBack_ValueError => k_is); (case sp_Taken_NoGrowing => k_is); (case sp_Taken_NoKind => k_is); (case sp_Taken_NoLine => k_is); (case sp_Taken_NoPlace => k_is); (case sp_Taken_NoText => k_is); (case sp_Taken_NotFramed => k_is); (case sp_Taken_NotHeld => k_is); (case sp_Taken_NotSure => k_is); (case sp_Taken_NothingBack => k_is); (case sp_Taken_Taken => k_is); (case sp_Taken_TileError => k_is); (case sp_Taken_TooMany => k_is); (case sp_Taken_ValueError => k_is); (case sp_TileError_NoGrowing => k_is); (case sp_TileError_NoKind => k_is); (case sp_TileError_NoLine => k_is); (case sp_TileError_NoPlace => k_is); (case sp_TileError_NoText => k_is); (case sp_TileError_NotFramed => k_is); (case sp_TileError_NotHeld => k_is); (case sp_TileError_NotSure => k_is); (case sp_TileError_NothingBack => k_is); (case sp_TileError_Taken => k_is); (case sp_TileError_TooMany => k_is); (case sp_TooMany_NoGrowing => k_is); (case sp_TooMany_NoKind => k_is); (case sp_TooMany_NoLine => k_is); (case sp_TooMany_NoPlace => k_is); (case sp_TooMany_NoText => k_is); (case sp_TooMany_NotFramed => k_is); (case sp_TooMany_NotHeld => k_is); (case sp_TooMany_NotSure => k_is); (case sp_TooMany_NothingBack => k_is); (case sp_TooMany_Taken => k_is); (case sp_TooMany_TileError => k_is); (case sp_TooMany_TooMany => k_is); (case sp_TooMany_ValueError => k_is); (case a0 => k_is); (case l0 => k_is); (case c0 => k_is); (case k0 => k_is); (case a1 => k_is); (case l1 => k_is); (case c1 => k_is); (case k1 => k_is); (case z0 => k_is); (case z1 => k_is); (case z2 => k_is); (case z3 => k_is); (case z4 => k_is); (case z5 => k_is); (case z6 => k_is); (case z7 => k_is)
