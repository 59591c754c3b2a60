import PyProof.Rows.All
import HandS.ForMost
import HandS.Exc
import HandS.Deep
import HandS.Wide
import HandS.TupAny
import HandS.Flow
import HandS.IsInst
import HandS.Zip
import HandS.ForExc
import HandS.StrMore
import PyProof.ListStr
import PyProof.StrOps2
import PyProof.SliceStr2
import KE.SortData
import HandS.Style
import HandS.Text
import HandS.RaiseMore
import HandS.Iter
import KE.KDictKeyed
import KE.KDictWalk
import HandS.Conv
import HandS.More
import KE.KIndexOf
import PyProof.ReprRoads
import KE.KDictPairs
import KE.GoesMore
import KE.GoesEnum
import PyProof.Draws
import HandS.DictTup
import HandS.TupLe
import KE.DataMinMax
import PyProof.DictMoreH
import KE.KEqDict
import KE.KDictSum
import HandS.WordsExc
import HandS.ExcIs
import HandS.SetFor
import KE.KUnpack
import PyProof.TupleOfSeq
import PyProof.Transfer
import HandS.TupMul
import PyProof.Rows.TupDisplay
import HandS.ExcInit
import HandS.ExcField
import HandS.TupSets
import PyProof.EqAt
import PyProof.NeKinds
import KE.SortKeyHeap
import HandS.Sort
import HandS.ExcValue
import KE.KDictCopyH
import KE.KDictOf
import HandS.TupLen
import HandS.Strs
import HandS.TryMany
import PyProof.DictFindH
import HandS.Codes
import PyProof.P3Eq
import PySem.Challenge.RW_stickytiles_k64_what_is_framed
set_option Elab.async false
set_option linter.all false
set_option maxRecDepth 100000
set_option maxHeartbeats 0
namespace L3
open PySem PySem.Spec PyProof.Rows L2

/-! ### data -/
inductive D where
  | non | bl (b : Bool) | int (i : Int) | str (x : Str) | tup (ds : List D) | ktp (ds : List D) | lst (ds : List D) | frz (ds : List D) | loc (l : Nat)
  | exn (a : Nat) | exf (a dd : Nat) (f : Str) (i : Int) | exk (c : Str) (fl : Option (Str × Int))
/-- keys that are tuples of tuples of numbers -/
abbrev NK := List (List Int)
inductive Ob where
  | lst (ds : List D) | dK (kvs : List (Key × D)) | dT (kvs : List (List Key × D)) | dN (kvs : List (NK × D)) | ins (C : Str) (fs : List (Str × D)) | lck (o : Ob)
def nkD (k : NK) : D := .tup (k.map fun t => .tup (t.map D.int))
def nkHash (k : NK) : Int := reduceHash (Builtin.Tuple.tupleHashOf (k.map fun t => reduceHash (Builtin.Tuple.tupleHashOf (t.map hashInt))))
def entN (x : NK × Addr × Value) : DictEntry := ⟨nkHash x.1, .ref x.2.1, x.2.2⟩
/-- a dict with such keys, at a: its entries -/
def NdO (a : Addr) (xs : List (NK × Addr × Value)) : HO := .ext fun h => (a == sysModules) = false ∧ ∃ o es ep, h.get? a = some o ∧ o.ExactDict ∧ o.data = .dict es ep ∧ es.toList = xs.map entN
abbrev Store := List Ob
abbrev DSt := List (Option D)
inductive Res (α : Type) where
  | ok (a : α) (S : Store) | exc (c : Str) (fs : List (Str × D)) (S : Store) | stuck
def Res.bind {α β : Type} (r : Res α) (f : α → Store → Res β) : Res β := match r with
  | .ok a S => f a S
  | .exc c fs S => .exc c fs S
  | .stuck => .stuck
@[simp] theorem Res.bind_ok {α β : Type} (a : α) (S : Store) (f : α → Store → Res β) : (Res.ok a S).bind f = f a S := (rfl)
@[simp] theorem Res.bind_exc {α β : Type} (c : Str) (fs : List (Str × D)) (S : Store) (f : α → Store → Res β) : (Res.exc c fs S).bind f = .exc c fs S := (rfl)
@[simp] theorem Res.bind_stuck {α β : Type} (f : α → Store → Res β) : (Res.stuck : Res α).bind f = .stuck := (rfl)

/-! ### how data lies in the heap: M the mutable objects by number, B the lists that are being made -/
structure Wd where
  M : List Addr
  B : List Addr
def H0 : Hp := fun _ => none
theorem no_rd {a : Addr} {u : HO} : ¬ Rd H0 a u := fun h => by
  rcases h with h | ⟨o, h⟩ <;> cases h
section
variable (K : PySem.W.Frag) (w : Wd) (H : Hp)
def FzL (a : Addr) (xs : List V) : Prop := (a ∉ w.M ∧ a ∉ w.B ∧ Rd H a (.lst xs)) ∨ SqL K H0 a xs
def FzX (a : Addr) (xs : List V) : Prop := a ∉ w.M ∧ a ∉ w.B ∧ H a = some (.lst xs)
def FzT (a : Addr) (xs : List V) : Prop := a ∉ w.M ∧ a ∉ w.B ∧ H a = some (.tup xs)
/-- the field of an exception in hand, an exception that is kept -/
def FzE (a : Addr) (u : HO) : Prop := a ∉ w.M ∧ a ∉ w.B ∧ H a = some u
def KeptO (a : Addr) (cls : Value) (d : Option Addr) : HO := .ext fun h => ∃ oe vs, h.get? a = some oe ∧ L2.Zc cls d oe ∧ oe.data = .fields vs
def KeptD (a A : Addr) : Option (Str × Int) → Prop
  | none => FzE w H a (KeptO a (.ref A) none)
  | some (f, i) => ∃ d, FzE w H a (KeptO a (.ref A) (some d)) ∧ FzE w H d (.xd [(f, V.int i)])
/-- tuples that are known exactly: the module's, and made ones -/
def KcT (a : Addr) (xs : List V) : Prop := ∃ (o : Obj) (its : Array Value) (n : Nat), K.lookup a = some o ∧ o.cls = .type "tuple" ∧ o.dict = none ∧ o.data = .seq its n ∧ its.size ≤ sizeLine ∧ Vals xs its.toList
def PlT (a : Addr) (xs : List V) : Prop := a ∉ w.M ∧ a ∉ w.B ∧ ∃ (o : Obj) (its : Array Value) (n : Nat), H a = some (.frz o (.tup xs)) ∧ o.cls = .type "tuple" ∧ o.dict = none ∧ o.data = .seq its n
mutual
def Rep : D → V → Prop
  | .non, v => v = .non
  | .bl b, v => v = .bl b
  | .int i, v => v = .int i
  | .str x, v => v = .str x
  | .tup ds, v => ∃ a vs, v = .ref a ∧ FzT w H a vs ∧ Reps ds vs
  | .ktp ds, v => ∃ a vs, v = .ref a ∧ (KcT K a vs ∨ PlT w H a vs) ∧ Reps ds vs
  | .lst ds, v => ∃ a vs, v = .ref a ∧ FzX w H a vs ∧ Reps ds vs
  | .frz ds, v => ∃ a vs, v = .ref a ∧ FzL K w H a vs ∧ Reps ds vs
  | .loc l, v => ∃ a, w.M[l]? = some a ∧ v = .ref a
  | .exn a, v => v = .ref a
  | .exf a dd f i, v => v = .ref a ∧ FzE w H dd (.xd [(f, V.int i)])
  | .exk c fl, v => ∃ a A, v = .ref a ∧ PySem.W.nsIn K mainGlobals c = some (some (.ref A)) ∧ KeptD w H a A fl
def Reps : List D → List V → Prop
  | [], vs => vs = []
  | d :: ds, vs => ∃ v r, vs = v :: r ∧ Rep d v ∧ Reps ds r
end
def RepO : Option D → Option V → Prop
  | none, _ => True
  | some d, some v => Rep K w H d v
  | some _, none => False
/-- the slots -/
def RSt (ds : DSt) (vs : L2.St) : Prop := ds.length = vs.length ∧ ∀ (i : Nat) (d : D), ds[i]? = some (some d) → ∃ v, vs[i]? = some (some v) ∧ Rep K w H d v
/-- pairs by keys -/
def RKv {κ : Type} : List (κ × D) → List (κ × V) → Prop
  | [], vs => vs = []
  | (k, d) :: ds, vs => ∃ v r, vs = (k, v) :: r ∧ Rep K w H d v ∧ RKv ds r
/-- pairs by such keys: where the key's tuple lies -/
def RNv : List (NK × D) → List (NK × Addr × Value) → Prop
  | [], xs => xs = []
  | (k, d) :: ds, xs => ∃ p u v r, xs = (k, p, u) :: r ∧ Rep K w H (nkD k) (.ref p) ∧ RelV v u ∧ Rep K w H d v ∧ RNv ds r
def HoOk (mg : Str → Option Value) : Ob → HO → Prop
  | .lst ds, u => ∃ vs, u = .lst vs ∧ Reps K w H ds vs
  | .dK kvs, u => ∃ vs, u = .dK vs ∧ RKv K w H kvs vs
  | .dT kvs, u => ∃ vs, u = .dT vs ∧ RKv K w H kvs vs
  | .dN kvs, u => ∃ a xs, u = NdO a xs ∧ RNv K w H kvs xs ∧ (kvs.map (·.1)).Nodup
  | .ins C fs, u => ∃ A dx vs, mg C = some (.ref A) ∧ u = .ins A dx vs ∧ RKv K w H fs vs
  | .lck o, u => ∃ od u', u = .frz od u' ∧ HoOk mg o u'
structure Ab (mg : Str → Option Value) (S : Store) : Prop where
  len : w.M.length = S.length
  nd : w.M.Nodup
  bm : ∀ a ∈ w.B, a ∉ w.M
  bt : ∀ a ∈ w.B, ∃ xs, H a = some (.lst xs)
  ob : ∀ (l : Nat) (a : Addr) (o : Ob), w.M[l]? = some a → S[l]? = some o → ∃ u, H a = some u ∧ HoOk K w H mg o u
end
/-- what a step may do: new mutable objects, new objects; what is no mutable object stands -/
structure Ex (w : Wd) (H : Hp) (w' : Wd) (H' : Hp) : Prop where
  pre : ∃ t, w'.M = w.M ++ t
  bk : w'.B = w.B
  keep : ∀ a u, H a = some u → a ∉ w.M → H' a = some u ∧ a ∉ w'.M
  fz : ∀ a od u, H a = some (.frz od u) → H' a = some (.frz od u)
theorem Ex.refl (w : Wd) (H : Hp) : Ex w H w H := ⟨⟨[], by simp⟩, rfl, fun a u h n => ⟨h, n⟩, fun _ _ _ h => h⟩
theorem Ex.trans {w w1 w2 : Wd} {H H1 H2 : Hp} (a : Ex w H w1 H1) (b : Ex w1 H1 w2 H2) : Ex w H w2 H2 := by
  obtain ⟨t, ht⟩ := a.pre
  obtain ⟨t', ht'⟩ := b.pre
  refine ⟨⟨t ++ t', by rw [ht', ht, List.append_assoc]⟩, b.bk.trans a.bk, fun c u h n => ?_, fun c od u h => b.fz c od u (a.fz c od u h)⟩
  obtain ⟨h1, n1⟩ := a.keep c u h n
  exact b.keep c u h1 n1
theorem Ex.get {w w' : Wd} {H H' : Hp} (e : Ex w H w' H') {l : Nat} {a : Addr} (h : w.M[l]? = some a) : w'.M[l]? = some a := by
  obtain ⟨t, ht⟩ := e.pre
  rw [ht]
  obtain ⟨h1, h2⟩ := List.getElem?_eq_some_iff.mp h
  rw [List.getElem?_append_left h1]; exact h
section
variable {K : PySem.W.Frag} {w w' : Wd} {H H' : Hp}
theorem FzL.sq {a : Addr} {xs : List V} (h : FzL K w H a xs) : SqL K H a xs := by
  rcases h with ⟨_, _, h⟩ | h | h
  · exact .inl h
  · exact absurd h no_rd
  · exact .inr h
theorem FzT.sq {a : Addr} {xs : List V} (h : FzT w H a xs) : SqT K H a xs := .inl (.inl h.2.2)
theorem Ex.rd (e : Ex w H w' H') {a : Addr} {u : HO} (n : a ∉ w.M) (b : a ∉ w.B) (h : Rd H a u) : a ∉ w'.M ∧ a ∉ w'.B ∧ Rd H' a u := by
  rcases h with h | ⟨o, h⟩
  · obtain ⟨h1, n1⟩ := e.keep a _ h n
    exact ⟨n1, by rw [e.bk]; exact b, .inl h1⟩
  · obtain ⟨h1, n1⟩ := e.keep a _ h n
    exact ⟨n1, by rw [e.bk]; exact b, .inr ⟨o, h1⟩⟩
theorem FzL.mono (e : Ex w H w' H') {a : Addr} {xs : List V} (h : FzL K w H a xs) : FzL K w' H' a xs := by
  rcases h with ⟨n, b, h⟩ | h
  · exact .inl (e.rd n b h)
  · exact .inr h
theorem FzX.mono (e : Ex w H w' H') {a : Addr} {xs : List V} (h : FzX w H a xs) : FzX w' H' a xs :=
  let ⟨n, b, h⟩ := h
  let ⟨h1, n1⟩ := e.keep a _ h n
  ⟨n1, by rw [e.bk]; exact b, h1⟩
theorem FzX.sq {a : Addr} {xs : List V} (h : FzX w H a xs) : SqL K H a xs := .inl (.inl h.2.2)
theorem PlT.by {a : Addr} {xs : List V} (k : ∀ a u, H a = some u → a ∉ w.M → a ∉ w.B → a ∉ w'.M ∧ a ∉ w'.B ∧ H' a = some u) (h : PlT w H a xs) : PlT w' H' a xs :=
  let ⟨n, b, o, its, m, f, r⟩ := h
  let ⟨n1, b1, f1⟩ := k a _ f n b
  ⟨n1, b1, o, its, m, f1, r⟩
theorem PlT.mono (e : Ex w H w' H') {a : Addr} {xs : List V} (h : PlT w H a xs) : PlT w' H' a xs := h.by fun a u f n b =>
  let ⟨h1, n1⟩ := e.keep a u f n
  ⟨n1, by rw [e.bk]; exact b, h1⟩
theorem kp_sq {a : Addr} {xs : List V} (h : KcT K a xs ∨ PlT w H a xs) : SqT K H a xs := by
  rcases h with ⟨o, its, n, h1, h2, _, h3⟩ | ⟨_, _, o, its, n, h, _⟩
  · exact .inr ⟨o, its, n, h1, h2, h3⟩
  · exact .inl (.inr ⟨o, h⟩)
theorem FzT.mono (e : Ex w H w' H') {a : Addr} {xs : List V} (h : FzT w H a xs) : FzT w' H' a xs :=
  let ⟨n, b, h⟩ := h
  let ⟨h1, n1⟩ := e.keep a _ h n
  ⟨n1, by rw [e.bk]; exact b, h1⟩
theorem FzE.mono (e : Ex w H w' H') {a : Addr} {u : HO} (h : FzE w H a u) : FzE w' H' a u :=
  let ⟨n, b, h⟩ := h
  let ⟨h1, n1⟩ := e.keep a _ h n
  ⟨n1, by rw [e.bk]; exact b, h1⟩
mutual
/-- any change that keeps frozen lists, tuples and the numbers' addresses -/
theorem Rep.gen (hX : ∀ a xs, FzX w H a xs → FzX w' H' a xs) (hL : ∀ a xs, FzL K w H a xs → FzL K w' H' a xs) (hT : ∀ a xs, FzT w H a xs → FzT w' H' a xs) (hP : ∀ a xs, PlT w H a xs → PlT w' H' a xs) (hE : ∀ a u, FzE w H a u → FzE w' H' a u) (hM : ∀ (l : Nat) (a : Addr), w.M[l]? = some a → w'.M[l]? = some a) : ∀ {d : D} {v : V}, Rep K w H d v → Rep K w' H' d v
  | .non, _, h => by simpa only [Rep] using h
  | .bl b, _, h => by simpa only [Rep] using h
  | .int i, _, h => by simpa only [Rep] using h
  | .str x, _, h => by simpa only [Rep] using h
  | .tup ds, _, h => by
    simp only [Rep] at h ⊢
    obtain ⟨a, vs, e, f, r⟩ := h
    exact ⟨a, vs, e, hT _ _ f, Reps.gen hX hL hT hP hE hM r⟩
  | .ktp ds, _, h => by
    simp only [Rep] at h ⊢
    obtain ⟨a, vs, e, f, r⟩ := h
    exact ⟨a, vs, e, f.imp_right (hP _ _), Reps.gen hX hL hT hP hE hM r⟩
  | .lst ds, _, h => by
    simp only [Rep] at h ⊢
    obtain ⟨a, vs, e, f, r⟩ := h
    exact ⟨a, vs, e, hX _ _ f, Reps.gen hX hL hT hP hE hM r⟩
  | .frz ds, _, h => by
    simp only [Rep] at h ⊢
    obtain ⟨a, vs, e, f, r⟩ := h
    exact ⟨a, vs, e, hL _ _ f, Reps.gen hX hL hT hP hE hM r⟩
  | .loc l, _, h => by
    simp only [Rep] at h ⊢
    obtain ⟨a, e, f⟩ := h
    exact ⟨a, hM _ _ e, f⟩
  | .exn a, _, h => by simpa only [Rep] using h
  | .exf a dd f i, _, h => by
    simp only [Rep] at h ⊢
    exact ⟨h.1, hE _ _ h.2⟩
  | .exk c fl, _, h => by
    simp only [Rep] at h ⊢
    obtain ⟨a, A, e, g, k⟩ := h
    refine ⟨a, A, e, g, ?_⟩
    match fl, k with
    | none, k => exact hE _ _ k
    | some (f, i), ⟨d, k1, k2⟩ => exact ⟨d, hE _ _ k1, hE _ _ k2⟩
theorem Reps.gen (hX : ∀ a xs, FzX w H a xs → FzX w' H' a xs) (hL : ∀ a xs, FzL K w H a xs → FzL K w' H' a xs) (hT : ∀ a xs, FzT w H a xs → FzT w' H' a xs) (hP : ∀ a xs, PlT w H a xs → PlT w' H' a xs) (hE : ∀ a u, FzE w H a u → FzE w' H' a u) (hM : ∀ (l : Nat) (a : Addr), w.M[l]? = some a → w'.M[l]? = some a) : ∀ {ds : List D} {vs : List V}, Reps K w H ds vs → Reps K w' H' ds vs
  | [], _, h => by simpa only [Reps] using h
  | d :: ds, _, h => by
    simp only [Reps] at h ⊢
    obtain ⟨v, r, e, h1, h2⟩ := h
    exact ⟨v, r, e, Rep.gen hX hL hT hP hE hM h1, Reps.gen hX hL hT hP hE hM h2⟩
end
theorem Rep.mono (e : Ex w H w' H') {d : D} {v : V} (h : Rep K w H d v) : Rep K w' H' d v := h.gen (fun _ _ f => f.mono e) (fun _ _ f => f.mono e) (fun _ _ f => f.mono e) (fun _ _ f => f.mono e) (fun _ _ f => f.mono e) fun _ _ => e.get
theorem Reps.mono (e : Ex w H w' H') {d : List D} {v : List V} (h : Reps K w H d v) : Reps K w' H' d v := h.gen (fun _ _ f => f.mono e) (fun _ _ f => f.mono e) (fun _ _ f => f.mono e) (fun _ _ f => f.mono e) (fun _ _ f => f.mono e) fun _ _ => e.get
theorem RKv.gen {κ : Type} (f : ∀ d v, Rep K w H d v → Rep K w' H' d v) : ∀ {ds : List (κ × D)} {vs : List (κ × V)}, RKv K w H ds vs → RKv K w' H' ds vs
  | [], _, h => h
  | (k, d) :: ds, _, h => by
    obtain ⟨v, r, e, h1, h2⟩ := h
    exact ⟨v, r, e, f _ _ h1, RKv.gen f h2⟩
theorem RNv.gen (f : ∀ d v, Rep K w H d v → Rep K w' H' d v) : ∀ {ds : List (NK × D)} {xs : List (NK × Addr × Value)}, RNv K w H ds xs → RNv K w' H' ds xs
  | [], _, h => h
  | (k, d) :: ds, _, h => by
    obtain ⟨p, u, v, r, e, h1, h2, h3, h4⟩ := h
    exact ⟨p, u, v, r, e, f _ _ h1, h2, f _ _ h3, RNv.gen f h4⟩
theorem RSt.gen (f : ∀ d v, Rep K w H d v → Rep K w' H' d v) {ds : DSt} {vs : L2.St} (h : RSt K w H ds vs) : RSt K w' H' ds vs :=
  ⟨h.1, fun i d e => let ⟨v, e1, r⟩ := h.2 i d e; ⟨v, e1, f _ _ r⟩⟩
theorem RSt.mono (e : Ex w H w' H') {ds : DSt} {vs : L2.St} (h : RSt K w H ds vs) : RSt K w' H' ds vs := h.gen fun _ _ r => r.mono e
theorem HoOk.gen {mg : Str → Option Value} (f : ∀ d v, Rep K w H d v → Rep K w' H' d v) (g : ∀ d v, Reps K w H d v → Reps K w' H' d v) : ∀ {o : Ob} {u : HO}, HoOk K w H mg o u → HoOk K w' H' mg o u
  | .lst ds, _, h => by
    obtain ⟨vs, e, r⟩ := h
    exact ⟨vs, e, g _ _ r⟩
  | .dK ds, _, h => by
    obtain ⟨vs, e, r⟩ := h
    exact ⟨vs, e, r.gen f⟩
  | .dT ds, _, h => by
    obtain ⟨vs, e, r⟩ := h
    exact ⟨vs, e, r.gen f⟩
  | .dN ds, _, h => by
    obtain ⟨a, xs, e, r, n⟩ := h
    exact ⟨a, xs, e, r.gen f, n⟩
  | .ins C ds, _, h => by
    obtain ⟨A, dx, vs, m, e, r⟩ := h
    exact ⟨A, dx, vs, m, e, r.gen f⟩
  | .lck o, _, h => by
    obtain ⟨od, u', e, r⟩ := h
    exact ⟨od, u', e, HoOk.gen f g r⟩
theorem Reps.length : ∀ {ds : List D} {vs : List V}, Reps K w H ds vs → ds.length = vs.length
  | [], _, h => by simp only [Reps] at h; rw [h]; rfl
  | d :: ds, _, h => by
    simp only [Reps] at h
    obtain ⟨v, r, rfl, _, h2⟩ := h
    simp [Reps.length h2]
theorem Reps.get : ∀ {ds : List D} {vs : List V} {i : Nat} {d : D}, Reps K w H ds vs → ds[i]? = some d → ∃ v, vs[i]? = some v ∧ Rep K w H d v
  | [], _, _, _, h, e => by simp at e
  | d :: ds, _, 0, d', h, e => by
    simp only [Reps] at h
    obtain ⟨v, r, rfl, h1, h2⟩ := h
    simp at e; subst e
    exact ⟨v, by simp, h1⟩
  | d :: ds, _, i + 1, d', h, e => by
    simp only [Reps] at h
    obtain ⟨v, r, rfl, h1, h2⟩ := h
    simpa using Reps.get (i := i) h2 (by simpa using e)
theorem Reps.nil : Reps K w H [] [] := by simp only [Reps]
theorem Reps.cons {d : D} {v : V} {ds : List D} {vs : List V} (h : Rep K w H d v) (t : Reps K w H ds vs) : Reps K w H (d :: ds) (v :: vs) := by
  simp only [Reps]; exact ⟨v, vs, rfl, h, t⟩
theorem Reps.append : ∀ {ds es : List D} {vs us : List V}, Reps K w H ds vs → Reps K w H es us → Reps K w H (ds ++ es) (vs ++ us)
  | [], _, _, _, h, g => by simp only [Reps] at h; subst h; exact g
  | d :: ds, _, _, _, h, g => by
    simp only [Reps] at h
    obtain ⟨v, r, rfl, h1, h2⟩ := h
    exact .cons h1 (Reps.append h2 g)
theorem Ab.there {mg : Str → Option Value} {S : Store} (A : Ab K w H mg S) {a : Addr} (h : a ∈ w.M) : ∃ u, H a = some u := by
  obtain ⟨l, h1, e⟩ := List.getElem_of_mem h
  have h2 : l < S.length := by rw [← A.len]; exact h1
  obtain ⟨u, e', _⟩ := A.ob l a S[l] (by rw [← e]; exact List.getElem?_eq_getElem h1) (List.getElem?_eq_getElem h2)
  exact ⟨u, e'⟩
theorem Ab.new {mg : Str → Option Value} {S : Store} (A : Ab K w H mg S) {p : Addr} (h : H p = none) : p ∉ w.M := fun z => by
  obtain ⟨u, e⟩ := A.there z
  rw [h] at e; cases e
theorem Ab.newB {mg : Str → Option Value} {S : Store} (A : Ab K w H mg S) {p : Addr} (h : H p = none) : p ∉ w.B := fun z => by
  obtain ⟨u, e⟩ := A.bt p z
  rw [h] at e; cases e
end
section
variable {K : PySem.W.Frag} {mg : Str → Option Value} {w : Wd} {H : Hp} {S : Store}
theorem ne_new {a p : Addr} {u : HO} (h : H a = some u) (hp : H p = none) : a ≠ p := ne_of_none h hp
/-- a new frozen object -/
theorem Ex.new {p : Addr} {o : HO} (hp : H p = none) : Ex w H w (upd H p o) :=
  ⟨⟨[], by simp⟩, rfl, fun a u h n => ⟨by rw [upd_ne (ne_new h hp)]; exact h, n⟩, fun a od u h => by rw [upd_ne (ne_new h hp)]; exact h⟩
theorem HoOk.mono {w' : Wd} {H' : Hp} (e : Ex w H w' H') {o : Ob} {u : HO} (h : HoOk K w H mg o u) : HoOk K w' H' mg o u := h.gen (fun _ _ r => r.mono e) fun _ _ r => r.mono e
theorem Ab.newF (A : Ab K w H mg S) {p : Addr} {o : HO} (hp : H p = none) : Ab K w (upd H p o) mg S :=
  ⟨A.len, A.nd, A.bm, fun a ha => let ⟨u, e⟩ := A.bt a ha; ⟨u, by rw [upd_ne (ne_new e hp)]; exact e⟩, fun l a ob h1 h2 => by
    obtain ⟨u, e, k⟩ := A.ob l a ob h1 h2
    exact ⟨u, by rw [upd_ne (ne_new e hp)]; exact e, k.mono (Ex.new hp)⟩⟩
/-- a new mutable object -/
theorem Ex.newM {p : Addr} {o : HO} (hp : H p = none) : Ex w H ⟨w.M ++ [p], w.B⟩ (upd H p o) :=
  ⟨⟨[p], rfl⟩, rfl, fun a u h n => ⟨by rw [upd_ne (ne_new h hp)]; exact h, by simp only [List.mem_append, List.mem_singleton, not_or]; exact ⟨n, ne_new h hp⟩⟩, fun a od u h => by rw [upd_ne (ne_new h hp)]; exact h⟩
theorem Ab.newM (A : Ab K w H mg S) {p : Addr} {o : HO} {ob : Ob} (hp : H p = none) (k : HoOk K ⟨w.M ++ [p], w.B⟩ (upd H p o) mg ob o) : Ab K ⟨w.M ++ [p], w.B⟩ (upd H p o) mg (S ++ [ob]) := by
  have hn := A.new hp
  have hB := A.newB hp
  refine ⟨by simp [A.len], ?_, fun a hb hm => ?_, fun a ha => let ⟨u, e⟩ := A.bt a ha; ⟨u, by rw [upd_ne (ne_new e hp)]; exact e⟩, fun l a ob' h1 h2 => ?_⟩
  · show (w.M ++ [p]).Nodup
    rw [List.nodup_append]
    exact ⟨A.nd, by simp, fun a ha b hb => by simp only [List.mem_singleton] at hb; subst hb; exact fun e => hn (e ▸ ha)⟩
  · simp only [List.mem_append, List.mem_singleton] at hm
    rcases hm with hm | rfl
    · exact A.bm a hb hm
    · exact hB hb
  · have h1 : (w.M ++ [p])[l]? = some a := h1
    by_cases hl : l < S.length
    · have hl' : l < w.M.length := by rw [A.len]; exact hl
      rw [List.getElem?_append_left hl] at h2
      rw [List.getElem?_append_left hl'] at h1
      obtain ⟨u, e, k'⟩ := A.ob l a ob' h1 h2
      exact ⟨u, by rw [upd_ne (ne_new e hp)]; exact e, k'.mono (Ex.newM hp)⟩
    · have hl' : ¬ l < w.M.length := by rw [A.len]; exact hl
      rw [List.getElem?_append_right (by omega)] at h1 h2
      rw [A.len] at h1
      have h0 : l - S.length = 0 := by
        cases hq : l - S.length with
        | zero => rfl
        | succ n => rw [hq] at h2; simp at h2
      rw [h0] at h1 h2
      simp at h1 h2
      subst h1 h2
      exact ⟨o, upd_same, k⟩
theorem nz_lst {a : Addr} {xs : List V} (h : H a = some (.lst xs)) : ∀ od u, H a ≠ some (.frz od u) := fun od u z => by rw [h] at z; cases z
theorem nz_dK {a : Addr} {xs : List (Key × V)} (h : H a = some (.dK xs)) : ∀ od u, H a ≠ some (.frz od u) := fun od u z => by rw [h] at z; cases z
theorem nz_dT {a : Addr} {xs : List (List Key × V)} (h : H a = some (.dT xs)) : ∀ od u, H a ≠ some (.frz od u) := fun od u z => by rw [h] at z; cases z
/-- a mutable object is written -/
theorem Ex.wr {a : Addr} {o : HO} (hm : a ∈ w.M) (hz : ∀ od u, H a ≠ some (.frz od u)) : Ex w H w (upd H a o) :=
  ⟨⟨[], by simp⟩, rfl, fun b u h n => ⟨by rw [upd_ne (fun z : b = a => n (by rw [z]; exact hm))]; exact h, n⟩, fun b od u h => by rw [upd_ne (fun z : b = a => hz od u (by rw [← z]; exact h))]; exact h⟩
theorem Ab.wr (A : Ab K w H mg S) {l : Nat} {a : Addr} {o : HO} {ob : Ob} (hm : w.M[l]? = some a) (hz : ∀ od u, H a ≠ some (.frz od u)) (k : HoOk K w H mg ob o) : Ab K w (upd H a o) mg (S.set l ob) := by
  have hmem : a ∈ w.M := List.mem_of_getElem? hm
  refine ⟨by simp [A.len], A.nd, A.bm, fun b hb => ?_, fun l' a' ob' h1 h2 => ?_⟩
  · obtain ⟨u, e⟩ := A.bt b hb
    exact ⟨u, by rw [upd_ne (fun z : b = a => A.bm b hb (by rw [z]; exact hmem))]; exact e⟩
  by_cases hl : l' = l
  · subst hl
    rw [hm] at h1; cases h1
    have : l' < S.length := by rw [← A.len]; exact (List.getElem?_eq_some_iff.mp hm).1
    rw [List.getElem?_set_self this] at h2
    cases h2
    exact ⟨o, upd_same, k.mono (Ex.wr hmem hz)⟩
  · rw [List.getElem?_set_ne (Ne.symm hl)] at h2
    obtain ⟨u, e, k'⟩ := A.ob l' a' ob' h1 h2
    have hne : a' ≠ a := fun z => by
      subst z
      obtain ⟨q1, q2⟩ := List.getElem?_eq_some_iff.mp h1
      obtain ⟨q3, q4⟩ := List.getElem?_eq_some_iff.mp hm
      exact hl ((List.getElem_inj A.nd).mp (q2.trans q4.symm))
    exact ⟨u, by rw [upd_ne hne]; exact e, k'.mono (Ex.wr hmem hz)⟩
/-- data that is made at a new place -/
theorem Rep.tupNew {p : Addr} {ds : List D} {vs : List V} (A : Ab K w H mg S) (hp : H p = none) (r : Reps K w H ds vs) : Rep K w (upd H p (.tup vs)) (.tup ds) (.ref p) := by
  simp only [Rep]
  exact ⟨p, vs, rfl, ⟨A.new hp, A.newB hp, upd_same⟩, r.mono (Ex.new hp)⟩
theorem Rep.lstNew {p : Addr} {ds : List D} {vs : List V} (A : Ab K w H mg S) (hp : H p = none) (r : Reps K w H ds vs) : Rep K w (upd H p (.lst vs)) (.lst ds) (.ref p) := by
  simp only [Rep]
  exact ⟨p, vs, rfl, ⟨A.new hp, A.newB hp, upd_same⟩, r.mono (Ex.new hp)⟩
theorem Rep.locNew {p : Addr} {H' : Hp} (A : Ab K w H mg S) : Rep K ⟨w.M ++ [p], w.B⟩ H' (.loc S.length) (.ref p) := by
  simp only [Rep]
  exact ⟨p, by rw [← A.len]; simp, rfl⟩
end
end L3
namespace L3
open PySem PySem.Spec L2

/-! ### what is told of a step's end -/
abbrev XW := Value → Option Addr → L2.St → Hp → Prop
def XRel (K : PySem.W.Frag) (w : Wd) (H : Hp) (fs : List (Str × D)) : Option Addr → Prop
  | none => fs = []
  | some d => fs ≠ [] ∧ ∃ vs, H d = some (.xd vs) ∧ RKv K w H fs vs ∧ d ∉ w.M
def Post {α β : Type} (K : PySem.W.Frag) (mg : Str → Option Value) (R : Wd → Hp → α → β → Prop) (W : XW) (σ : L2.St) (w : Wd) (H : Hp) (r : Res α) (Q : β → Hp → Prop) : Prop :=
  match r with
  | .ok a S' => ∀ w' H' v, Ex w H w' H' → Ab K w' H' mg S' → R w' H' a v → Q v H'
  | .exc c fs S' => ∀ w' H' C od, Ex w H w' H' → Ab K w' H' mg S' → mg c = some (.ref C) → XRel K w' H' fs od → W (.ref C) od σ H'
  | .stuck => False
section
variable {α β γ δ : Type} {K : PySem.W.Frag} {mg : Str → Option Value} {R : Wd → Hp → α → β → Prop} {R' : Wd → Hp → γ → δ → Prop} {W : XW} {σ : L2.St} {w w' : Wd} {H H' : Hp}
theorem Post.ex {r : Res α} {Q : β → Hp → Prop} (h : Post K mg R W σ w H r Q) (e : Ex w H w' H') : Post K mg R W σ w' H' r Q := by
  cases r with
  | ok a S => exact fun w2 H2 v e2 => h w2 H2 v (e.trans e2)
  | exc c fs S => exact fun w2 H2 C od e2 => h w2 H2 C od (e.trans e2)
  | stuck => exact h
theorem Post.bind {r : Res α} {f : α → Store → Res γ} {Q : δ → Hp → Prop} {Q' : β → Hp → Prop} (h : Post K mg R' W σ w H (r.bind f) Q)
    (k : ∀ a S1 w1 H1 v, Ex w H w1 H1 → Ab K w1 H1 mg S1 → R w1 H1 a v → Post K mg R' W σ w1 H1 (f a S1) Q → Q' v H1) : Post K mg R W σ w H r Q' := by
  cases r with
  | ok a S => exact fun w2 H2 v e2 A2 r2 => k a S w2 H2 v e2 A2 r2 (Post.ex h e2)
  | exc c fs S => exact h
  | stuck => exact h
theorem Post.imp {r : Res α} {Q Q' : β → Hp → Prop} (h : Post K mg R W σ w H r Q) (k : ∀ v H', Q v H' → Q' v H') : Post K mg R W σ w H r Q' := by
  cases r with
  | ok a S => exact fun w2 H2 v e2 A2 r2 => k _ _ (h w2 H2 v e2 A2 r2)
  | exc c fs S => exact h
  | stuck => exact h
theorem Post.fin {a : α} {S : Store} {v : β} {Q : β → Hp → Prop} (h : Post K mg R W σ w H (.ok a S) Q) (A : Ab K w H mg S) (r : R w H a v) : Q v H := h w H v (Ex.refl _ _) A r
end
/-- readings by functions -/
def tOf (K : PySem.W.Frag) (mg : Str → Option Value) (W : XW) (m : DSt → Store → Res D) : TE := fun σ H Q => ∃ w dσ S, Ab K w H mg S ∧ RSt K w H dσ σ ∧ Post K mg (Rep K) W σ w H (m dσ S) Q
def RB (w : Wd) (H : Hp) (a b : Bool) : Prop := a = b
def tOfT (K : PySem.W.Frag) (mg : Str → Option Value) (W : XW) (m : DSt → Store → Res Bool) : TT := fun σ H Q => ∃ w dσ S, Ab K w H mg S ∧ RSt K w H dσ σ ∧ Post K mg RB W σ w H (m dσ S) Q
def tOfA (K : PySem.W.Frag) (mg : Str → Option Value) (W : XW) (m : DSt → Store → Res (List D)) : TA := fun σ H Q => ∃ w dσ S, Ab K w H mg S ∧ RSt K w H dσ σ ∧ Post K mg (Reps K) W σ w H (m dσ S) Q
abbrev PM (X : Cx) (W : XW) (e : Expr) (m : DSt → Store → Res D) : Prop := PE X e (tOf X.K X.mg W m)
abbrev PMT (X : Cx) (W : XW) (e : Expr) (m : DSt → Store → Res Bool) : Prop := PT X e (tOfT X.K X.mg W m)
abbrev PMA (X : Cx) (W : XW) (es : List Expr) (m : DSt → Store → Res (List D)) : Prop := PA X es (tOfA X.K X.mg W m)
section
variable {X : Cx} {W : XW}
theorem PE.imp {e : Expr} {t t' : TE} (h : PE X e t) (k : ∀ σ H Q, t' σ H Q → t σ H Q) : PE X e t' := ⟨fun pins s σ H Q I q => h.run pins s σ H Q I (k σ H Q q)⟩
theorem PT.imp {e : Expr} {t t' : TT} (h : PT X e t) (k : ∀ σ H Q, t' σ H Q → t σ H Q) : PT X e t' := ⟨fun pins s σ H Q I q => h.run pins s σ H Q I (k σ H Q q)⟩
theorem PA.imp {e : List Expr} {t t' : TA} (h : PA X e t) (k : ∀ σ H Q, t' σ H Q → t σ H Q) : PA X e t' := ⟨fun pos pins s σ H Q I q => h.run pos pins s σ H Q I (k σ H Q q)⟩
theorem PS.imp {e : Stmt} {t t' : TS} (h : PS X e t) (k : ∀ D σ H, t' D σ H → t D σ H) : PS X e t' := ⟨fun pins s σ H D I q => h.run pins s σ H D I (k D σ H q)⟩
theorem PSs.imp {e : List Stmt} {t t' : TS} (h : PSs X e t) (k : ∀ D σ H, t' D σ H → t D σ H) : PSs X e t' := ⟨fun pins s σ H D I q => h.run pins s σ H D I (k D σ H q)⟩

/-! ### names, constants -/
def mVar (i : Nat) (σ : DSt) (S : Store) : Res D := match σ[i]? with
  | some (some d) => .ok d S
  | _ => .stuck
def mC (d : D) (_ : DSt) (S : Store) : Res D := .ok d S
theorem pm_var (i : Nat) {x : Str} {pos : Pos} (hN : X.N[i]? = some x := by rfl) (hv : Vis X.env.scope x := by first | exact Or.inl rfl | exact Or.inr (Or.inl rfl) | exact Or.inr (Or.inr rfl)) (hd : (x == ("__debug__" : Str)) = false := by decide)
    (hcd : (x == ("__classdict__" : Str)) = false := by decide) : PM X W (.Name x pos) (mVar i) := by
  refine PE.imp (pe_var hN hv hd hcd) fun σ H Q ⟨w, dσ, S, A, R, P⟩ => ?_
  unfold mVar at P
  split at P
  · rename_i d e
    obtain ⟨v, e1, r⟩ := R.2 i d e
    exact ⟨v, e1, P.fin A r⟩
  · exact P.elim
theorem PE.const {e : Expr} {v : V} {d : D} (h : PE X e (tC v)) (r : ∀ w H, Rep X.K w H d v) : PM X W e (mC d) :=
  PE.imp h fun σ H Q ⟨w, dσ, S, A, R, P⟩ => P.fin A (r w H)
theorem pm_int {i j pos} : PM X W (.Constant (.int i) j pos) (mC (.int i)) := PE.const pe_int fun _ _ => by simp only [Rep]
theorem pm_bl {i j pos} : PM X W (.Constant (.bool i) j pos) (mC (.bl i)) := PE.const pe_bl fun _ _ => by simp only [Rep]
theorem pm_str {i j pos} : PM X W (.Constant (.str i) j pos) (mC (.str i)) := PE.const pe_str fun _ _ => by simp only [Rep]
/-- a module's constant -/
theorem pm_glob {x : Str} {v : V} {d : D} {u : Value} {pos : Pos} (hg : Gl X x) (hm : X.mg x = some u) (r : RelV v u) (k : ∀ w H, Rep X.K w H d v) (hd : (x == ("__debug__" : Str)) = false := by decide) : PM X W (.Name x pos) (mC d) :=
  PE.const (pe_glob hg hm r hd) k

/-! ### two values -/
def m2 (ma mb : DSt → Store → Res D) (f : D → D → Store → Res D) (σ : DSt) (S : Store) : Res D := (ma σ S).bind fun a S1 => (mb σ S1).bind fun b S2 => f a b S2
def m1 (ma : DSt → Store → Res D) (f : D → Store → Res D) (σ : DSt) (S : Store) : Res D := (ma σ S).bind fun a S1 => f a S1
/-- a rule for two values, by functions -/
def Op2 (X : Cx) (W : XW) (r : R2) (f : D → D → Store → Res D) : Prop :=
  ∀ w H S d e x y σ Q, Ab X.K w H X.mg S → Rep X.K w H d x → Rep X.K w H e y → Post X.K X.mg (Rep X.K) W σ w H (f d e S) Q → r x y H Q
def OpD (X : Cx) (W : XW) (op : Value → Value → Sem Value) (f : D → D → Store → Res D) : Prop := ∃ r, OpR X op r ∧ Op2 X W r f
theorem tOf_two {ma mb : DSt → Store → Res D} {f : D → D → Store → Res D} {r : R2} (h : Op2 X W r f) {σ : L2.St} {H : Hp} {Q : VK} (q : tOf X.K X.mg W (m2 ma mb f) σ H Q) : tOp r (tOf X.K X.mg W ma) (tOf X.K X.mg W mb) σ H Q := by
  obtain ⟨w, dσ, S, A, R, P⟩ := q
  refine ⟨w, dσ, S, A, R, P.bind fun d S1 w1 H1 x e1 A1 r1 P1 => ⟨w1, dσ, S1, A1, R.mono e1, P1.bind fun e S2 w2 H2 y e2 A2 r2 P2 => ?_⟩⟩
  exact h w2 H2 S2 d e x y σ Q A2 (r1.mono e2) r2 P2
theorem pm_op {a b : Expr} {op : Operator} {pos : Pos} {ma mb : DSt → Store → Res D} {f : D → D → Store → Res D} (ho : OpD X W (binaryOp op) f) (ha : PM X W a ma) (hb : PM X W b mb) : PM X W (.BinOp a op b pos) (m2 ma mb f) :=
  let ⟨_, h1, h2⟩ := ho
  PE.imp (pe_op h1 ha hb) fun _ _ _ => tOf_two h2
theorem pm_cmp {a b : Expr} {op : CmpOp} {pos : Pos} {ma mb : DSt → Store → Res D} {f : D → D → Store → Res D} (ho : OpD X W (compareOp op) f) (ha : PM X W a ma) (hb : PM X W b mb) (hm : behindInMarks op b = false) : PM X W (.Compare a [op] [b] pos) (m2 ma mb f) :=
  let ⟨_, h1, h2⟩ := ho
  PE.imp (pe_cmpR h1 ha hb hm) fun _ _ _ => tOf_two h2
/-- a value's test: it is a truth -/
def mT (m : DSt → Store → Res D) (σ : DSt) (S : Store) : Res Bool := (m σ S).bind fun d S1 => match d with
  | .bl b => .ok b S1
  | _ => .stuck
theorem rep_bl {K : PySem.W.Frag} {w : Wd} {H : Hp} {b : Bool} {v : V} (h : Rep K w H (.bl b) v) : v = .bl b := by simpa only [Rep] using h
theorem rep_int {K : PySem.W.Frag} {w : Wd} {H : Hp} {b : Int} {v : V} (h : Rep K w H (.int b) v) : v = .int b := by simpa only [Rep] using h
theorem rep_str {K : PySem.W.Frag} {w : Wd} {H : Hp} {b : Str} {v : V} (h : Rep K w H (.str b) v) : v = .str b := by simpa only [Rep] using h
theorem rep_non {K : PySem.W.Frag} {w : Wd} {H : Hp} {v : V} (h : Rep K w H .non v) : v = .non := by simpa only [Rep] using h
theorem of_bl {K : PySem.W.Frag} {w : Wd} {H : Hp} (b : Bool) : Rep K w H (.bl b) (.bl b) := by simp only [Rep]
theorem of_int {K : PySem.W.Frag} {w : Wd} {H : Hp} (b : Int) : Rep K w H (.int b) (.int b) := by simp only [Rep]
theorem of_str {K : PySem.W.Frag} {w : Wd} {H : Hp} (b : Str) : Rep K w H (.str b) (.str b) := by simp only [Rep]
theorem of_non {K : PySem.W.Frag} {w : Wd} {H : Hp} : Rep K w H .non .non := by simp only [Rep]
theorem of_loc {K : PySem.W.Frag} {w : Wd} {H : Hp} {l : Nat} {a : Addr} (h : w.M[l]? = some a) : Rep K w H (.loc l) (.ref a) := by simp only [Rep]; exact ⟨a, h, rfl⟩
theorem tOf_test {m : DSt → Store → Res D} {σ : L2.St} {H : Hp} {Q : Bool → Hp → Prop} (q : tOfT X.K X.mg W (mT m) σ H Q) : tTest (tOf X.K X.mg W m) σ H Q := by
  obtain ⟨w, dσ, S, A, R, P⟩ := q
  refine ⟨w, dσ, S, A, R, P.bind fun d S1 w1 H1 x e1 A1 r1 P1 => ?_⟩
  cases d with
  | bl b => exact ⟨b, rep_bl r1, P1.fin A1 rfl⟩
  | _ => exact P1.elim
/-- a comparison as a test -/
theorem pmt_cmp {a b : Expr} {op : CmpOp} {pos : Pos} {ma mb : DSt → Store → Res D} {f : D → D → Store → Res D} (ho : OpD X W (compareOp op) f) (ha : PM X W a ma) (hb : PM X W b mb) (hm : behindInMarks op b = false) : PMT X W (.Compare a [op] [b] pos) (mT (m2 ma mb f)) := by
  obtain ⟨r, h1, h2⟩ := ho
  refine PT.imp (pt_cmpR h1 ha hb hm) fun σ H Q q => ?_
  obtain ⟨w, dσ, S, A, R, P⟩ := q
  refine tOf_two h2 ⟨w, dσ, S, A, R, P.bind fun d S1 w1 H1 x e1 A1 r1 P1 => ?_⟩
  cases d with
  | bl b => exact ⟨b, rep_bl r1, P1.fin A1 rfl⟩
  | _ => exact P1.elim
def mCh (ma mb mc : DSt → Store → Res D) (f g : D → D → Store → Res D) (σ : DSt) (S : Store) : Res D :=
  (ma σ S).bind fun a S1 => (mb σ S1).bind fun b S2 => (f a b S2).bind fun z S3 => match z with
    | .bl true => (mc σ S3).bind fun c S4 => g b c S4
    | .bl false => .ok (.bl false) S3
    | _ => .stuck
/-! ### tests -/
theorem pmt_val {e : Expr} {m : DSt → Store → Res D} (h : PM X W e m) (he : ∀ whole, isTrue e X.env whole = (do let v ← whole; standAt e.pos; holding [v] (truthy v)) := by intro _; rfl) : PMT X W e (mT m) := PT.imp (pt_val h he) fun σ H Q q => tOf_test q
def mNotT (m : DSt → Store → Res Bool) (σ : DSt) (S : Store) : Res Bool := (m σ S).bind fun b S1 => .ok (!b) S1
theorem pmt_not {e : Expr} {pos : Pos} {m : DSt → Store → Res Bool} (h : PMT X W e m) : PMT X W (.UnaryOp .Not e pos) (mNotT m) :=
  PT.imp (pt_not h) fun σ H Q ⟨w, dσ, S, A, R, P⟩ => ⟨w, dσ, S, A, R, P.bind fun b S1 w1 H1 x e1 A1 r1 P1 => by
    cases (show b = x from r1)
    exact P1.fin A1 rfl⟩
end
end L3
namespace L3
open PySem PySem.Spec L2
instance {i j : Int} : Decidable (CMul i j) := by unfold CMul; infer_instance
instance {i j : Int} : Decidable (CMulW i j) := by unfold CMulW; infer_instance
instance {i j : Int} : Decidable (CDivW i j) := by unfold CDivW; infer_instance

/-! ### what may be read -/
def exL (S : Store) : D → Option (List D)
  | .lst ds => some ds
  | .loc l => match S[l]? with
    | some (.lst ds) => some ds
    | _ => none
  | _ => none
def rdL (S : Store) : D → Option (List D)
  | .frz ds => some ds
  | d => exL S d
section
variable {K : PySem.W.Frag} {mg : Str → Option Value} {w : Wd} {H : Hp} {S : Store}
theorem exL_rep {d : D} {ds : List D} {v : V} (A : Ab K w H mg S) (h : exL S d = some ds) (r : Rep K w H d v) : ∃ a vs, v = .ref a ∧ H a = some (.lst vs) ∧ Reps K w H ds vs := by
  cases d with
  | lst xs =>
    simp only [exL, Option.some.injEq] at h
    subst h
    simp only [Rep] at r
    obtain ⟨a, vs, e, f, r⟩ := r
    exact ⟨a, vs, e, f.2.2, r⟩
  | loc l =>
    simp only [exL] at h
    simp only [Rep] at r
    obtain ⟨a, e, rfl⟩ := r
    split at h
    · rename_i xs q
      cases h
      obtain ⟨u, e1, vs, e2, k⟩ := A.ob l a _ e q
      subst e2
      exact ⟨a, vs, rfl, e1, k⟩
    · cases h
  | _ => simp [exL] at h
theorem rdL_rep {d : D} {ds : List D} {v : V} (A : Ab K w H mg S) (h : rdL S d = some ds) (r : Rep K w H d v) : ∃ a vs, v = .ref a ∧ SqL K H a vs ∧ Reps K w H ds vs := by
  cases d with
  | frz xs =>
    simp only [rdL, Option.some.injEq] at h
    subst h
    simp only [Rep] at r
    obtain ⟨a, vs, e, f, r⟩ := r
    exact ⟨a, vs, e, f.sq, r⟩
  | _ =>
    obtain ⟨a, vs, e, f, r⟩ := exL_rep A (by simpa only [rdL] using h) r
    exact ⟨a, vs, e, .of f, r⟩
theorem tup_rep {ds : List D} {v : V} (r : Rep K w H (.tup ds) v) : ∃ a vs, v = .ref a ∧ H a = some (.tup vs) ∧ Reps K w H ds vs := by
  simp only [Rep] at r
  obtain ⟨a, vs, e, f, r⟩ := r
  exact ⟨a, vs, e, f.2.2, r⟩
def rdT : D → Option (List D)
  | .tup ds => some ds
  | .ktp ds => some ds
  | _ => none
theorem rdT_rep {d : D} {ds : List D} {v : V} (h : rdT d = some ds) (r : Rep K w H d v) : ∃ a vs, v = .ref a ∧ SqT K H a vs ∧ Reps K w H ds vs := by
  cases d with
  | tup xs =>
    simp only [rdT, Option.some.injEq] at h
    subst h
    obtain ⟨a, vs, e, f, r⟩ := tup_rep r
    exact ⟨a, vs, e, .of f, r⟩
  | ktp xs =>
    simp only [rdT, Option.some.injEq] at h
    subst h
    simp only [Rep] at r
    obtain ⟨a, vs, e, f, r⟩ := r
    exact ⟨a, vs, e, kp_sq f, r⟩
  | _ => simp [rdT] at h
end

/-! ### arithmetic -/
section
variable {X : Cx} {W : XW}
def addD (d e : D) (S : Store) : Res D := match d, e with
  | .int i, .int j => .ok (.int (i + j)) S
  | .str i, .str j => if i.length + j.length ≤ sizeLine then .ok (.str (i ++ j)) S else .stuck
  | .tup a, .tup b => if a.length + b.length ≤ sizeLine then .ok (.tup (a ++ b)) S else .stuck
  | d, e => match exL S d, exL S e with
    | some a, some b => if a.length + b.length ≤ sizeLine then .ok (.lst (a ++ b)) S else .stuck
    | _, _ => .stuck
theorem od_add : OpD X W (binaryOp .Add) addD := by
  refine ⟨_, op_add.or (op_add_str.or (op_catA.or op_cat)), fun w H S d e x y σ Q A rd re P => ?_⟩
  unfold addD at P
  split at P
  · exact .inl ⟨_, _, rep_int rd, rep_int re, P.fin A (of_int _)⟩
  · split at P
    · rename_i hz
      exact .inr (.inl ⟨_, _, rep_str rd, rep_str re, hz, P.fin A (of_str _)⟩)
    · exact P.elim
  · split at P
    · rename_i ds es hz
      refine .inr (.inr (.inl ?_))
      have rd0 := rd
      have re0 := re
      simp only [Rep] at rd re
      obtain ⟨a, vs, rfl, f, r⟩ := rd
      obtain ⟨b, us, rfl, g, r'⟩ := re
      refine ⟨a, b, vs, us, rfl, rfl, f.sq, g.sq, by rw [← r.length, ← r'.length]; exact hz, fun z => ?_, fun _ z => ?_, fun _ _ p hp => ?_⟩
      · subst z
        have : ds = [] := by have := r.length; simpa using this
        subst this
        exact P.fin A re0
      · subst z
        have : es = [] := by have := r'.length; simpa using this
        subst this
        rw [List.append_nil] at P
        exact P.fin A rd0
      · exact P w _ _ (Ex.new hp) (A.newF hp) (Rep.tupNew A hp (r.append r'))
    · exact P.elim
  · split at P
    · rename_i a b ha hb
      split at P
      · rename_i hz
        obtain ⟨l, vs, rfl, f, r⟩ := exL_rep A ha rd
        obtain ⟨l', us, rfl, g, r'⟩ := exL_rep A hb re
        exact .inr (.inr (.inr ⟨l, l', vs, us, rfl, rfl, f, g, by rw [← r.length, ← r'.length]; exact hz, fun p hp => P w _ _ (Ex.new hp) (A.newF hp) (Rep.lstNew A hp (r.append r'))⟩))
      · exact P.elim
    · exact P.elim
def subD (d e : D) (S : Store) : Res D := match d, e with
  | .int i, .int j => .ok (.int (i - j)) S
  | _, _ => .stuck
theorem od_sub : OpD X W (binaryOp .Sub) subD := by
  refine ⟨_, op_sub, fun w H S d e x y σ Q A rd re P => ?_⟩
  unfold subD at P
  split at P
  · exact ⟨_, _, rep_int rd, rep_int re, P.fin A (of_int _)⟩
  · exact P.elim
/-- a text times an int: see HandS.. -/
def mulD (d e : D) (S : Store) : Res D := match d, e with
  | .int i, .int j => if CMul i j ∨ CMulW i j then .ok (.int (i * j)) S else .stuck
  | d, .int k => match exL S d with
    | some a => if -(2 ^ 63) ≤ k ∧ k < 2 ^ 63 ∧ a.length * k.toNat ≤ sizeLine then .ok (.lst (List.replicate k.toNat a).flatten) S else .stuck
    | none => .stuck
  | _, _ => .stuck
theorem Reps.flat {K : PySem.W.Frag} {w : Wd} {H : Hp} {ds : List D} {vs : List V} (r : Reps K w H ds vs) : ∀ k : Nat, Reps K w H (List.replicate k ds).flatten (List.replicate k vs).flatten
  | 0 => .nil
  | k + 1 => by
    simp only [List.replicate_succ, List.flatten_cons]
    exact r.append (Reps.flat r k)
theorem od_mul : OpD X W (binaryOp .Mult) mulD := by
  refine ⟨_, op_mul.or (op_mulW.or op_rep), fun w H S d e x y σ Q A rd re P => ?_⟩
  unfold mulD at P
  split at P
  · split at P
    · rename_i hz
      rcases hz with hz | hz
      · exact .inl ⟨_, _, rep_int rd, rep_int re, hz, P.fin A (of_int _)⟩
      · exact .inr (.inl ⟨_, _, rep_int rd, rep_int re, hz, P.fin A (of_int _)⟩)
    · exact P.elim
  · split at P
    · rename_i a ha
      split at P
      · rename_i hz
        obtain ⟨l, vs, rfl, f, r⟩ := exL_rep A ha rd
        exact .inr (.inr ⟨l, _, vs, rfl, rep_int re, f, hz.1, hz.2.1, by rw [← r.length]; exact hz.2.2, fun p hp => P w _ _ (Ex.new hp) (A.newF hp) (Rep.lstNew A hp (r.flat _))⟩)
      · exact P.elim
    · exact P.elim
  · exact P.elim
def fdivD (d e : D) (S : Store) : Res D := match d, e with
  | .int i, .int j => if CDivW i j then .ok (.int (i / j)) S else .stuck
  | _, _ => .stuck
theorem od_fdiv : OpD X W (binaryOp .FloorDiv) fdivD := by
  refine ⟨_, op_fdivW, fun w H S d e x y σ Q A rd re P => ?_⟩
  unfold fdivD at P
  split at P
  · split at P
    · rename_i hz
      exact ⟨_, _, rep_int rd, rep_int re, hz, P.fin A (of_int _)⟩
    · exact P.elim
  · exact P.elim
def modD (d e : D) (S : Store) : Res D := match d, e with
  | .int i, .int j => if 0 < j then .ok (.int (i % j)) S else .stuck
  | _, _ => .stuck
theorem od_mod : OpD X W (binaryOp .Mod) modD := by
  refine ⟨_, op_mod, fun w H S d e x y σ Q A rd re P => ?_⟩
  unfold modD at P
  split at P
  · split at P
    · rename_i hz
      exact ⟨_, _, rep_int rd, rep_int re, hz, P.fin A (of_int _)⟩
    · exact P.elim
  · exact P.elim
def CPowX (i j : Int) : Prop := 0 ≤ j ∧ (Builtin.Int.intBits i : Int) * j ≤ 2 ^ 27
instance {i j : Int} : Decidable (CPowX i j) := by unfold CPowX; infer_instance
theorem op_powX : OpR X (binaryOp .Pow) (rI CPowX fun i j => .int (i ^ j.toNat)) := opI fun _ _ _ _ _ _ _ hc q => PyProof.Rows.pow_int hc.1 hc.2 q
def powD (d e : D) (S : Store) : Res D := match d, e with
  | .int i, .int j => if CPowX i j then .ok (.int (i ^ j.toNat)) S else .stuck
  | _, _ => .stuck
theorem od_pow : OpD X W (binaryOp .Pow) powD := by
  refine ⟨_, op_powX, fun w H S d e x y σ Q A rd re P => ?_⟩
  unfold powD at P
  split at P
  · split at P
    · rename_i hz
      exact ⟨_, _, rep_int rd, rep_int re, hz, P.fin A (of_int _)⟩
    · exact P.elim
  · exact P.elim

/-! ### order -/
/-- the ints of a tuple -/
def intsOf : List D → Option (List Int)
  | [] => some []
  | .int i :: r => (intsOf r).map (i :: ·)
  | _ => none
theorem intsOf_rep {K : PySem.W.Frag} {w : Wd} {H : Hp} : ∀ {ds : List D} {ns : List Int} {vs : List V}, intsOf ds = some ns → Reps K w H ds vs → vs = ns.map V.int
  | [], ns, vs, h, r => by
    simp only [intsOf, Option.some.injEq] at h
    simp only [Reps] at r
    subst h r
    rfl
  | .int i :: ds, ns, vs, h, r => by
    simp only [intsOf, Option.map_eq_some_iff] at h
    obtain ⟨ms, h1, rfl⟩ := h
    simp only [Reps] at r
    obtain ⟨v, us, rfl, e, r⟩ := r
    rw [rep_int e, intsOf_rep h1 r]
    rfl
  | .non :: _, _, _, h, _ => by simp [intsOf] at h
  | .bl _ :: _, _, _, h, _ => by simp [intsOf] at h
  | .str _ :: _, _, _, h, _ => by simp [intsOf] at h
  | .tup _ :: _, _, _, h, _ => by simp [intsOf] at h
  | .ktp _ :: _, _, _, h, _ => by simp [intsOf] at h
  | .lst _ :: _, _, _, h, _ => by simp [intsOf] at h
  | .frz _ :: _, _, _, h, _ => by simp [intsOf] at h
  | .loc _ :: _, _, _, h, _ => by simp [intsOf] at h
  | .exn _ :: _, _, _, h, _ => by simp [intsOf] at h
  | .exf _ _ _ _ :: _, _, _, h, _ => by simp [intsOf] at h
  | .exk _ _ :: _, _, _, h, _ => by simp [intsOf] at h
def strsOf : List D → Option (List Str)
  | [] => some []
  | .str i :: r => (strsOf r).map (i :: ·)
  | _ => none
theorem strsOf_rep {K : PySem.W.Frag} {w : Wd} {H : Hp} : ∀ {ds : List D} {ns : List Str} {vs : List V}, strsOf ds = some ns → Reps K w H ds vs → vs = ns.map V.str
  | [], ns, vs, h, r => by
    simp only [strsOf, Option.some.injEq] at h
    simp only [Reps] at r
    subst h r
    rfl
  | .str i :: ds, ns, vs, h, r => by
    simp only [strsOf, Option.map_eq_some_iff] at h
    obtain ⟨ms, h1, rfl⟩ := h
    simp only [Reps] at r
    obtain ⟨v, us, rfl, e, r⟩ := r
    rw [rep_str e, strsOf_rep h1 r]
    rfl
  | .non :: _, _, _, h, _ => by simp [strsOf] at h
  | .bl _ :: _, _, _, h, _ => by simp [strsOf] at h
  | .int _ :: _, _, _, h, _ => by simp [strsOf] at h
  | .tup _ :: _, _, _, h, _ => by simp [strsOf] at h
  | .ktp _ :: _, _, _, h, _ => by simp [strsOf] at h
  | .lst _ :: _, _, _, h, _ => by simp [strsOf] at h
  | .frz _ :: _, _, _, h, _ => by simp [strsOf] at h
  | .loc _ :: _, _, _, h, _ => by simp [strsOf] at h
  | .exn _ :: _, _, _, h, _ => by simp [strsOf] at h
  | .exf _ _ _ _ :: _, _, _, h, _ => by simp [strsOf] at h
  | .exk _ _ :: _, _, _, h, _ => by simp [strsOf] at h
def ltD (d e : D) (S : Store) : Res D := match d, e with
  | .int i, .int j => .ok (.bl (decide (i < j))) S
  | .str i, .str j => .ok (.bl (decide (i.cps.toList < j.cps.toList))) S
  | .tup a, .tup b => match intsOf a, intsOf b with
    | some ns, some ms => .ok (.bl (HT.lexLt ns ms)) S
    | _, _ => .stuck
  | _, _ => .stuck
theorem od_lt (hu : X.A.units < cLine) : OpD X W (compareOp .Lt) ltD := by
  refine ⟨_, op_lt.or (op_lt_str.or (op_ltT hu)), fun w H S d e x y σ Q A rd re P => ?_⟩
  unfold ltD at P
  split at P
  · exact .inl ⟨_, _, rep_int rd, rep_int re, P.fin A (of_bl _)⟩
  · exact .inr (.inl ⟨_, _, rep_str rd, rep_str re, P.fin A (of_bl _)⟩)
  · split at P
    · rename_i ns ms h1 h2
      obtain ⟨a, vs, rfl, f, r⟩ := tup_rep rd
      obtain ⟨b, us, rfl, g, r'⟩ := tup_rep re
      exact .inr (.inr ⟨a, b, ns, ms, rfl, rfl, by rw [← intsOf_rep h1 r]; exact .of f, by rw [← intsOf_rep h2 r']; exact .of g, P.fin A (of_bl _)⟩)
    · exact P.elim
  · exact P.elim
def cmpI (p : Int → Int → Bool) (d e : D) (S : Store) : Res D := match d, e with
  | .int i, .int j => .ok (.bl (p i j)) S
  | _, _ => .stuck
theorem od_ge : OpD X W (compareOp .GtE) (cmpI fun i j => decide (j ≤ i)) := by
  refine ⟨_, op_ge, fun w H S d e x y σ Q A rd re P => ?_⟩
  unfold cmpI at P
  split at P
  · exact ⟨_, _, rep_int rd, rep_int re, P.fin A (of_bl _)⟩
  · exact P.elim

/-! ### equality of data -/
mutual
def toPy : D → Option PyData
  | .non => some .none
  | .bl b => some (.bool b)
  | .int i => some (.int i)
  | .str x => some (.str x)
  | .tup ds => (toPys ds).map .tuple
  | .lst ds => (toPys ds).map .list
  | .frz ds => (toPys ds).map .list
  | .ktp ds => (toPys ds).map .tuple
  | .loc _ => none
  | .exn _ => none
  | .exf _ _ _ _ => none
  | .exk _ _ => none
def toPys : List D → Option (List PyData)
  | [] => some []
  | d :: ds => match toPy d, toPys ds with
    | some p, some ps => some (p :: ps)
    | _, _ => none
end
section
variable {K : PySem.W.Frag} {mg : Str → Option Value} {w : Wd} {H : Hp} {S : Store}
mutual
theorem toPy_rep : ∀ {d : D} {p : PyData} {v : V}, toPy d = some p → Rep K w H d v → Dp K H v p
  | .non, p, v, h, r => by
    simp only [toPy, Option.some.injEq] at h; subst h; rw [rep_non r]; exact .non
  | .bl b, p, v, h, r => by
    simp only [toPy, Option.some.injEq] at h; subst h; rw [rep_bl r]; exact .bl b
  | .int b, p, v, h, r => by
    simp only [toPy, Option.some.injEq] at h; subst h; rw [rep_int r]; exact .int b
  | .str b, p, v, h, r => by
    simp only [toPy, Option.some.injEq] at h; subst h; rw [rep_str r]; exact .str b
  | .tup ds, p, v, h, r => by
    simp only [toPy, Option.map_eq_some_iff] at h
    obtain ⟨ps, h1, rfl⟩ := h
    simp only [Rep] at r
    obtain ⟨a, vs, rfl, f, r⟩ := r
    exact .tup f.sq (toPys_rep h1 r)
  | .lst ds, p, v, h, r => by
    simp only [toPy, Option.map_eq_some_iff] at h
    obtain ⟨ps, h1, rfl⟩ := h
    simp only [Rep] at r
    obtain ⟨a, vs, rfl, f, r⟩ := r
    exact .lst f.sq (toPys_rep h1 r)
  | .frz ds, p, v, h, r => by
    simp only [toPy, Option.map_eq_some_iff] at h
    obtain ⟨ps, h1, rfl⟩ := h
    simp only [Rep] at r
    obtain ⟨a, vs, rfl, f, r⟩ := r
    exact .lst f.sq (toPys_rep h1 r)
  | .ktp ds, p, v, h, r => by
    simp only [toPy, Option.map_eq_some_iff] at h
    obtain ⟨ps, h1, rfl⟩ := h
    simp only [Rep] at r
    obtain ⟨a, vs, rfl, f, r⟩ := r
    exact .tup (kp_sq f) (toPys_rep h1 r)
  | .loc l, p, v, h, r => by simp [toPy] at h
  | .exn _, p, v, h, r => by simp [toPy] at h
  | .exf _ _ _ _, p, v, h, r => by simp [toPy] at h
  | .exk _ _, p, v, h, r => by simp [toPy] at h
theorem toPys_rep : ∀ {ds : List D} {ps : List PyData} {vs : List V}, toPys ds = some ps → Reps K w H ds vs → DpAll K H vs ps
  | [], ps, vs, h, r => by
    simp only [toPys, Option.some.injEq] at h
    simp only [Reps] at r
    subst h r
    exact .nil
  | d :: ds, ps, vs, h, r => by
    simp only [toPys] at h
    split at h
    · rename_i p qs h1 h2
      cases h
      simp only [Reps] at r
      obtain ⟨v, us, rfl, e, r⟩ := r
      exact .cons (toPy_rep h1 e) (toPys_rep h2 r)
    · cases h
end
end
/-- a value as data; of mutable objects the lists alone -/
def pyS (S : Store) : D → Option PyData
  | .loc l => match S[l]? with
    | some (.lst ds) => (toPys ds).map .list
    | _ => none
  | d => toPy d
theorem pyS_rep {K : PySem.W.Frag} {mg : Str → Option Value} {w : Wd} {H : Hp} {S : Store} (A : Ab K w H mg S) {d : D} {p : PyData} {v : V} (h : pyS S d = some p) (r : Rep K w H d v) : Dp K H v p := by
  cases d with
  | loc l =>
    simp only [pyS] at h
    split at h
    · rename_i ds q
      simp only [Option.map_eq_some_iff] at h
      obtain ⟨ps, h1, rfl⟩ := h
      obtain ⟨a, vs, rfl, f, r'⟩ := exL_rep (ds := ds) A (by simp only [exL, q]) r
      exact .lst (.of f) (toPys_rep h1 r')
    · cases h
  | _ => exact toPy_rep (by simpa only [pyS] using h) r
def eqD (neg : Bool) (d e : D) (S : Store) : Res D := match pyS S d, pyS S e with
  | some p, some q => if SeqAt.shaped p = true ∧ SeqAt.shaped q = true then .ok (.bl (xor neg (PyData.eqv p q))) S else .stuck
  | _, _ => .stuck
theorem od_eq (hu : X.A.units + 64 < cLine) : OpD X W (compareOp .Eq) (eqD false) := by
  refine ⟨_, op_eqD hu, fun w H S d e x y σ Q A rd re P => ?_⟩
  unfold eqD at P
  split at P
  · rename_i p q h1 h2
    split at P
    · rename_i hs
      refine ⟨p, q, pyS_rep A h1 rd, pyS_rep A h2 re, hs.1, hs.2, ?_⟩
      rw [Bool.false_xor] at P
      exact P.fin A (of_bl _)
    · exact P.elim
  · exact P.elim
theorem od_ne (hu : X.A.units + 64 < cLine) : OpD X W (compareOp .NotEq) (eqD true) := by
  refine ⟨_, op_neD hu, fun w H S d e x y σ Q A rd re P => ?_⟩
  unfold eqD at P
  split at P
  · rename_i p q h1 h2
    split at P
    · rename_i hs
      refine ⟨p, q, pyS_rep A h1 rd, pyS_rep A h2 re, hs.1, hs.2, ?_⟩
      rw [Bool.true_xor] at P
      exact P.fin A (of_bl _)
    · exact P.elim
  · exact P.elim
def isND (neg : Bool) (d e : D) (S : Store) : Res D := match d, e with
  | .non, .non => .ok (.bl (!neg)) S
  | _, .non => .ok (.bl neg) S
  | _, _ => .stuck
end
end L3
namespace L3
open PySem PySem.Spec L2

section
variable {K : PySem.W.Frag} {mg : Str → Option Value} {w : Wd} {H : Hp} {S : Store}
theorem Reps.take : ∀ {ds : List D} {vs : List V} (n : Nat), Reps K w H ds vs → Reps K w H (ds.take n) (vs.take n)
  | _, _, 0, _ => by simpa using Reps.nil
  | [], _, n + 1, h => by simp only [Reps] at h; subst h; simpa using Reps.nil
  | d :: ds, _, n + 1, h => by
    simp only [Reps] at h
    obtain ⟨v, r, rfl, h1, h2⟩ := h
    exact .cons h1 (Reps.take n h2)
theorem Reps.drop : ∀ {ds : List D} {vs : List V} (n : Nat), Reps K w H ds vs → Reps K w H (ds.drop n) (vs.drop n)
  | _, _, 0, h => by simpa using h
  | [], _, n + 1, h => by simp only [Reps] at h; subst h; simpa using Reps.nil
  | d :: ds, _, n + 1, h => by
    simp only [Reps] at h
    obtain ⟨v, r, rfl, h1, h2⟩ := h
    exact Reps.drop n h2
theorem Reps.set {d : D} {v : V} (r : Rep K w H d v) : ∀ {ds : List D} {vs : List V} (n : Nat), Reps K w H ds vs → Reps K w H (ds.set n d) (vs.set n v)
  | [], _, n, h => by simp only [Reps] at h; subst h; simpa using Reps.nil
  | d :: ds, _, 0, h => by
    simp only [Reps] at h
    obtain ⟨v, us, rfl, h1, h2⟩ := h
    exact .cons r h2
  | d :: ds, _, n + 1, h => by
    simp only [Reps] at h
    obtain ⟨v, us, rfl, h1, h2⟩ := h
    exact .cons h1 (Reps.set r n h2)
theorem Reps.reverse : ∀ {ds : List D} {vs : List V}, Reps K w H ds vs → Reps K w H ds.reverse vs.reverse
  | [], _, h => by simp only [Reps] at h; subst h; simpa using Reps.nil
  | d :: ds, _, h => by
    simp only [Reps] at h
    obtain ⟨v, us, rfl, h1, h2⟩ := h
    rw [List.reverse_cons, List.reverse_cons]
    exact (Reps.reverse h2).append (.cons h1 .nil)
theorem Reps.eraseIdx : ∀ {ds : List D} {vs : List V} (n : Nat), Reps K w H ds vs → Reps K w H (ds.eraseIdx n) (vs.eraseIdx n)
  | [], _, n, h => by simp only [Reps] at h; subst h; simpa using Reps.nil
  | d :: ds, _, 0, h => by
    simp only [Reps] at h
    obtain ⟨v, us, rfl, h1, h2⟩ := h
    simpa using h2
  | d :: ds, _, n + 1, h => by
    simp only [Reps] at h
    obtain ⟨v, us, rfl, h1, h2⟩ := h
    simpa using Reps.cons h1 (Reps.eraseIdx n h2)
theorem Reps.dropLast {ds : List D} {vs : List V} (h : Reps K w H ds vs) : Reps K w H ds.dropLast vs.dropLast := by
  rw [List.dropLast_eq_take, List.dropLast_eq_take, h.length]
  exact h.take _
theorem Reps.at {ds : List D} {vs : List V} {i : Int} {d : D} (h : Reps K w H ds vs) (e : atI ds i = some d) : ∃ v, atI vs i = some v ∧ Rep K w H d v := by
  unfold atI at e ⊢
  rw [h.length] at e
  cases q : ixN vs.length i with
  | none => rw [q] at e; cases e
  | some j =>
    rw [q] at e
    exact h.get (i := j) e
end

/-! ### dicts -/
def keyOf : D → Option Key
  | .int i => some (.inl i)
  | .str x => some (.inr x)
  | _ => none
def keysOf : List D → Option (List Key)
  | [] => some []
  | d :: r => match keyOf d, keysOf r with
    | some k, some ks => some (k :: ks)
    | _, _ => none
def obK : Ob → Option (List (Key × D))
  | .dK kvs => some kvs
  | .lck (.dK kvs) => some kvs
  | _ => none
def obT : Ob → Option (List (List Key × D))
  | .dT kvs => some kvs
  | .lck (.dT kvs) => some kvs
  | _ => none
def lookK {κ : Type} [DecidableEq κ] (kvs : List (κ × D)) (k : κ) : Option D := (kvs.find? fun kv => decide (kv.1 = k)).map (·.2)
def dlook (S : Store) (d k : D) : Option (Option D) := match d with
  | .loc l => match S[l]? with
    | some o => match obK o, keyOf k with
      | some kvs, some key => some (lookK kvs key)
      | _, _ => match obT o, k with
        | some kvs, .tup ks => match keysOf ks with
          | some key => some (lookK kvs key)
          | none => none
        | _, _ => none
    | none => none
  | _ => none
section
variable {K : PySem.W.Frag} {mg : Str → Option Value} {w : Wd} {H : Hp} {S : Store}
theorem keyOf_rep {d : D} {k : Key} {v : V} (h : keyOf d = some k) (r : Rep K w H d v) : v = kV k := by
  cases d <;> simp only [keyOf, Option.some.injEq, reduceCtorEq] at h
  · subst h; exact rep_int r
  · subst h; exact rep_str r
theorem keysOf_rep : ∀ {ds : List D} {ks : List Key} {vs : List V}, keysOf ds = some ks → Reps K w H ds vs → vs = ks.map kV
  | [], ks, vs, h, r => by
    simp only [keysOf, Option.some.injEq] at h
    simp only [Reps] at r
    subst h r
    rfl
  | d :: ds, ks, vs, h, r => by
    simp only [keysOf] at h
    split at h
    · rename_i k ks' h1 h2
      cases h
      simp only [Reps] at r
      obtain ⟨v, us, rfl, e, r⟩ := r
      rw [keyOf_rep h1 e, keysOf_rep h2 r]
      rfl
    · cases h
theorem RKv.look {κ : Type} [DecidableEq κ] (k : κ) : ∀ {kvs : List (κ × D)} {vs : List (κ × V)}, RKv K w H kvs vs → RepO K w H (lookK kvs k) (valV vs k) ∧ (lookK kvs k = none → valV vs k = none)
  | [], _, h => by
    simp only [RKv] at h; subst h
    exact ⟨trivial, fun _ => rfl⟩
  | (j, d) :: kvs, _, h => by
    obtain ⟨v, r, rfl, h1, h2⟩ := h
    unfold lookK
    by_cases e : j = k
    · rw [valV_pos (p := (j, v)) e, List.find?_cons_of_pos (by simp [e])]
      exact ⟨h1, fun z => by cases z⟩
    · rw [valV_neg (p := (j, v)) e, List.find?_cons_of_neg (by simp [e])]
      exact RKv.look k h2
theorem RKv.length {κ : Type} : ∀ {kvs : List (κ × D)} {vs : List (κ × V)}, RKv K w H kvs vs → kvs.length = vs.length
  | [], _, h => by simp only [RKv] at h; subst h; rfl
  | (j, d) :: kvs, _, h => by
    obtain ⟨v, r, rfl, h1, h2⟩ := h
    simp [RKv.length h2]
theorem obK_rep {o : Ob} {u : HO} {kvs : List (Key × D)} (h : obK o = some kvs) (k : HoOk K w H mg o u) {a : Addr} (e : H a = some u) : ∃ vs, Rd H a (.dK vs) ∧ RKv K w H kvs vs := by
  unfold obK at h
  split at h
  · cases h
    obtain ⟨vs, rfl, r⟩ := k
    exact ⟨vs, .inl e, r⟩
  · cases h
    obtain ⟨od, u', rfl, k⟩ := k
    obtain ⟨vs, rfl, r⟩ := k
    exact ⟨vs, .inr ⟨od, e⟩, r⟩
  · cases h
theorem obT_rep {o : Ob} {u : HO} {kvs : List (List Key × D)} (h : obT o = some kvs) (k : HoOk K w H mg o u) {a : Addr} (e : H a = some u) : ∃ vs, Rd H a (.dT vs) ∧ RKv K w H kvs vs := by
  unfold obT at h
  split at h
  · cases h
    obtain ⟨vs, rfl, r⟩ := k
    exact ⟨vs, .inl e, r⟩
  · cases h
    obtain ⟨od, u', rfl, k⟩ := k
    obtain ⟨vs, rfl, r⟩ := k
    exact ⟨vs, .inr ⟨od, e⟩, r⟩
  · cases h
theorem dlook_rep {d k : D} {o : Option D} {x y : V} (A : Ab K w H mg S) (h : dlook S d k = some o) (rd : Rep K w H d x) (rk : Rep K w H k y) :
    ∃ a r, x = .ref a ∧ DGet H a y r ∧ RepO K w H o r ∧ (o = none → r = none) := by
  unfold dlook at h
  split at h
  · rename_i l
    simp only [Rep] at rd
    obtain ⟨a, el, rfl⟩ := rd
    split at h
    · rename_i ob q
      obtain ⟨u, eu, ko⟩ := A.ob l a ob el q
      split at h
      · rename_i kvs key h1 h2
        cases h
        obtain ⟨vs, hr, r⟩ := obK_rep h1 ko eu
        have := r.look key
        exact ⟨a, _, rfl, .inl ⟨vs, key, hr, keyOf_rep h2 rk, rfl⟩, this.1, this.2⟩
      · split at h
        · rename_i kvs ks h1 hno
          split at h
          · rename_i key h2
            cases h
            obtain ⟨vs, hr, r⟩ := obT_rep h1 ko eu
            obtain ⟨b, us, rfl, f, r'⟩ := tup_rep rk
            have := r.look key
            have e2 := keysOf_rep h2 r'
            subst e2
            exact ⟨a, _, rfl, .inr ⟨vs, key, b, hr, rfl, f, rfl⟩, this.1, this.2⟩
          · cases h
        · cases h
    · cases h
  · cases h
end

/-! ### subscripts -/
section
variable {X : Cx} {W : XW}
def rIxDct : R2 := fun x y H Q => ∃ a v, x = .ref a ∧ DGet H a y (some v) ∧ Q v H
theorem ix_dict (hu : X.A.units + 1 < cLine) : IxR X rIxDct := by
  intro value slice pins s σ H x y v u Q I rx ry h hs
  obtain ⟨a, z, rfl, g, q⟩ := h
  cases rx
  exact PyProof.Rows.tail_any (dict_typeIs I g) PySem.F.slot_dict_getitem.lookup (d_getItem hu I g ry fun w' s' I' r' => ⟨z, H, I', r', q⟩) hs
def seqOf (S : Store) (d : D) : Option (List D) := match rdL S d with
  | some ds => some ds
  | none => rdT d
def ixD (d i : D) (S : Store) : Res D := match d, i with
  | .str z, .int n => if z.length ≤ sizeLine then (match atI z.cps.toList n with
    | some c => .ok (.str ⟨#[c]⟩) S
    | none => .stuck) else .stuck
  | d, i => match seqOf S d with
    | some ds => match i with
      | .int n => match atI ds n with
        | some e => .ok e S
        | none => .stuck
      | _ => .stuck
    | none => match dlook S d i with
      | some (some e) => .ok e S
      | _ => .stuck
theorem od_ix (hu : X.A.units + 1 < cLine) : ∃ r, IxR X r ∧ Op2 X W r ixD := by
  refine ⟨_, ix_list.or (ix_tup.or (ix_str.or (ix_dict hu))), fun w H S d e x y σ Q A rd re P => ?_⟩
  unfold ixD at P
  split at P
  · split at P
    · rename_i hz
      split at P
      · rename_i c hc
        exact .inr (.inr (.inl ⟨_, _, c, rep_str rd, rep_int re, hz, hc, P.fin A (of_str _)⟩))
      · exact P.elim
    · exact P.elim
  · split at P
    · rename_i ds hd
      split at P
      · split at P
        · rename_i n d' hn
          unfold seqOf at hd
          split at hd
          · rename_i xs hx
            cases hd
            obtain ⟨a, vs, rfl, f, r⟩ := rdL_rep A hx rd
            obtain ⟨v, hv, rv⟩ := r.at hn
            exact .inl ⟨a, vs, _, v, rfl, rep_int re, f, hv, P.fin A rv⟩
          · obtain ⟨a, vs, rfl, f, r⟩ := rdT_rep hd rd
            obtain ⟨v, hv, rv⟩ := r.at hn
            exact .inr (.inl ⟨a, vs, _, v, rfl, rep_int re, f, hv, P.fin A rv⟩)
        · exact P.elim
      · exact P.elim
    · split at P
      · rename_i hl
        obtain ⟨a, r, rfl, g, ro, _⟩ := dlook_rep A hl rd re
        cases r with
        | none => exact ro.elim
        | some v => exact .inr (.inr (.inr ⟨a, v, rfl, g, P.fin A ro⟩))
      · exact P.elim
theorem pm_ix {a b : Expr} {pos : Pos} {ma mb : DSt → Store → Res D} (hu : X.A.units + 1 < cLine) (ha : PM X W a ma) (hb : PM X W b mb) (hs : PlainIx b) : PM X W (.Subscript a b pos) (m2 ma mb ixD) :=
  let ⟨_, h1, h2⟩ := od_ix hu
  PE.imp (pe_ix h1 ha hb hs) fun _ _ _ => tOf_two h2
/-- a slice's part -/
def PMO (X : Cx) (W : XW) (e : Option Expr) (m : DSt → Store → Res (Option Int)) : Prop := PO X e (fun σ H Q => ∃ w dσ S, Ab X.K w H X.mg S ∧ RSt X.K w H dσ σ ∧ Post X.K X.mg (fun _ _ (a b : Option Int) => a = b) W σ w H (m dσ S) Q)
def mNoPart (_ : DSt) (S : Store) : Res (Option Int) := .ok none S
def mPart (m : DSt → Store → Res D) (σ : DSt) (S : Store) : Res (Option Int) := (m σ S).bind fun d S1 => match d with
  | .int i => .ok (some i) S1
  | _ => .stuck
theorem PO.imp {e : Option Expr} {t t' : TO} (h : PO X e t) (k : ∀ σ H Q, t' σ H Q → t σ H Q) : PO X e t' := ⟨fun pins s σ H Q I q => h.run pins s σ H Q I (k σ H Q q)⟩
theorem pmo_none : PMO X W none mNoPart := PO.imp po_none fun σ H Q ⟨w, dσ, S, A, R, P⟩ => P.fin A rfl
theorem pmo_some {e : Expr} {m : DSt → Store → Res D} (h : PM X W e m) : PMO X W (some e) (mPart m) := PO.imp (po_some h) fun σ H Q ⟨w, dσ, S, A, R, P⟩ =>
  ⟨w, dσ, S, A, R, P.bind fun d S1 w1 H1 x e1 A1 r1 P1 => by
    cases d with
    | int i => exact ⟨i, rep_int r1, P1.fin A1 rfl⟩
    | _ => exact P1.elim⟩
def cut {α : Type} (xs : List α) (lo hi : Option Int) : List α := (xs.drop (HT.sIx xs.length 0 lo)).take (HT.sIx xs.length xs.length hi - HT.sIx xs.length 0 lo)
theorem Reps.cut {K : PySem.W.Frag} {w : Wd} {H : Hp} {ds : List D} {vs : List V} (h : Reps K w H ds vs) (lo hi : Option Int) : Reps K w H (L3.cut ds lo hi) (cutV vs lo hi) := by
  unfold L3.cut cutV
  rw [h.length]
  exact (h.drop _).take _
def sliceD (d : D) (lo hi : Option Int) (S : Store) : Res D := match d with
  | .str z => if z.length ≤ sizeLine then .ok (.str (cutS z lo hi)) S else .stuck
  | .tup ds => .ok (.tup (L3.cut ds lo hi)) S
  | .ktp ds => if HT.sIx ds.length 0 lo = 0 ∧ HT.sIx ds.length ds.length hi = ds.length then .ok (.ktp ds) S else .ok (.tup (L3.cut ds lo hi)) S
  | d => match rdL S d with
    | some ds => .ok (.lst (L3.cut ds lo hi)) S
    | none => .stuck
def mSl (m : DSt → Store → Res D) (ml mh : DSt → Store → Res (Option Int)) (σ : DSt) (S : Store) : Res D :=
  (m σ S).bind fun d S1 => (ml σ S1).bind fun lo S2 => (mh σ S2).bind fun hi S3 => sliceD d lo hi S3
theorem pm_slice {e : Expr} {lo hi : Option Expr} {p2 pos : Pos} {m : DSt → Store → Res D} {ml mh : DSt → Store → Res (Option Int)} (he : PM X W e m) (hl : PMO X W lo ml) (hh : PMO X W hi mh) :
    PM X W (.Subscript e (.Slice lo hi none p2) pos) (mSl m ml mh) := by
  refine PE.imp (pe_slice (sl_list.or (sl_tupA.or sl_str)) he hl hh) fun σ H Q ⟨w, dσ, S, A, R, P⟩ => ?_
  refine ⟨w, dσ, S, A, R, P.bind fun d S1 w1 H1 x e1 A1 r1 P1 => ⟨w1, dσ, S1, A1, R.mono e1, P1.bind fun lo' S2 w2 H2 l2 e2 A2 r2 P2 => ⟨w2, dσ, S2, A2, (R.mono e1).mono e2, P2.bind fun hi' S3 w3 H3 h3 e3 A3 r3 P3 => ?_⟩⟩⟩
  subst r2 r3
  have rd := (r1.mono e2).mono e3
  unfold sliceD at P3
  split at P3
  · split at P3
    · rename_i hz
      exact .inr (.inr ⟨_, rep_str rd, hz, P3.fin A3 (of_str _)⟩)
    · exact P3.elim
  · rename_i ds
    obtain ⟨a, vs, rfl, f, r⟩ := tup_rep rd
    refine .inr (.inl ⟨a, vs, rfl, .of f, fun z => ?_, fun _ p hp => P3 w3 _ _ (Ex.new hp) (A3.newF hp) (Rep.tupNew A3 hp (r.cut lo' hi'))⟩)
    have e : L3.cut ds lo' hi' = ds := by
      unfold L3.cut
      rw [← r.length] at z
      rw [z.1, z.2, List.drop_zero, Nat.sub_zero, List.take_length]
    rw [e] at P3
    exact P3.fin A3 rd
  · rename_i ds
    have rd' := rd
    simp only [Rep] at rd'
    obtain ⟨a, vs, rfl, f, r⟩ := rd'
    refine .inr (.inl ⟨a, vs, rfl, kp_sq f, fun z => ?_, fun z p hp => ?_⟩)
    · rw [r.length, if_pos z] at P3
      exact P3.fin A3 rd
    · rw [r.length, if_neg z] at P3
      exact P3 w3 _ _ (Ex.new hp) (A3.newF hp) (Rep.tupNew A3 hp (r.cut lo' hi'))
  · split at P3
    · rename_i ds hd
      obtain ⟨a, vs, rfl, f, r⟩ := rdL_rep A3 hd rd
      exact .inl ⟨a, vs, rfl, f, fun p hp => P3 w3 _ _ (Ex.new hp) (A3.newF hp) (Rep.lstNew A3 hp (r.cut lo' hi'))⟩
    · exact P3.elim
end
end L3
namespace L3
open PySem PySem.Spec L2

/-! ### argument lists, displays, and, or -/
section
variable {X : Cx} {W : XW}
def mNil (_ : DSt) (S : Store) : Res (List D) := .ok [] S
def mCons (m : DSt → Store → Res D) (ms : DSt → Store → Res (List D)) (σ : DSt) (S : Store) : Res (List D) := (m σ S).bind fun d S1 => (ms σ S1).bind fun ds S2 => .ok (d :: ds) S2
theorem pma_nil : PMA X W [] mNil := PA.imp pa_nil fun σ H Q ⟨w, dσ, S, A, R, P⟩ => P.fin A .nil
theorem pma_cons {e : Expr} {es : List Expr} {m : DSt → Store → Res D} {ms : DSt → Store → Res (List D)} (ha : PM X W e m) (hr : PMA X W es ms) (hs : starEach (e :: es) X.env = (false, eval e X.env) :: starEach es X.env := by rfl) : PMA X W (e :: es) (mCons m ms) :=
  PA.imp (pa_cons ha hr hs) fun σ H Q ⟨w, dσ, S, A, R, P⟩ => ⟨w, dσ, S, A, R, P.bind fun d S1 w1 H1 x e1 A1 r1 P1 => ⟨w1, dσ, S1, A1, R.mono e1, P1.bind fun ds S2 w2 H2 xs e2 A2 r2 P2 => P2.fin A2 (.cons (r1.mono e2) r2)⟩⟩
def mTup (ms : DSt → Store → Res (List D)) (σ : DSt) (S : Store) : Res D := (ms σ S).bind fun ds S1 => if ds.length ≤ sizeLine then .ok (.tup ds) S1 else .stuck
def mLst (ms : DSt → Store → Res (List D)) (σ : DSt) (S : Store) : Res D := (ms σ S).bind fun ds S1 => if ds.length ≤ sizeLine then .ok (.lst ds) S1 else .stuck
/-- a list that will be changed -/
def mLstM (ms : DSt → Store → Res (List D)) (σ : DSt) (S : Store) : Res D := (ms σ S).bind fun ds S1 => if ds.length ≤ sizeLine then .ok (.loc S1.length) (S1 ++ [.lst ds]) else .stuck
theorem pm_tup {es : List Expr} {x1} {pos : Pos} {ms : DSt → Store → Res (List D)} (h : PMA X W es ms) : PM X W (.Tuple es x1 pos) (mTup ms) :=
  PE.imp (pe_tup h) fun σ H Q ⟨w, dσ, S, A, R, P⟩ => ⟨w, dσ, S, A, R, P.bind fun ds S1 w1 H1 xs e1 A1 r1 P1 => by
    split at P1
    · rename_i hz
      exact ⟨by rw [← r1.length]; exact hz, fun p hp => P1 w1 _ _ (Ex.new hp) (A1.newF hp) (Rep.tupNew A1 hp r1)⟩
    · exact P1.elim⟩
theorem pm_lst {es : List Expr} {pos : Pos} {ms : DSt → Store → Res (List D)} (h : PMA X W es ms) : PM X W (.List es pos) (mLst ms) :=
  PE.imp (pe_lst h) fun σ H Q ⟨w, dσ, S, A, R, P⟩ => ⟨w, dσ, S, A, R, P.bind fun ds S1 w1 H1 xs e1 A1 r1 P1 => by
    split at P1
    · rename_i hz
      exact ⟨by rw [← r1.length]; exact hz, fun p hp => P1 w1 _ _ (Ex.new hp) (A1.newF hp) (Rep.lstNew A1 hp r1)⟩
    · exact P1.elim⟩
theorem newLst {K : PySem.W.Frag} {mg : Str → Option Value} {w : Wd} {H : Hp} {S : Store} {p : Addr} {ds : List D} {vs : List V} (A : Ab K w H mg S) (hp : H p = none) (r : Reps K w H ds vs) :
    Ab K ⟨w.M ++ [p], w.B⟩ (upd H p (.lst vs)) mg (S ++ [.lst ds]) := A.newM hp ⟨vs, rfl, r.mono (Ex.newM hp)⟩
theorem pm_lstM {es : List Expr} {pos : Pos} {ms : DSt → Store → Res (List D)} (h : PMA X W es ms) : PM X W (.List es pos) (mLstM ms) :=
  PE.imp (pe_lst h) fun σ H Q ⟨w, dσ, S, A, R, P⟩ => ⟨w, dσ, S, A, R, P.bind fun ds S1 w1 H1 xs e1 A1 r1 P1 => by
    split at P1
    · rename_i hz
      exact ⟨by rw [← r1.length]; exact hz, fun p hp => P1 _ _ _ (Ex.newM hp) (newLst A1 hp r1) (Rep.locNew A1)⟩
    · exact P1.elim⟩
def mAndT (a b : DSt → Store → Res Bool) (σ : DSt) (S : Store) : Res Bool := (a σ S).bind fun x S1 => if x = true then b σ S1 else .ok false S1
def mOrT (a b : DSt → Store → Res Bool) (σ : DSt) (S : Store) : Res Bool := (a σ S).bind fun x S1 => if x = true then .ok true S1 else b σ S1
abbrev PMW (X : Cx) (W : XW) (e : Expr) (m : DSt → Store → Res Bool) : Prop := PW X e (tOfT X.K X.mg W m)
theorem PW.imp {e : Expr} {t t' : TT} (h : PW X e t) (k : ∀ σ H Q, t' σ H Q → t σ H Q) : PW X e t' := ⟨fun wh pins s σ H Q I q => h.run wh pins s σ H Q I (k σ H Q q)⟩
theorem pmw_and1 {a : Expr} {pos : Pos} {m : DSt → Store → Res Bool} (h : PMT X W a m) : PMW X W (.BoolOp .And [a] pos) m := pw_and1 h
theorem pmw_or1 {a : Expr} {pos : Pos} {m : DSt → Store → Res Bool} (h : PMT X W a m) : PMW X W (.BoolOp .Or [a] pos) m := pw_or1 h
theorem pmw_and {a b : Expr} {rest : List Expr} {pos : Pos} {m n : DSt → Store → Res Bool} (h : PMT X W a m) (h2 : PMW X W (.BoolOp .And (b :: rest) pos) n) : PMW X W (.BoolOp .And (a :: b :: rest) pos) (mAndT m n) :=
  PW.imp (pw_and h h2) fun σ H Q ⟨w, dσ, S, A, R, P⟩ => ⟨w, dσ, S, A, R, P.bind fun d S1 w1 H1 x e1 A1 r1 P1 => by
    cases (show d = x from r1)
    split at P1
    · rename_i hd
      rw [if_pos hd]
      exact ⟨w1, dσ, S1, A1, R.mono e1, P1⟩
    · rename_i hd
      rw [if_neg hd]
      exact P1.fin A1 rfl⟩
theorem pmw_or {a b : Expr} {rest : List Expr} {pos : Pos} {m n : DSt → Store → Res Bool} (h : PMT X W a m) (h2 : PMW X W (.BoolOp .Or (b :: rest) pos) n) : PMW X W (.BoolOp .Or (a :: b :: rest) pos) (mOrT m n) :=
  PW.imp (pw_or h h2) fun σ H Q ⟨w, dσ, S, A, R, P⟩ => ⟨w, dσ, S, A, R, P.bind fun d S1 w1 H1 x e1 A1 r1 P1 => by
    cases (show d = x from r1)
    split at P1
    · rename_i hd
      rw [if_pos hd]
      exact P1.fin A1 rfl
    · rename_i hd
      rw [if_neg hd]
      exact ⟨w1, dσ, S1, A1, R.mono e1, P1⟩⟩
theorem PMW.pt {e : Expr} {m : DSt → Store → Res Bool} (h : PMW X W e m) : PMT X W e m := L2.PW.pt h
/-- and, or, not of truths, as values -/
def mAndV (a b : DSt → Store → Res D) (σ : DSt) (S : Store) : Res D := (a σ S).bind fun x S1 => match x with
  | .bl true => b σ S1
  | .bl false => .ok (.bl false) S1
  | _ => .stuck
def mOrV (a b : DSt → Store → Res D) (σ : DSt) (S : Store) : Res D := (a σ S).bind fun x S1 => match x with
  | .bl true => .ok (.bl true) S1
  | .bl false => b σ S1
  | _ => .stuck
def mNotV (a : DSt → Store → Res D) (σ : DSt) (S : Store) : Res D := (a σ S).bind fun x S1 => match x with
  | .bl k => .ok (.bl (!k)) S1
  | _ => .stuck
theorem pm_one {op} {a : Expr} {pos : Pos} {m : DSt → Store → Res D} (h : PM X W a m) : PM X W (.BoolOp op [a] pos) m := pe_one h
theorem pm_and {a b : Expr} {rest : List Expr} {pos : Pos} {m n : DSt → Store → Res D} (h : PM X W a m) (h2 : PM X W (.BoolOp .And (b :: rest) pos) n) : PM X W (.BoolOp .And (a :: b :: rest) pos) (mAndV m n) :=
  PE.imp (pe_and h h2) fun σ H Q ⟨w, dσ, S, A, R, P⟩ => ⟨w, dσ, S, A, R, P.bind fun d S1 w1 H1 x e1 A1 r1 P1 => by
    split at P1
    · exact ⟨true, rep_bl r1, by rw [if_pos rfl]; exact ⟨w1, dσ, S1, A1, R.mono e1, P1⟩⟩
    · exact ⟨false, rep_bl r1, by rw [if_neg Bool.false_ne_true]; exact P1.fin A1 (of_bl _)⟩
    · exact P1.elim⟩
theorem pm_or {a b : Expr} {rest : List Expr} {pos : Pos} {m n : DSt → Store → Res D} (h : PM X W a m) (h2 : PM X W (.BoolOp .Or (b :: rest) pos) n) : PM X W (.BoolOp .Or (a :: b :: rest) pos) (mOrV m n) :=
  PE.imp (pe_or h h2) fun σ H Q ⟨w, dσ, S, A, R, P⟩ => ⟨w, dσ, S, A, R, P.bind fun d S1 w1 H1 x e1 A1 r1 P1 => by
    split at P1
    · exact ⟨true, rep_bl r1, by rw [if_pos rfl]; exact P1.fin A1 (of_bl _)⟩
    · exact ⟨false, rep_bl r1, by rw [if_neg Bool.false_ne_true]; exact ⟨w1, dσ, S1, A1, R.mono e1, P1⟩⟩
    · exact P1.elim⟩
def mIf (c : DSt → Store → Res Bool) (a b : DSt → Store → Res D) (σ : DSt) (S : Store) : Res D := (c σ S).bind fun x S1 => if x = true then a σ S1 else b σ S1
theorem pm_ifExp {c a b : Expr} {pos : Pos} {mc : DSt → Store → Res Bool} {ma mb : DSt → Store → Res D} (hc : PMT X W c mc) (ha : PM X W a ma) (hb : PM X W b mb) : PM X W (.IfExp c a b pos) (mIf mc ma mb) :=
  PE.imp (pe_ifExp hc ha hb) fun σ H Q ⟨w, dσ, S, A, R, P⟩ => ⟨w, dσ, S, A, R, P.bind fun d S1 w1 H1 x e1 A1 r1 P1 => by
    cases (show d = x from r1)
    split at P1
    · rename_i hd
      rw [if_pos hd]
      exact ⟨w1, dσ, S1, A1, R.mono e1, P1⟩
    · rename_i hd
      rw [if_neg hd]
      exact ⟨w1, dσ, S1, A1, R.mono e1, P1⟩⟩
def mNeg (m : DSt → Store → Res D) (σ : DSt) (S : Store) : Res D := (m σ S).bind fun d S1 => match d with
  | .int i => .ok (.int (-i)) S1
  | _ => .stuck
end

/-! ### statements -/
inductive Fl where
  | nx (σ : DSt) | rt (d : D) | bk (σ : DSt) | ct (σ : DSt) | ex (c : Str) (fs : List (Str × D)) (σ : DSt)
def PostS (K : PySem.W.Frag) (mg : Str → Option Value) (W : XW) (w : Wd) (H : Hp) (r : Res Fl) (D : Ends) : Prop := match r with
  | .ok (.nx dσ) S => ∀ w' H' σ', Ex w H w' H' → Ab K w' H' mg S → RSt K w' H' dσ σ' → D.nx σ' H'
  | .ok (.bk dσ) S => ∀ w' H' σ', Ex w H w' H' → Ab K w' H' mg S → RSt K w' H' dσ σ' → D.bk σ' H'
  | .ok (.ct dσ) S => ∀ w' H' σ', Ex w H w' H' → Ab K w' H' mg S → RSt K w' H' dσ σ' → D.ct σ' H'
  | .ok (.rt d) S => ∀ w' H' v, Ex w H w' H' → Ab K w' H' mg S → Rep K w' H' d v → D.rt v H'
  | .ok (.ex c fs dσ) S => ∀ w' H' σ' C od, Ex w H w' H' → Ab K w' H' mg S → RSt K w' H' dσ σ' → mg c = some (.ref C) → XRel K w' H' fs od → W (.ref C) od σ' H'
  | _ => False
def liftE {α : Type} (r : Res α) (σ : DSt) (f : α → Store → Res Fl) : Res Fl := match r with
  | .ok a S => f a S
  | .exc c fs S => .ok (.ex c fs σ) S
  | .stuck => .stuck
@[simp] theorem liftE_ok {α : Type} (a : α) (S : Store) (σ : DSt) (f : α → Store → Res Fl) : liftE (.ok a S) σ f = f a S := (rfl)
@[simp] theorem liftE_exc {α : Type} (c : Str) (fs : List (Str × D)) (S : Store) (σ : DSt) (f : α → Store → Res Fl) : liftE (.exc c fs S) σ f = .ok (.ex c fs σ) S := (rfl)
@[simp] theorem liftE_stuck {α : Type} (σ : DSt) (f : α → Store → Res Fl) : liftE .stuck σ f = .stuck := (rfl)
def tOfS (K : PySem.W.Frag) (mg : Str → Option Value) (W : XW) (m : DSt → Store → Res Fl) : TS := fun D σ H => ∃ w dσ S, Ab K w H mg S ∧ RSt K w H dσ σ ∧ PostS K mg W w H (m dσ S) D
abbrev PMS (X : Cx) (W : XW) (s : Stmt) (m : DSt → Store → Res Fl) : Prop := PS X s (tOfS X.K X.mg W m)
abbrev PMSs (X : Cx) (W : XW) (s : List Stmt) (m : DSt → Store → Res Fl) : Prop := PSs X s (tOfS X.K X.mg W m)
section
variable {α β : Type} {K : PySem.W.Frag} {mg : Str → Option Value} {R : Wd → Hp → α → β → Prop} {W : XW} {σ : L2.St} {w w' : Wd} {H H' : Hp} {D : Ends}
theorem PostS.ex {r : Res Fl} (h : PostS K mg W w H r D) (e : Ex w H w' H') : PostS K mg W w' H' r D := by
  cases r with
  | ok a S => cases a with
    | nx d => exact fun w2 H2 v e2 => h w2 H2 v (e.trans e2)
    | bk d => exact fun w2 H2 v e2 => h w2 H2 v (e.trans e2)
    | ct d => exact fun w2 H2 v e2 => h w2 H2 v (e.trans e2)
    | rt d => exact fun w2 H2 v e2 => h w2 H2 v (e.trans e2)
    | ex c fs d => exact fun w2 H2 v C od e2 => h w2 H2 v C od (e.trans e2)
  | exc c fs S => exact h
  | stuck => exact h
theorem PostS.bindE {r : Res α} {dσ : DSt} {f : α → Store → Res Fl} {Q' : β → Hp → Prop} (h : PostS K mg W w H (liftE r dσ f) D) (q : RSt K w H dσ σ)
    (k : ∀ a S1 w1 H1 v, Ex w H w1 H1 → Ab K w1 H1 mg S1 → R w1 H1 a v → PostS K mg W w1 H1 (f a S1) D → Q' v H1) : Post K mg R W σ w H r Q' := by
  cases r with
  | ok a S => exact fun w2 H2 v e2 A2 r2 => k a S w2 H2 v e2 A2 r2 (PostS.ex h e2)
  | exc c fs S => exact fun w2 H2 C od e2 A2 g x => h w2 H2 σ C od e2 A2 (q.mono e2) g x
  | stuck => exact h
theorem PostS.nx {dσ : DSt} {S : Store} (h : PostS K mg W w H (.ok (.nx dσ) S) D) (A : Ab K w H mg S) (r : RSt K w H dσ σ) : D.nx σ H := h w H σ (Ex.refl _ _) A r
theorem RSt.set {dσ : DSt} {d : L3.D} {v : V} (h : RSt K w H dσ σ) (r : Rep K w H d v) (i : Nat) : RSt K w H (dσ.set i (some d)) (σ.set i (some v)) := by
  refine ⟨by simpa using h.1, fun j e hj => ?_⟩
  by_cases z : i = j
  · subst z
    by_cases hl : i < dσ.length
    · rw [List.getElem?_set_self hl] at hj
      cases hj
      exact ⟨v, by rw [List.getElem?_set_self (by rw [← h.1]; exact hl)], r⟩
    · rw [List.getElem?_eq_none (by simpa using hl)] at hj
      cases hj
  · rw [List.getElem?_set_ne z] at hj ⊢
    exact h.2 j e hj
end
def mSkip (σ : DSt) (S : Store) : Res Fl := .ok (.nx σ) S
def thenS (r : Res Fl) (f : DSt → Store → Res Fl) : Res Fl := match r with
  | .ok (.nx σ) S => f σ S
  | r => r
@[simp] theorem thenS_nx (σ : DSt) (S : Store) (f : DSt → Store → Res Fl) : thenS (.ok (.nx σ) S) f = f σ S := (rfl)
@[simp] theorem thenS_rt (d : D) (S : Store) (f : DSt → Store → Res Fl) : thenS (.ok (.rt d) S) f = .ok (.rt d) S := (rfl)
@[simp] theorem thenS_bk (d : DSt) (S : Store) (f : DSt → Store → Res Fl) : thenS (.ok (.bk d) S) f = .ok (.bk d) S := (rfl)
@[simp] theorem thenS_ct (d : DSt) (S : Store) (f : DSt → Store → Res Fl) : thenS (.ok (.ct d) S) f = .ok (.ct d) S := (rfl)
@[simp] theorem thenS_ex (c : Str) (fs : List (Str × D)) (d : DSt) (S : Store) (f : DSt → Store → Res Fl) : thenS (.ok (.ex c fs d) S) f = .ok (.ex c fs d) S := (rfl)
@[simp] theorem thenS_stuck (f : DSt → Store → Res Fl) : thenS .stuck f = .stuck := (rfl)
def mSeq (a b : DSt → Store → Res Fl) (σ : DSt) (S : Store) : Res Fl := thenS (a σ S) b
theorem PostS.seq {K : PySem.W.Frag} {mg : Str → Option Value} {W : XW} {w : Wd} {H : Hp} {D : Ends} {r : Res Fl} {f : DSt → Store → Res Fl} (h : PostS K mg W w H (thenS r f) D) : PostS K mg W w H r { D with nx := tOfS K mg W f D } := by
  cases r with
  | ok a S => cases a with
    | nx d => exact fun w2 H2 σ2 e2 A2 r2 => ⟨w2, d, S, A2, r2, PostS.ex h e2⟩
    | bk d => exact h
    | ct d => exact h
    | rt d => exact h
    | ex c fs d => exact h
  | exc c fs S => exact h
  | stuck => exact h
section
variable {X : Cx} {W : XW} {st : Stmt} {rest : List Stmt} {pos : Pos} {e : Expr} {m : DSt → Store → Res D}
theorem pms_nil : PMSs X W [] mSkip := PSs.imp pss_nil fun D σ H ⟨w, dσ, S, A, R, P⟩ => P.nx A R
theorem pms_cons {a b : DSt → Store → Res Fl} (h1 : PMS X W st a) (h2 : PMSs X W rest b) : PMSs X W (st :: rest) (mSeq a b) :=
  PSs.imp (pss_cons h1 h2) fun D σ H ⟨w, dσ, S, A, R, P⟩ => ⟨w, dσ, S, A, R, P.seq⟩
theorem pms_one {a : DSt → Store → Res Fl} (h1 : PMS X W st a) : PMSs X W [st] a := pss_one h1
def mDo (m : DSt → Store → Res D) (σ : DSt) (S : Store) : Res Fl := liftE (m σ S) σ fun _ S1 => .ok (.nx σ) S1
theorem pms_expr (he : PM X W e m) (hs : swapsWith e none pos.line X.env = pure false := by rfl) : PMS X W (.Expr e pos) (mDo m) :=
  PS.imp (ps_expr he hs) fun D σ H ⟨w, dσ, S, A, R, P⟩ => ⟨w, dσ, S, A, R, P.bindE R fun d S1 w1 H1 v e1 A1 r1 P1 => P1.nx A1 (R.mono e1)⟩
def mRet (m : DSt → Store → Res D) (σ : DSt) (S : Store) : Res Fl := liftE (m σ S) σ fun d S1 => .ok (.rt d) S1
theorem pms_ret (he : PM X W e m) : PMS X W (.Return (some e) pos) (mRet m) :=
  PS.imp (ps_ret he) fun D σ H ⟨w, dσ, S, A, R, P⟩ => ⟨w, dσ, S, A, R, P.bindE R fun d S1 w1 H1 v e1 A1 r1 P1 => P1 w1 H1 v (Ex.refl _ _) A1 r1⟩
def mIfS (c : DSt → Store → Res Bool) (a b : DSt → Store → Res Fl) (σ : DSt) (S : Store) : Res Fl := liftE (c σ S) σ fun x S1 => if x = true then a σ S1 else b σ S1
theorem pms_if {c : Expr} {a b : List Stmt} {mc : DSt → Store → Res Bool} {ma mb : DSt → Store → Res Fl} (hc : PMT X W c mc) (ha : PMSs X W a ma) (hb : PMSs X W b mb) : PMS X W (.If c a b pos) (mIfS mc ma mb) :=
  PS.imp (ps_if hc ha hb) fun D σ H ⟨w, dσ, S, A, R, P⟩ => ⟨w, dσ, S, A, R, P.bindE R fun d S1 w1 H1 v e1 A1 r1 P1 => by
    cases (show d = v from r1)
    split at P1
    · rename_i hd
      rw [if_pos hd]
      exact ⟨w1, dσ, S1, A1, R.mono e1, P1⟩
    · rename_i hd
      rw [if_neg hd]
      exact ⟨w1, dσ, S1, A1, R.mono e1, P1⟩⟩
def mSet (i : Nat) (m : DSt → Store → Res D) (σ : DSt) (S : Store) : Res Fl := liftE (m σ S) σ fun d S1 => .ok (.nx (σ.set i (some d))) S1
theorem pms_set {i : Nat} {x : Str} {pos' : Pos} (hN : X.N.Nodup) (hi : X.N[i]? = some x) (hx : Loc X.env.scope x) (he : PM X W e m) (hs : swapsWith e (some (.Name x pos')) pos.line X.env = pure false := by rfl)
    (hf : X.fn x = true ∨ X.env.scope.names.lookup x = some .local := by first | exact .inl rfl | exact .inr rfl | assumption) : PMS X W (.Assign [.Name x pos'] e pos) (mSet i m) :=
  PS.imp (ps_set hN hi hx he hs hf) fun D σ H ⟨w, dσ, S, A, R, P⟩ => ⟨w, dσ, S, A, R, P.bindE R fun d S1 w1 H1 v e1 A1 r1 P1 => P1.nx A1 ((R.mono e1).set r1 i)⟩
end
end L3
namespace L3
open PySem PySem.Spec L2

/-! ### targets -/
def bindG {α β : Type} (r : Res α) (f : α → Store → Res β) : Res β := match r with
  | .ok a S => f a S
  | _ => .stuck
@[simp] theorem bindG_ok {α β : Type} (a : α) (S : Store) (f : α → Store → Res β) : bindG (.ok a S) f = f a S := (rfl)
@[simp] theorem bindG_stuck {α β : Type} (f : α → Store → Res β) : bindG (.stuck : Res α) f = .stuck := (rfl)
def PostG (K : PySem.W.Frag) (mg : Str → Option Value) (w : Wd) (H : Hp) (r : Res DSt) (Q : L2.St → Hp → Prop) : Prop := match r with
  | .ok dσ S => ∀ w' H' σ', Ex w H w' H' → Ab K w' H' mg S → RSt K w' H' dσ σ' → Q σ' H'
  | _ => False
def PostU (K : PySem.W.Frag) (mg : Str → Option Value) (w : Wd) (H : Hp) (r : Res Unit) (Q : Hp → Prop) : Prop := match r with
  | .ok _ S => ∀ w' H', Ex w H w' H' → Ab K w' H' mg S → Q H'
  | _ => False
section
variable {α β : Type} {K : PySem.W.Frag} {mg : Str → Option Value} {R : Wd → Hp → α → β → Prop} {W : XW} {σ : L2.St} {w w' : Wd} {H H' : Hp}
theorem PostG.ex {r : Res DSt} {Q : L2.St → Hp → Prop} (h : PostG K mg w H r Q) (e : Ex w H w' H') : PostG K mg w' H' r Q := by
  cases r with
  | ok a S => exact fun w2 H2 v e2 => h w2 H2 v (e.trans e2)
  | exc c fs S => exact h
  | stuck => exact h
theorem PostG.bind {r : Res α} {f : α → Store → Res DSt} {Q : L2.St → Hp → Prop} {Q' : β → Hp → Prop} (h : PostG K mg w H (bindG r f) Q)
    (k : ∀ a S1 w1 H1 v, Ex w H w1 H1 → Ab K w1 H1 mg S1 → R w1 H1 a v → PostG K mg w1 H1 (f a S1) Q → Q' v H1) : Post K mg R W σ w H r Q' := by
  cases r with
  | ok a S => exact fun w2 H2 v e2 A2 r2 => k a S w2 H2 v e2 A2 r2 (PostG.ex h e2)
  | exc c fs S => exact h.elim
  | stuck => exact h
theorem PostG.bindG {r : Res DSt} {f : DSt → Store → Res DSt} {Q Q' : L2.St → Hp → Prop} (h : PostG K mg w H (bindG r f) Q)
    (k : ∀ dσ S1 w1 H1 v, Ex w H w1 H1 → Ab K w1 H1 mg S1 → RSt K w1 H1 dσ v → PostG K mg w1 H1 (f dσ S1) Q → Q' v H1) : PostG K mg w H r Q' := by
  cases r with
  | ok a S => exact fun w2 H2 v e2 A2 r2 => k a S w2 H2 v e2 A2 r2 (PostG.ex h e2)
  | exc c fs S => exact h.elim
  | stuck => exact h
theorem PostG.bindU {r : Res Unit} {f : Unit → Store → Res DSt} {Q : L2.St → Hp → Prop} {Q' : Hp → Prop} (h : PostG K mg w H (L3.bindG r f) Q)
    (k : ∀ S1 w1 H1, Ex w H w1 H1 → Ab K w1 H1 mg S1 → PostG K mg w1 H1 (f () S1) Q → Q' H1) : PostU K mg w H r Q' := by
  cases r with
  | ok a S => exact fun w2 H2 e2 A2 => k S w2 H2 e2 A2 (PostG.ex h e2)
  | exc c fs S => exact h.elim
  | stuck => exact h
theorem PostG.fin {dσ : DSt} {S : Store} {Q : L2.St → Hp → Prop} (h : PostG K mg w H (.ok dσ S) Q) (A : Ab K w H mg S) (r : RSt K w H dσ σ) : Q σ H := h w H σ (Ex.refl _ _) A r
end
def tOfG (K : PySem.W.Frag) (mg : Str → Option Value) (m : D → DSt → Store → Res DSt) : TG := fun v σ H Q => ∃ w dσ S d, Ab K w H mg S ∧ RSt K w H dσ σ ∧ Rep K w H d v ∧ PostG K mg w H (m d dσ S) Q
def tOfGs (K : PySem.W.Frag) (mg : Str → Option Value) (m : List D → DSt → Store → Res DSt) : TGs := fun v σ H Q => ∃ w dσ S d, Ab K w H mg S ∧ RSt K w H dσ σ ∧ Reps K w H d v ∧ PostG K mg w H (m d dσ S) Q
abbrev PMG (X : Cx) (e : Expr) (m : D → DSt → Store → Res DSt) : Prop := PG X e (tOfG X.K X.mg m)
abbrev PMGs (X : Cx) (e : List Expr) (m : List D → DSt → Store → Res DSt) : Prop := PGs X e (tOfGs X.K X.mg m)
section
variable {X : Cx} {W : XW} {pos : Pos}
theorem PG.imp {e : Expr} {t t' : TG} (h : PG X e t) (k : ∀ v σ H Q, t' v σ H Q → t v σ H Q) : PG X e t' := ⟨fun pins s σ H v u Q I r q => h.run pins s σ H v u Q I r (k v σ H Q q)⟩
theorem PGs.imp {e : List Expr} {t t' : TGs} (h : PGs X e t) (k : ∀ v σ H Q, t' v σ H Q → t v σ H Q) : PGs X e t' := ⟨fun pins s σ H v u Q I r q => h.run pins s σ H v u Q I r (k v σ H Q q)⟩
def gtName (i : Nat) (d : D) (σ : DSt) (S : Store) : Res DSt := .ok (σ.set i (some d)) S
theorem pmg_name {i : Nat} {x : Str} (hN : X.N.Nodup) (hi : X.N[i]? = some x) (hx : Loc X.env.scope x) (hf : X.fn x = true ∨ X.env.scope.names.lookup x = some .local := by first | exact .inl rfl | exact .inr rfl | assumption) : PMG X (.Name x pos) (gtName i) :=
  PG.imp (pg_name hN hi hx hf) fun v σ H Q ⟨w, dσ, S, d, A, R, r, P⟩ => P.fin A (R.set r i)
def gtNil (ds : List D) (σ : DSt) (S : Store) : Res DSt := match ds with
  | [] => .ok σ S
  | _ => .stuck
def gtCons (f : D → DSt → Store → Res DSt) (g : List D → DSt → Store → Res DSt) (ds : List D) (σ : DSt) (S : Store) : Res DSt := match ds with
  | d :: r => bindG (f d σ S) fun σ1 S1 => g r σ1 S1
  | [] => .stuck
theorem pmgs_nil : PMGs X [] gtNil := PGs.imp pgs_nil fun v σ H Q ⟨w, dσ, S, d, A, R, r, P⟩ => by
  cases d with
  | nil => simp only [Reps] at r; exact ⟨r, P.fin A R⟩
  | cons d ds => exact P.elim
theorem pmgs_cons {e : Expr} {es : List Expr} {f : D → DSt → Store → Res DSt} {g : List D → DSt → Store → Res DSt} (h1 : PMG X e f) (h2 : PMGs X es g)
    (hs : (assignEach (e :: es) X.env).map (·.2) = assign e X.env :: (assignEach es X.env).map (·.2) := by rfl) : PMGs X (e :: es) (gtCons f g) :=
  PGs.imp (pgs_cons h1 h2 hs) fun v σ H Q ⟨w, dσ, S, d, A, R, r, P⟩ => by
    cases d with
    | nil => exact P.elim
    | cons d ds =>
      simp only [Reps] at r
      obtain ⟨v', r', rfl, r1, r2⟩ := r
      exact ⟨v', r', rfl, w, dσ, S, d, A, R, r1, PostG.bindG P fun dσ1 S1 w1 H1 σ1 e1 A1 R1 P1 => ⟨w1, dσ1, S1, ds, A1, R1, r2.mono e1, P1⟩⟩
def gtTup (n : Nat) (g : List D → DSt → Store → Res DSt) (d : D) (σ : DSt) (S : Store) : Res DSt := match rdT d with
  | some ds => if ds.length = n then g ds σ S else .stuck
  | none => .stuck
theorem pmg_tup {es : List Expr} {k : Nat} {g : List D → DSt → Store → Res DSt} {n : Nat} (hc : X.calm = true) (h : PMGs X es g)
    (hn : (assignEach es X.env).length = n := by rfl) (hst : (assignEach es X.env).findIdx? (·.1) = none := by rfl) : PMG X (.Tuple es k pos) (gtTup n g) :=
  PG.imp (pg_tup hc h hn hst) fun v σ H Q ⟨w, dσ, S, d, A, R, r, P⟩ => by
    unfold gtTup at P
    split at P
    · rename_i ds hd
      split at P
      · rename_i hl
        obtain ⟨a, vs, rfl, f, r'⟩ := rdT_rep hd r
        exact ⟨a, vs, rfl, f, by rw [← r'.length]; exact hl, w, dσ, S, ds, A, R, r', P⟩
      · exact P.elim
    · exact P.elim
/-- stores by values -/
def OpSet (X : Cx) (f : D → D → D → Store → Res Unit) : Prop := ∃ t, PSet X t ∧ ∀ w H S o i v vo vi vv Q, Ab X.K w H X.mg S → Rep X.K w H o vo → Rep X.K w H i vi → Rep X.K w H v vv → PostU X.K X.mg w H (f o i v S) Q → t vo vi vv H Q
theorem PSet.or {t t' : TSet} (h : PSet X t) (h' : PSet X t') : PSet X (fun o i v H Q => t o i v H Q ∨ t' o i v H Q) := by
  intro pins s σ H o i v ov iv u Q I r1 r2 r3 q
  rcases q with q | q
  · exact h pins s σ H o i v ov iv u Q I r1 r2 r3 q
  · exact h' pins s σ H o i v ov iv u Q I r1 r2 r3 q
theorem set_dict (hu : X.A.units + 1 < cLine) : PSet X (fun o i v H Q => ∃ a H4, o = .ref a ∧ DPut H a i v H4 ∧ Q H4) := by
  intro pins s σ H o i v ov iv u Q I r1 r2 r3 ⟨a, H4, e, g, q⟩
  subst e
  obtain rfl : ov = Value.ref a := r1
  exact d_setItem hu I g r2 r3 fun s' I' => ⟨H4, I', q⟩
def putD {κ : Type} [DecidableEq κ] (kvs : List (κ × D)) (k : κ) (v : D) : List (κ × D) := if (kvs.any fun kv => decide (kv.1 = k)) = true then kvs.map (fun kv => if kv.1 = k then (kv.1, v) else kv) else kvs ++ [(k, v)]
theorem RKv.any {κ : Type} [DecidableEq κ] (k : κ) {K : PySem.W.Frag} {w : Wd} {H : Hp} : ∀ {kvs : List (κ × D)} {vs : List (κ × V)}, RKv K w H kvs vs → (kvs.any fun kv => decide (kv.1 = k)) = vs.any fun kv => decide (kv.1 = k)
  | [], _, h => by simp only [RKv] at h; subst h; rfl
  | (j, d) :: kvs, _, h => by
    obtain ⟨v, r, rfl, h1, h2⟩ := h
    simp only [List.any_cons, RKv.any k h2]
theorem RKv.repl {κ : Type} [DecidableEq κ] (k : κ) {K : PySem.W.Frag} {w : Wd} {H : Hp} {d : D} {v : V} (r : Rep K w H d v) : ∀ {kvs : List (κ × D)} {vs : List (κ × V)}, RKv K w H kvs vs →
    RKv K w H (kvs.map fun kv => if kv.1 = k then (kv.1, d) else kv) (vs.map fun kv => if kv.1 = k then (kv.1, v) else kv)
  | [], _, h => by simp only [RKv] at h; subst h; rfl
  | (j, d') :: kvs, _, h => by
    obtain ⟨v', us, rfl, h1, h2⟩ := h
    simp only [List.map_cons]
    by_cases e : j = k
    · rw [if_pos e, if_pos e]
      exact ⟨_, _, rfl, r, RKv.repl k r h2⟩
    · rw [if_neg e, if_neg e]
      exact ⟨_, _, rfl, h1, RKv.repl k r h2⟩
theorem RKv.snoc {κ : Type} (k : κ) {K : PySem.W.Frag} {w : Wd} {H : Hp} {d : D} {v : V} (r : Rep K w H d v) : ∀ {kvs : List (κ × D)} {vs : List (κ × V)}, RKv K w H kvs vs → RKv K w H (kvs ++ [(k, d)]) (vs ++ [(k, v)])
  | [], _, h => by simp only [RKv] at h; subst h; exact ⟨_, _, rfl, r, rfl⟩
  | (j, d') :: kvs, _, h => by
    obtain ⟨v', us, rfl, h1, h2⟩ := h
    exact ⟨_, _, rfl, h1, RKv.snoc k r h2⟩
theorem RKv.put {κ : Type} [DecidableEq κ] (k : κ) {K : PySem.W.Frag} {w : Wd} {H : Hp} {d : D} {v : V} (r : Rep K w H d v) {kvs : List (κ × D)} {vs : List (κ × V)} (h : RKv K w H kvs vs) : RKv K w H (putD kvs k d) (putK vs k v) := by
  have e : putK vs k v = if (vs.any fun kv => decide (kv.1 = k)) = true then vs.map (fun kv => if kv.1 = k then (kv.1, v) else kv) else vs ++ [(k, v)] := rfl
  rw [e]
  unfold putD
  rw [RKv.any k h]
  split
  · exact RKv.repl k r h
  · exact RKv.snoc k r h
def setD (o i v : D) (S : Store) : Res Unit := match o with
  | .loc l => match S[l]? with
    | some (.lst ds) => match i with
      | .int k => match ixN ds.length k with
        | some j => .ok () (S.set l (.lst (ds.set j v)))
        | none => .stuck
      | _ => .stuck
    | some (.dK kvs) => match keyOf i with
      | some k => if kvs.length < sizeLine then .ok () (S.set l (.dK (putD kvs k v))) else .stuck
      | none => .stuck
    | some (.dT kvs) => match i with
      | .tup ks => match keysOf ks with
        | some k => if kvs.length < sizeLine then .ok () (S.set l (.dT (putD kvs k v))) else .stuck
        | none => .stuck
      | _ => .stuck
    | _ => .stuck
  | _ => .stuck
theorem os_set (hu : X.A.units + 1 < cLine) : OpSet X setD := by
  refine ⟨_, PSet.or set_list (set_dict hu), fun w H S o i v vo vi vv Q A ro ri rv P => ?_⟩
  unfold setD at P
  split at P
  · rename_i l
    simp only [Rep] at ro
    obtain ⟨a, el, rfl⟩ := ro
    have hmem : a ∈ w.M := List.mem_of_getElem? el
    split at P
    · rename_i ds q
      obtain ⟨u, eu, vs, rfl, r⟩ := A.ob l a _ el q
      split at P
      · split at P
        · rename_i k _ j hj
          exact .inl ⟨a, vs, k, j, rfl, rep_int ri, eu, by rw [← r.length]; exact hj, P w _ (Ex.wr hmem (nz_lst eu)) (A.wr el (nz_lst eu) ⟨_, rfl, r.set rv j⟩)⟩
        · exact P.elim
      · exact P.elim
    · rename_i kvs q
      obtain ⟨u, eu, vs, rfl, r⟩ := A.ob l a _ el q
      split at P
      · rename_i k hk
        split at P
        · rename_i hz
          refine .inr ⟨a, _, rfl, .inl ⟨vs, k, eu, keyOf_rep hk ri, by rw [← r.length]; exact hz, rfl⟩, P w _ (Ex.wr hmem (nz_dK eu)) (A.wr el (nz_dK eu) ⟨_, rfl, r.put k rv⟩)⟩
        · exact P.elim
      · exact P.elim
    · rename_i kvs q
      obtain ⟨u, eu, vs, rfl, r⟩ := A.ob l a _ el q
      split at P
      · split at P
        · rename_i ks _ k hk
          split at P
          · rename_i hz
            obtain ⟨b, us, rfl, f, r'⟩ := tup_rep ri
            have e2 := keysOf_rep hk r'
            subst e2
            refine .inr ⟨a, _, rfl, .inr ⟨vs, k, b, eu, rfl, f, by rw [← r.length]; exact hz, rfl⟩, P w _ (Ex.wr hmem (nz_dT eu)) (A.wr el (nz_dT eu) ⟨_, rfl, r.put k rv⟩)⟩
          · exact P.elim
        · exact P.elim
      · exact P.elim
    · exact P.elim
  · exact P.elim
def gtSub (mo mi : DSt → Store → Res D) (f : D → D → D → Store → Res Unit) (d : D) (σ : DSt) (S : Store) : Res DSt :=
  bindG (mo σ S) fun o S1 => bindG (mi σ S1) fun i S2 => bindG (f o i d S2) fun _ S3 => .ok σ S3
theorem pmg_sub {o i : Expr} {mo mi : DSt → Store → Res D} {f : D → D → D → Store → Res Unit} (ho : PM X W o mo) (hi : PM X W i mi) (hs : OpSet X f)
    (ha : ∀ v, assign (.Subscript o i pos) X.env v = (do
      let ov ← holding [v] (eval o X.env)
      let iv ← holding [v, ov] (eval i X.env)
      standAt pos
      holding [v, ov, iv] (setItem ov iv v)
      release [v, ov, iv] []) := by intro _; rfl) : PMG X (.Subscript o i pos) (gtSub mo mi f) := by
  obtain ⟨t, h1, h2⟩ := hs
  refine PG.imp (pg_sub ho hi h1 ha) fun v σ H Q ⟨w, dσ, S, d, A, R, r, P⟩ => ?_
  refine ⟨w, dσ, S, A, R, PostG.bind P fun od S1 w1 H1 x e1 A1 r1 P1 => ⟨w1, dσ, S1, A1, R.mono e1, PostG.bind P1 fun id S2 w2 H2 y e2 A2 r2 P2 => ?_⟩⟩
  refine h2 w2 H2 S2 od id d x y v _ A2 (r1.mono e2) r2 ((r.mono e1).mono e2) (PostG.bindU P2 fun S3 w3 H3 e3 A3 P3 => ?_)
  exact P3.fin A3 (((R.mono e1).mono e2).mono e3)
/-- target = value -/
def mAsg (m : DSt → Store → Res D) (g : D → DSt → Store → Res DSt) (σ : DSt) (S : Store) : Res Fl := liftE (m σ S) σ fun d S1 => bindG (g d σ S1) fun σ2 S2 => .ok (.nx σ2) S2
theorem PostS.bindG {K : PySem.W.Frag} {mg : Str → Option Value} {W : XW} {w : Wd} {H : Hp} {D : Ends} {r : Res DSt} {f : DSt → Store → Res Fl} {Q' : L2.St → Hp → Prop} (h : PostS K mg W w H (L3.bindG r f) D)
    (k : ∀ dσ S1 w1 H1 v, Ex w H w1 H1 → Ab K w1 H1 mg S1 → RSt K w1 H1 dσ v → PostS K mg W w1 H1 (f dσ S1) D → Q' v H1) : PostG K mg w H r Q' := by
  cases r with
  | ok a S => exact fun w2 H2 v e2 A2 r2 => k a S w2 H2 v e2 A2 r2 (PostS.ex h e2)
  | exc c fs S => exact h.elim
  | stuck => exact h
theorem pms_asg {tg e : Expr} {m : DSt → Store → Res D} {g : D → DSt → Store → Res DSt} (he : PM X W e m) (hg : PMG X tg g) (hs : swapsWithSole [tg] e pos.line X.env = pure false := by rfl) (hw : swappedStores [tg] e X.env = pure none := by rfl)
    (h1 : (assignEach [tg] X.env).map (·.2) = [assign tg X.env] := by rfl) : PMS X W (.Assign [tg] e pos) (mAsg m g) :=
  PS.imp (ps_asg he hg hs hw h1) fun D σ H ⟨w, dσ, S, A, R, P⟩ => ⟨w, dσ, S, A, R, P.bindE R fun d S1 w1 H1 v e1 A1 r1 P1 =>
    ⟨w1, dσ, S1, d, A1, R.mono e1, r1, PostS.bindG P1 fun dσ2 S2 w2 H2 σ2 e2 A2 R2 P2 => P2.nx A2 R2⟩⟩
/-- a, b = x, y -/
def mPar (i j : Nat) (ms : DSt → Store → Res (List D)) (σ : DSt) (S : Store) : Res Fl := liftE (ms σ S) σ fun ds S1 => match ds with
  | [a, b] => .ok (.nx ((σ.set i (some a)).set j (some b))) S1
  | _ => .stuck
theorem pms_par {i j : Nat} {x y : Str} {a b : Expr} {ms : DSt → Store → Res (List D)} {px py pt : Pos} {kt k2 pt2} (hc : X.calm = true) (hN : X.N.Nodup) (hi : X.N[i]? = some x) (hj : X.N[j]? = some y) (hij : i ≠ j)
    (hx : X.env.scope.names.lookup x = some .local) (hy : X.env.scope.names.lookup y = some .local) (ha : PMA X W [a, b] ms)
    (hw : swappedStores [.Tuple [.Name x px, .Name y py] kt pt] (.Tuple [a, b] k2 pt2) X.env = pure (some [x, y]))
    (hs : swapsWithSole [.Tuple [.Name x px, .Name y py] kt pt] (.Tuple [a, b] k2 pt2) pos.line X.env = pure false := by rfl) :
    PMS X W (.Assign [.Tuple [.Name x px, .Name y py] kt pt] (.Tuple [a, b] k2 pt2) pos) (mPar i j ms) :=
  PS.imp (ps_par hc hN hi hj hij hx hy ha hw hs) fun D σ H ⟨w, dσ, S, A, R, P⟩ => ⟨w, dσ, S, A, R, P.bindE R fun ds S1 w1 H1 vs e1 A1 r1 P1 => by
    split at P1
    · simp only [Reps] at r1
      obtain ⟨v1, u1, rfl, q1, v2, u2, rfl, q2, rfl⟩ := r1
      exact ⟨v1, v2, rfl, P1.nx A1 (((R.mono e1).set q1 i).set q2 j)⟩
    · exact P1.elim⟩
end

/-! ### while -/
/-- n turns at most -/
def whileN (c : DSt → Store → Res Bool) (b : DSt → Store → Res Fl) : Nat → DSt → Store → Option (Res Fl)
  | 0, _, _ => none
  | n + 1, σ, S => match c σ S with
    | .ok true S1 => match b σ S1 with
      | .ok (.nx σ2) S2 => whileN c b n σ2 S2
      | .ok (.ct σ2) S2 => whileN c b n σ2 S2
      | .ok (.bk σ2) S2 => some (.ok (.nx σ2) S2)
      | r => some r
    | .ok false S1 => some (.ok (.nx σ) S1)
    | .exc k fs S1 => some (.ok (.ex k fs σ) S1)
    | .stuck => some .stuck
open Classical in
noncomputable def mWhile (c : DSt → Store → Res Bool) (b : DSt → Store → Res Fl) (σ : DSt) (S : Store) : Res Fl :=
  if h : ∃ n r, whileN c b n σ S = some r then Classical.choose (Classical.choose_spec h) else .stuck
theorem whileN_mono {c : DSt → Store → Res Bool} {b : DSt → Store → Res Fl} : ∀ {n m : Nat} {σ : DSt} {S : Store} {r : Res Fl}, n ≤ m → whileN c b n σ S = some r → whileN c b m σ S = some r
  | 0, _, _, _, _, _, h => by simp [whileN] at h
  | n + 1, 0, _, _, _, h, _ => by omega
  | n + 1, m + 1, σ, S, r, hm, h => by
    simp only [whileN] at h ⊢
    split at h
    · split at h
      · exact whileN_mono (by omega) h
      · exact whileN_mono (by omega) h
      · exact h
      · exact h
    · exact h
    · exact h
    · exact h
theorem mWhile_of {c : DSt → Store → Res Bool} {b : DSt → Store → Res Fl} {n : Nat} {σ : DSt} {S : Store} {r : Res Fl} (h : whileN c b n σ S = some r) : mWhile c b σ S = r := by
  unfold mWhile
  have hx : ∃ n r, whileN c b n σ S = some r := ⟨n, r, h⟩
  rw [dif_pos hx]
  have h2 := Classical.choose_spec (Classical.choose_spec hx)
  generalize Classical.choose (Classical.choose_spec hx) = r' at h2
  generalize Classical.choose hx = n' at h2
  rcases Nat.le_total n n' with z | z
  · rw [whileN_mono z h] at h2
    exact (Option.some.inj h2).symm
  · rw [whileN_mono z h2] at h
    exact Option.some.inj h
section
variable {X : Cx} {W : XW} {pos : Pos}
theorem pms_while {c : Expr} {body : List Stmt} {mc : DSt → Store → Res Bool} {mb : DSt → Store → Res Fl} (hp : PassesOwn (model X.prog X.w) X.A X.env X.xe) (hc : PMT X W c mc) (hb : PMSs X W body mb) : PMS X W (.While c body [] pos) (mWhile mc mb) := by
  refine PS.imp (ps_while hp hc hb) fun D σ H ⟨w, dσ, S, A, R, P⟩ => ?_
  by_cases hx : ∃ n r, whileN mc mb n dσ S = some r
  · obtain ⟨n, r, hn⟩ := hx
    rw [mWhile_of hn] at P
    refine ⟨fun n σ H => ∃ w dσ S r, Ab X.K w H X.mg S ∧ RSt X.K w H dσ σ ∧ whileN mc mb n dσ S = some r ∧ PostS X.K X.mg W w H r D, ⟨n, w, dσ, S, r, A, R, hn, P⟩, ?_⟩
    rintro n σ H ⟨w, dσ, S, r, A, R, hn, P⟩
    cases n with
    | zero => simp [whileN] at hn
    | succ n =>
      refine ⟨w, dσ, S, A, R, ?_⟩
      simp only [whileN] at hn
      split at hn
      · rename_i S1 hc1
        rw [hc1]
        refine fun w1 H1 b e1 A1 hb1 => ?_
        cases (show true = b from hb1)
        rw [if_pos rfl]
        refine ⟨fun σ' H' => ∃ w dσ S r, Ab X.K w H' X.mg S ∧ RSt X.K w H' dσ σ' ∧ whileN mc mb n dσ S = some r ∧ PostS X.K X.mg W w H' r D, fun σ' H' h => ⟨n, by omega, h⟩, w1, dσ, S1, A1, R.mono e1, ?_⟩
        have P1 := P.ex e1
        split at hn
        · rename_i σ2 S2 hb2
          rw [hb2]
          exact fun w2 H2 σ2' e2 A2 R2 => ⟨w2, _, _, r, A2, R2, hn, P1.ex e2⟩
        · rename_i σ2 S2 hb2
          rw [hb2]
          exact fun w2 H2 σ2' e2 A2 R2 => ⟨w2, _, _, r, A2, R2, hn, P1.ex e2⟩
        · rename_i σ2 S2 hb2
          rw [hb2]
          cases hn
          exact P1
        · rename_i hn1 hn2 hn3
          have hr := Option.some.inj hn
          cases hq : mb dσ S1 with
          | ok fl S2 => cases fl with
            | nx σ2 => exact absurd hq (hn1 _ _)
            | ct σ2 => exact absurd hq (hn2 _ _)
            | bk σ2 => exact absurd hq (hn3 _ _)
            | rt d => rw [hq] at hr; subst hr; exact P1
            | ex k fs d => rw [hq] at hr; subst hr; exact P1
          | exc k fs S2 => rw [hq] at hr; subst hr; exact P1.elim
          | stuck => rw [hq] at hr; subst hr; exact P1.elim
      · rename_i S1 hc1
        rw [hc1]
        refine fun w1 H1 b e1 A1 hb1 => ?_
        cases (show false = b from hb1)
        rw [if_neg Bool.false_ne_true]
        cases hn
        exact (P.ex e1).nx A1 (R.mono e1)
      · rename_i k fs S1 hc1
        rw [hc1]
        cases hn
        exact fun w1 H1 C od e1 A1 g x => P w1 H1 σ C od e1 A1 (R.mono e1) g x
      · rename_i hc1
        cases hn
        exact P.elim
  · unfold mWhile at P
    rw [dif_neg hx] at P
    exact P.elim
end
end L3
namespace L3
open PySem PySem.Spec L2
open Classical

/-! ### what is walked -/
structure Src where
  items : List D
  guard : List (Nat × Ob)
def gOk (g : List (Nat × Ob)) (S : Store) : Prop := ∀ p ∈ g, S[p.1]? = some p.2
@[simp] theorem gOk_nil (S : Store) : gOk [] S = True := by simp [gOk]
@[simp] theorem gOk_cons (p : Nat × Ob) (g : List (Nat × Ob)) (S : Store) : gOk (p :: g) S = (S[p.1]? = some p.2 ∧ gOk g S) := by simp [gOk]
/-- later, maybe within a list that is being made -/
structure ExJ (w : Wd) (H : Hp) (w' : Wd) (H' : Hp) : Prop where
  pre : ∃ t, w'.M = w.M ++ t
  bn : ∀ b ∈ w'.B, b ∈ w.B ∨ H b = none
  keep : ∀ a u, H a = some u → a ∉ w.M → a ∉ w.B → H' a = some u ∧ a ∉ w'.M
  fz : ∀ a od u, H a = some (.frz od u) → H' a = some (.frz od u)
theorem Ex.j {w w' : Wd} {H H' : Hp} (e : Ex w H w' H') : ExJ w H w' H' := ⟨e.pre, fun b hb => .inl (by rw [← e.bk]; exact hb), fun a u h n _ => e.keep a u h n, e.fz⟩
section
variable {K : PySem.W.Frag} {mg : Str → Option Value} {w w' : Wd} {H H' : Hp} {S : Store}
theorem ExJ.get (e : ExJ w H w' H') {l : Nat} {a : Addr} (h : w.M[l]? = some a) : w'.M[l]? = some a := by
  obtain ⟨t, ht⟩ := e.pre
  rw [ht]
  obtain ⟨h1, h2⟩ := List.getElem?_eq_some_iff.mp h
  rw [List.getElem?_append_left h1]; exact h
theorem ExJ.at (e : ExJ w H w' H') {a : Addr} {u : HO} (n : a ∉ w.M) (b : a ∉ w.B) (h : H a = some u) : a ∉ w'.M ∧ a ∉ w'.B ∧ H' a = some u := by
  obtain ⟨h1, n1⟩ := e.keep a u h n b
  refine ⟨n1, fun z => ?_, h1⟩
  rcases e.bn a z with z | z
  · exact b z
  · rw [h] at z; cases z
theorem ExJ.rd (e : ExJ w H w' H') {a : Addr} {u : HO} (n : a ∉ w.M) (b : a ∉ w.B) (h : Rd H a u) : a ∉ w'.M ∧ a ∉ w'.B ∧ Rd H' a u := by
  rcases h with h | ⟨o, h⟩
  · obtain ⟨x, y, z⟩ := e.at n b h
    exact ⟨x, y, .inl z⟩
  · obtain ⟨x, y, z⟩ := e.at n b h
    exact ⟨x, y, .inr ⟨o, z⟩⟩
theorem Rep.monoJ (e : ExJ w H w' H') {d : D} {v : V} (h : Rep K w H d v) : Rep K w' H' d v :=
  h.gen (fun _ _ ⟨n, b, f⟩ => e.at n b f) (fun _ _ f => f.elim (fun ⟨n, b, f⟩ => .inl (e.rd n b f)) .inr) (fun _ _ ⟨n, b, f⟩ => e.at n b f) (fun _ _ f => f.by fun a u f n b => e.at n b f) (fun _ _ ⟨n, b, f⟩ => e.at n b f) fun _ _ => e.get
theorem Reps.monoJ (e : ExJ w H w' H') {d : List D} {v : List V} (h : Reps K w H d v) : Reps K w' H' d v :=
  h.gen (fun _ _ ⟨n, b, f⟩ => e.at n b f) (fun _ _ f => f.elim (fun ⟨n, b, f⟩ => .inl (e.rd n b f)) .inr) (fun _ _ ⟨n, b, f⟩ => e.at n b f) (fun _ _ f => f.by fun a u f n b => e.at n b f) (fun _ _ ⟨n, b, f⟩ => e.at n b f) fun _ _ => e.get
theorem RSt.monoJ (e : ExJ w H w' H') {ds : DSt} {vs : L2.St} (h : RSt K w H ds vs) : RSt K w' H' ds vs := h.gen fun _ _ r => r.monoJ e
theorem HoOk.monoJ (e : ExJ w H w' H') {o : Ob} {u : HO} (h : HoOk K w H mg o u) : HoOk K w' H' mg o u := h.gen (fun _ _ r => r.monoJ e) fun _ _ r => r.monoJ e
end
def JOk (K : PySem.W.Frag) (mg : Str → Option Value) (w : Wd) (H : Hp) (J : It) (src : Src) : Prop := ∀ w' H' S i, ExJ w H w' H' → Ab K w' H' mg S → gOk src.guard S →
  (∀ d, src.items[i]? = some d → J.go i H' ∧ ∀ x H2, J.yld i H' x H2 → ∃ w2, Ex w' H' w2 H2 ∧ Ab K w2 H2 mg S ∧ Rep K w2 H2 d x) ∧ (src.items.length ≤ i → J.stop i H')
def RI (K : PySem.W.Frag) (mg : Str → Option Value) (w : Wd) (H : Hp) (src : Src) (J : It) : Prop := JOk K mg w H J src ∧ src.items.length ≤ sizeLine
def tOfI (K : PySem.W.Frag) (mg : Str → Option Value) (W : XW) (m : DSt → Store → Res Src) : TI := fun σ H R => ∃ w dσ S, Ab K w H mg S ∧ RSt K w H dσ σ ∧ Post K mg (RI K mg) W σ w H (m dσ S) R
abbrev PMI (X : Cx) (W : XW) (tg e : Expr) (m : DSt → Store → Res Src) : Prop := PI X tg e (tOfI X.K X.mg W m)

/-! ### for -/
noncomputable def forGo (gd : List (Nat × Ob)) (g : D → DSt → Store → Res DSt) (b : DSt → Store → Res Fl) : List D → DSt → Store → Res Fl
  | [], σ, S => if gOk gd S then .ok (.nx σ) S else .stuck
  | d :: ds, σ, S => if gOk gd S then bindG (g d σ S) fun σ1 S1 => match b σ1 S1 with
    | .ok (.nx σ2) S2 => forGo gd g b ds σ2 S2
    | .ok (.ct σ2) S2 => forGo gd g b ds σ2 S2
    | .ok (.bk σ2) S2 => .ok (.nx σ2) S2
    | r => r
    else .stuck
noncomputable def mFor (mi : DSt → Store → Res Src) (g : D → DSt → Store → Res DSt) (b : DSt → Store → Res Fl) (σ : DSt) (S : Store) : Res Fl := liftE (mi σ S) σ fun src S1 => forGo src.guard g b src.items σ S1
section
variable {X : Cx} {W : XW} {pos : Pos}
theorem pms_for {tg iter : Expr} {body : List Stmt} {mi : DSt → Store → Res Src} {g : D → DSt → Store → Res DSt} {mb : DSt → Store → Res Fl} (hp : PassesOwn (model X.prog X.w) X.A X.env X.xe) (hc : X.calm = true) (hi : PMI X W tg iter mi) (hg : PMG X tg g) (hb : PMSs X W body mb)
    (hs : ∀ x, foldedSetIterable iter X.env x = pure x := by intro _; rfl) : PMS X W (.For tg iter body [] pos) (mFor mi g mb) := by
  refine PS.imp (ps_for hp hc hi hg hb hs) fun D σ H ⟨w, dσ, S, A, R, P⟩ => ⟨w, dσ, S, A, R, P.bindE R fun src S1 w1 H1 J e1 A1 rj P1 => ?_⟩
  obtain ⟨hJ, _⟩ := rj
  refine ⟨fun i m σ H => m = src.items.length - i ∧ i ≤ src.items.length ∧ ∃ w dσ S, Ex w1 H1 w H ∧ Ab X.K w H X.mg S ∧ RSt X.K w H dσ σ ∧ PostS X.K X.mg W w H (forGo src.guard g mb (src.items.drop i) dσ S) D,
    ⟨_, rfl, Nat.zero_le _, w1, dσ, S1, Ex.refl _ _, A1, R.mono e1, P1⟩, ?_⟩
  rintro i m σ H ⟨rfl, hi, w, dσ, S, ex, A, R, P⟩
  by_cases hlt : i < src.items.length
  · rw [List.drop_eq_getElem_cons hlt] at P
    simp only [forGo] at P
    split at P
    · rename_i hgd
      obtain ⟨go, yl⟩ := (hJ w H S i ex.j A hgd).1 src.items[i] (List.getElem?_eq_getElem hlt)
      refine .inr ⟨go, fun σ' H' => ∃ w dσ S, Ex w1 H1 w H' ∧ Ab X.K w H' X.mg S ∧ RSt X.K w H' dσ σ' ∧ PostS X.K X.mg W w H' (forGo src.guard g mb (src.items.drop (i + 1)) dσ S) D,
        fun σ' H' h => ⟨src.items.length - (i + 1), by omega, rfl, hlt, h⟩, fun x H' y => ?_⟩
      obtain ⟨w2, e2, A2, r2⟩ := yl x H' y
      have P2 := P.ex e2
      refine ⟨w2, dσ, S, src.items[i], A2, R.mono e2, r2, PostS.bindG P2 fun dσ3 S3 w3 H3 σ3 e3 A3 R3 P3 => ?_⟩
      refine ⟨w3, dσ3, S3, A3, R3, ?_⟩
      cases hq : mb dσ3 S3 with
      | ok fl S4 => cases fl with
        | nx σ4 => rw [hq] at P3; exact fun w5 H5 σ5 e5 A5 R5 => ⟨w5, σ4, S4, ((ex.trans e2).trans e3).trans e5, A5, R5, P3.ex e5⟩
        | ct σ4 => rw [hq] at P3; exact fun w5 H5 σ5 e5 A5 R5 => ⟨w5, σ4, S4, ((ex.trans e2).trans e3).trans e5, A5, R5, P3.ex e5⟩
        | bk σ4 => rw [hq] at P3; exact P3
        | rt d => rw [hq] at P3; exact P3
        | ex k fs d => rw [hq] at P3; exact P3
      | exc k fs S4 => rw [hq] at P3; exact P3.elim
      | stuck => rw [hq] at P3; exact P3.elim
    · exact P.elim
  · have e : i = src.items.length := by omega
    subst e
    rw [List.drop_length] at P
    simp only [forGo] at P
    split at P
    · rename_i hgd
      exact .inl ⟨(hJ w H S _ ex.j A hgd).2 (Nat.le_refl _), P.nx A R⟩
    · exact P.elim
end

/-! ### targets that store names alone -/
def FrS (σ σ' : L2.St) (is : List Nat) : Prop := σ'.length = σ.length ∧ ∀ j, j ∉ is → σ'[j]? = σ[j]?
theorem FrS.refl (σ : L2.St) : FrS σ σ [] := ⟨rfl, fun _ _ => rfl⟩
theorem FrS.trans {σ σ1 σ2 : L2.St} {is js : List Nat} (a : FrS σ σ1 is) (b : FrS σ1 σ2 js) : FrS σ σ2 (is ++ js) :=
  ⟨b.1.trans a.1, fun j hj => by
    simp only [List.mem_append, not_or] at hj
    exact (b.2 j hj.2).trans (a.2 j hj.1)⟩
def PostX (K : PySem.W.Frag) (mg : Str → Option Value) (is : List Nat) (σ : L2.St) (w : Wd) (H : Hp) (r : Res DSt) (Q : L2.St → Hp → Prop) : Prop := match r with
  | .ok dσ S => ∀ w' H' σ', Ex w H w' H' → Ab K w' H' mg S → RSt K w' H' dσ σ' → FrS σ σ' is → Q σ' H'
  | _ => False
def tOfX (K : PySem.W.Frag) (mg : Str → Option Value) (is : List Nat) (m : D → DSt → Store → Res DSt) : TG := fun v σ H Q => ∃ w dσ S d, Ab K w H mg S ∧ RSt K w H dσ σ ∧ Rep K w H d v ∧ PostX K mg is σ w H (m d dσ S) Q
def tOfXs (K : PySem.W.Frag) (mg : Str → Option Value) (is : List Nat) (m : List D → DSt → Store → Res DSt) : TGs := fun v σ H Q => ∃ w dσ S d, Ab K w H mg S ∧ RSt K w H dσ σ ∧ Reps K w H d v ∧ PostX K mg is σ w H (m d dσ S) Q
abbrev PMX (X : Cx) (is : List Nat) (e : Expr) (m : D → DSt → Store → Res DSt) : Prop := PG X e (tOfX X.K X.mg is m)
abbrev PMXs (X : Cx) (is : List Nat) (e : List Expr) (m : List D → DSt → Store → Res DSt) : Prop := PGs X e (tOfXs X.K X.mg is m)
section
variable {X : Cx} {pos : Pos}
theorem pmx_name {i : Nat} {x : Str} (hN : X.N.Nodup) (hi : X.N[i]? = some x) (hx : Loc X.env.scope x) (hf : X.fn x = true ∨ X.env.scope.names.lookup x = some .local := by first | exact .inl rfl | exact .inr rfl | assumption) : PMX X [i] (.Name x pos) (gtName i) :=
  PG.imp (pg_name hN hi hx hf) fun v σ H Q ⟨w, dσ, S, d, A, R, r, P⟩ => P w H _ (Ex.refl _ _) A (R.set r i) ⟨by simp, fun j hj => by
    simp only [List.mem_singleton] at hj
    rw [List.getElem?_set_ne (Ne.symm hj)]⟩
theorem pmxs_nil : PMXs X [] [] gtNil := PGs.imp pgs_nil fun v σ H Q ⟨w, dσ, S, d, A, R, r, P⟩ => by
  cases d with
  | nil => simp only [Reps] at r; exact ⟨r, P w H σ (Ex.refl _ _) A R (FrS.refl σ)⟩
  | cons d ds => exact P.elim
theorem pmxs_cons {e : Expr} {es : List Expr} {is js : List Nat} {f : D → DSt → Store → Res DSt} {g : List D → DSt → Store → Res DSt} (h1 : PMX X is e f) (h2 : PMXs X js es g)
    (hs : (assignEach (e :: es) X.env).map (·.2) = assign e X.env :: (assignEach es X.env).map (·.2) := by rfl) : PMXs X (is ++ js) (e :: es) (gtCons f g) :=
  PGs.imp (pgs_cons h1 h2 hs) fun v σ H Q ⟨w, dσ, S, d, A, R, r, P⟩ => by
    cases d with
    | nil => exact P.elim
    | cons d ds =>
      simp only [Reps] at r
      obtain ⟨v', r', rfl, r1, r2⟩ := r
      refine ⟨v', r', rfl, w, dσ, S, d, A, R, r1, ?_⟩
      simp only [gtCons] at P
      cases hq : f d dσ S with
      | ok dσ1 S1 =>
        rw [hq] at P
        refine fun w1 H1 σ1 e1 A1 R1 F1 => ⟨w1, dσ1, S1, ds, A1, R1, r2.mono e1, ?_⟩
        simp only [bindG_ok] at P
        cases hq2 : g ds dσ1 S1 with
        | ok dσ2 S2 =>
          rw [hq2] at P
          exact fun w2 H2 σ2 e2 A2 R2 F2 => P w2 H2 σ2 (e1.trans e2) A2 R2 (F1.trans F2)
        | exc _ _ _ => rw [hq2] at P; exact P.elim
        | stuck => rw [hq2] at P; exact P.elim
      | exc _ _ _ => rw [hq] at P; exact P.elim
      | stuck => rw [hq] at P; exact P.elim
theorem pmx_tup {es : List Expr} {k : Nat} {is : List Nat} {g : List D → DSt → Store → Res DSt} {n : Nat} (hc : X.calm = true) (h : PMXs X is es g)
    (hn : (assignEach es X.env).length = n := by rfl) (hst : (assignEach es X.env).findIdx? (·.1) = none := by rfl) : PMX X is (.Tuple es k pos) (gtTup n g) :=
  PG.imp (pg_tup hc h hn hst) fun v σ H Q ⟨w, dσ, S, d, A, R, r, P⟩ => by
    unfold gtTup at P
    split at P
    · rename_i ds hd
      split at P
      · rename_i hl
        obtain ⟨a, vs, rfl, f, r'⟩ := rdT_rep hd r
        exact ⟨a, vs, rfl, f, by rw [← r'.length]; exact hl, w, dσ, S, ds, A, R, r', P⟩
      · exact P.elim
    · exact P.elim
end

/-! ### list comprehensions -/
/-- the slots of the block's own names -/
def dwipe (σ : DSt) : List Nat → DSt
  | [] => σ
  | v :: vs => (dwipe σ vs).set v none
theorem dwipe_rep {K : PySem.W.Frag} {w : Wd} {H : Hp} {dσ : DSt} {σ : L2.St} (R : RSt K w H dσ σ) : ∀ vs : List Nat, RSt K w H (dwipe dσ vs) (wipe σ vs)
  | [] => R
  | v :: vs => by
    have ih := dwipe_rep R vs
    unfold dwipe wipe
    refine ⟨by simpa using ih.1, fun j d hj => ?_⟩
    by_cases z : v = j
    · subst z
      by_cases hl : v < (dwipe dσ vs).length
      · rw [List.getElem?_set_self hl] at hj; cases hj
      · rw [List.getElem?_eq_none (by simpa using hl)] at hj; cases hj
    · rw [List.getElem?_set_ne z] at hj ⊢
      exact ih.2 j d hj
theorem wipe_len (σ : L2.St) (vs : List Nat) : (wipe σ vs).length = σ.length := wipe_length σ vs
theorem wipe_get (σ : L2.St) : ∀ (vs : List Nat) (j : Nat), (wipe σ vs)[j]? = if j ∈ vs ∧ j < σ.length then some none else σ[j]?
  | [], j => by simp [wipe]
  | v :: vs, j => by
    unfold wipe
    have ih := wipe_get σ vs j
    by_cases z : v = j
    · subst z
      by_cases hl : v < σ.length
      · rw [List.getElem?_set_self (by rw [wipe_len]; exact hl), if_pos ⟨List.mem_cons_self, hl⟩]
      · rw [List.getElem?_eq_none (by rw [List.length_set, wipe_len]; omega), if_neg (fun q => hl q.2), List.getElem?_eq_none (by omega)]
    · rw [List.getElem?_set_ne z, ih]
      have : (j ∈ v :: vs) ↔ j ∈ vs := by
        constructor
        · intro h
          rcases List.mem_cons.mp h with e | h
          · exact absurd e.symm z
          · exact h
        · exact List.mem_cons_of_mem _
      simp only [this]
theorem wipe_fr {σ σ2 : L2.St} {vs is : List Nat} (h : FrS (wipe σ vs) σ2 is) (hs : ∀ i ∈ is, i ∈ vs) : wipe σ2 vs = wipe σ vs := by
  have hlen : σ2.length = σ.length := by rw [h.1, wipe_len]
  refine List.ext_getElem? fun j => ?_
  rw [wipe_get, wipe_get, hlen]
  by_cases c : j ∈ vs ∧ j < σ.length
  · rw [if_pos c, if_pos c]
  · rw [if_neg c, if_neg c]
    by_cases hj : j ∈ vs
    · have : ¬ j < σ.length := fun z => c ⟨hj, z⟩
      rw [List.getElem?_eq_none (by omega), List.getElem?_eq_none (by omega)]
    · rw [h.2 j (fun z => hj (hs j z)), wipe_get, if_neg c]
abbrev W0 : XW := fun _ _ _ _ => False
noncomputable def lcGo (gd : List (Nat × Ob)) (g : D → DSt → Store → Res DSt) (t : DSt → Store → Res Bool) (e : DSt → Store → Res D) (σ : DSt) : List D → Store → Res (List D)
  | [], S => if gOk gd S then .ok [] S else .stuck
  | d :: ds, S => if gOk gd S then bindG (g d σ S) fun σ1 S1 => bindG (t σ1 S1) fun k S2 =>
      if k = true then bindG (e σ1 S2) fun y S3 => bindG (lcGo gd g t e σ ds S3) fun ys S4 => .ok (y :: ys) S4
      else lcGo gd g t e σ ds S2
    else .stuck
noncomputable def mLc (mi : DSt → Store → Res Src) (g : D → DSt → Store → Res DSt) (t : DSt → Store → Res Bool) (e : DSt → Store → Res D) (vs : List Nat) (σ : DSt) (S : Store) : Res D :=
  (mi σ S).bind fun src S1 => bindG (lcGo src.guard g t e (dwipe σ vs) src.items S1) fun ys S2 => .ok (.lst ys) S2
/-- the list will be changed -/
noncomputable def mLcM (mi : DSt → Store → Res Src) (g : D → DSt → Store → Res DSt) (t : DSt → Store → Res Bool) (e : DSt → Store → Res D) (vs : List Nat) (σ : DSt) (S : Store) : Res D :=
  (mi σ S).bind fun src S1 => bindG (lcGo src.guard g t e (dwipe σ vs) src.items S1) fun ys S2 => .ok (.loc S2.length) (S2 ++ [.lst ys])
/-- the state within the making of the list at p -/
structure Mk (w1 : Wd) (H1 : Hp) (p : Addr) (w : Wd) (H : Hp) : Prop where
  pre : ∃ t, w.M = w1.M ++ t
  bk : w.B = p :: w1.B
  keep : ∀ a u, H1 a = some u → a ∉ w1.M → H a = some u ∧ a ∉ w.M
  fz : ∀ a od u, H1 a = some (.frz od u) → H a = some (.frz od u)
section
variable {K : PySem.W.Frag} {mg : Str → Option Value} {w1 w w' : Wd} {H1 H H' : Hp} {p : Addr} {S : Store}
theorem Mk.j (m : L3.Mk w1 H1 p w H) (hp : H1 p = none) : ExJ w1 H1 w H := ⟨m.pre, fun b hb => by
  rw [m.bk] at hb
  rcases List.mem_cons.mp hb with rfl | hb
  · exact .inr hp
  · exact .inl hb, fun a u h n _ => m.keep a u h n, m.fz⟩
theorem Mk.step (m : L3.Mk w1 H1 p w H) (e : Ex w H w' H') : L3.Mk w1 H1 p w' H' := by
  obtain ⟨t, ht⟩ := m.pre
  obtain ⟨t', ht'⟩ := e.pre
  exact ⟨⟨t ++ t', by rw [ht', ht, List.append_assoc]⟩, e.bk.trans m.bk, fun a u h n => let ⟨h1, n1⟩ := m.keep a u h n; e.keep a u h1 n1, fun a od u h => e.fz a od u (m.fz a od u h)⟩
theorem Mk.wr (m : L3.Mk w1 H1 p w H) (hp : H1 p = none) (o : HO) : L3.Mk w1 H1 p w (upd H p o) :=
  ⟨m.pre, m.bk, fun a u h n => let ⟨h1, n1⟩ := m.keep a u h n; ⟨by rw [upd_ne (ne_new h hp)]; exact h1, n1⟩, fun a od u h => by rw [upd_ne (ne_new h hp)]; exact m.fz a od u h⟩
theorem Mk.fin (m : L3.Mk w1 H1 p w H) : Ex w1 H1 ⟨w.M, w1.B⟩ H := ⟨m.pre, rfl, m.keep, m.fz⟩
/-- writing the list that is made -/
theorem Rep.wrB (hb : p ∈ w.B) {o : HO} {d : D} {v : V} (h : Rep K w H d v) : Rep K w (upd H p o) d v := by
  have ne : ∀ {a : Addr}, a ∉ w.B → a ≠ p := fun n z => n (by rw [z]; exact hb)
  refine h.gen (fun a xs ⟨n, b, f⟩ => ⟨n, b, by rw [upd_ne (ne b)]; exact f⟩) (fun a xs f => ?_) (fun a xs ⟨n, b, f⟩ => ⟨n, b, by rw [upd_ne (ne b)]; exact f⟩) (fun a xs f => f.by fun a u f n b => ⟨n, b, by rw [upd_ne (ne b)]; exact f⟩) (fun a _ ⟨n, b, f⟩ => ⟨n, b, by rw [upd_ne (ne b)]; exact f⟩) fun _ _ q => q
  rcases f with ⟨n, b, f | ⟨o', f⟩⟩ | f
  · exact .inl ⟨n, b, .inl (by rw [upd_ne (ne b)]; exact f)⟩
  · exact .inl ⟨n, b, .inr ⟨o', by rw [upd_ne (ne b)]; exact f⟩⟩
  · exact .inr f
theorem Reps.wrB (hb : p ∈ w.B) {o : HO} : ∀ {d : List D} {v : List V}, Reps K w H d v → Reps K w (upd H p o) d v
  | [], _, h => by simpa only [Reps] using h
  | d :: ds, _, h => by
    simp only [Reps] at h
    obtain ⟨v, r, rfl, h1, h2⟩ := h
    exact .cons (h1.wrB hb) (Reps.wrB hb h2)
theorem Ab.wrB (A : Ab K w H mg S) (hb : p ∈ w.B) (xs : List V) : Ab K w (upd H p (.lst xs)) mg S := by
  have np := A.bm p hb
  refine ⟨A.len, A.nd, A.bm, fun a ha => ?_, fun l a ob h1 h2 => ?_⟩
  · by_cases z : a = p
    · subst z; exact ⟨xs, upd_same⟩
    · rw [upd_ne z]; exact A.bt a ha
  · obtain ⟨u, e, k⟩ := A.ob l a ob h1 h2
    refine ⟨u, by rw [upd_ne (fun z => np (by rw [← z]; exact List.mem_of_getElem? h1))]; exact e, k.gen (fun _ _ r => r.wrB hb) fun _ _ r => r.wrB hb⟩
theorem Ab.inB (A : Ab K w H mg S) (hp : H p = none) (xs : List V) : Ab K ⟨w.M, p :: w.B⟩ (upd H p (.lst xs)) mg S ∧ L3.Mk w H p ⟨w.M, p :: w.B⟩ (upd H p (.lst xs)) := by
  have m : L3.Mk w H p ⟨w.M, p :: w.B⟩ (upd H p (.lst xs)) := ⟨⟨[], by simp⟩, rfl, fun a u h n => ⟨by rw [upd_ne (ne_new h hp)]; exact h, n⟩, fun a od u h => by rw [upd_ne (ne_new h hp)]; exact h⟩
  refine ⟨⟨A.len, A.nd, fun a ha => ?_, fun a ha => ?_, fun l a ob h1 h2 => ?_⟩, m⟩
  · rcases List.mem_cons.mp ha with rfl | ha
    · exact A.new hp
    · exact A.bm a ha
  · rcases List.mem_cons.mp ha with rfl | ha
    · exact ⟨xs, upd_same⟩
    · obtain ⟨u, e⟩ := A.bt a ha
      exact ⟨u, by rw [upd_ne (ne_new e hp)]; exact e⟩
  · obtain ⟨u, e, k⟩ := A.ob l a ob h1 h2
    exact ⟨u, by rw [upd_ne (ne_new e hp)]; exact e, k.monoJ (m.j hp)⟩
theorem Rep.outB {M B : List Addr} {d : D} {v : V} (h : Rep K ⟨M, p :: B⟩ H d v) : Rep K ⟨M, B⟩ H d v :=
  Rep.gen (w := ⟨M, p :: B⟩) (w' := ⟨M, B⟩) (fun a xs ⟨n, b, f⟩ => ⟨n, fun z => b (List.mem_cons_of_mem _ z), f⟩) (fun a xs f => f.elim (fun ⟨n, b, f⟩ => .inl ⟨n, fun z => b (List.mem_cons_of_mem _ z), f⟩) .inr) (fun a xs ⟨n, b, f⟩ => ⟨n, fun z => b (List.mem_cons_of_mem _ z), f⟩) (fun a xs f => PlT.by (w := ⟨M, p :: B⟩) (w' := ⟨M, B⟩) (fun a u f n b => ⟨n, fun z => b (List.mem_cons_of_mem _ z), f⟩) f) (fun _ _ ⟨n, b, f⟩ => ⟨n, fun z => b (List.mem_cons_of_mem _ z), f⟩) (fun _ _ q => q) h
theorem Reps.outB {M B : List Addr} : ∀ {d : List D} {v : List V}, Reps K ⟨M, p :: B⟩ H d v → Reps K ⟨M, B⟩ H d v
  | [], _, h => by simpa only [Reps] using h
  | d :: ds, _, h => by
    simp only [Reps] at h
    obtain ⟨v, r, rfl, h1, h2⟩ := h
    exact .cons h1.outB (Reps.outB h2)
theorem Ab.outB {M B : List Addr} (A : Ab K ⟨M, p :: B⟩ H mg S) : Ab K ⟨M, B⟩ H mg S :=
  ⟨A.len, A.nd, fun a ha => A.bm a (List.mem_cons_of_mem _ ha), fun a ha => A.bt a (List.mem_cons_of_mem _ ha), fun l a ob h1 h2 => let ⟨u, e, k⟩ := A.ob l a ob h1 h2; ⟨u, e, k.gen (fun _ _ r => r.outB) fun _ _ r => r.outB⟩⟩
/-- the made list becomes a mutable object -/
theorem Rep.toM {M B : List Addr} {d : D} {v : V} (h : Rep K ⟨M, p :: B⟩ H d v) : Rep K ⟨M ++ [p], B⟩ H d v := by
  have q : ∀ {a : Addr}, a ∉ M → a ∉ p :: B → a ∉ M ++ [p] ∧ a ∉ B := fun n b =>
    ⟨fun z => by
      rcases List.mem_append.mp z with z | z
      · exact n z
      · simp only [List.mem_singleton] at z
        exact b (by rw [z]; exact List.mem_cons_self), fun z => b (List.mem_cons_of_mem _ z)⟩
  refine h.gen (fun a xs ⟨n, b, f⟩ => ⟨(q n b).1, (q n b).2, f⟩) (fun a xs f => f.elim (fun ⟨n, b, f⟩ => .inl ⟨(q n b).1, (q n b).2, f⟩) .inr) (fun a xs ⟨n, b, f⟩ => ⟨(q n b).1, (q n b).2, f⟩) (fun a xs f => f.by fun a u f n b => ⟨(q n b).1, (q n b).2, f⟩) (fun a u ⟨n, b, e⟩ => show FzE ⟨M ++ [p], B⟩ H a u from ⟨(q n b).1, (q n b).2, e⟩) fun l a e => ?_
  have e' : M[l]? = some a := e
  obtain ⟨h1, h2⟩ := List.getElem?_eq_some_iff.mp e'
  show (M ++ [p])[l]? = some a
  rw [List.getElem?_append_left h1]; exact e'
theorem Reps.toM {M B : List Addr} : ∀ {d : List D} {v : List V}, Reps K ⟨M, p :: B⟩ H d v → Reps K ⟨M ++ [p], B⟩ H d v
  | [], _, h => by simpa only [Reps] using h
  | d :: ds, _, h => by
    simp only [Reps] at h
    obtain ⟨v, r, rfl, h1, h2⟩ := h
    exact .cons h1.toM (Reps.toM h2)
theorem Ab.toM {M B : List Addr} {ds : List D} {vs : List V} (A : Ab K ⟨M, p :: B⟩ H mg S) (hB : p ∉ B) (e : H p = some (.lst vs)) (r : Reps K ⟨M, p :: B⟩ H ds vs) : Ab K ⟨M ++ [p], B⟩ H mg (S ++ [.lst ds]) := by
  have hlen : M.length = S.length := A.len
  have np : p ∉ M := A.bm p List.mem_cons_self
  refine ⟨by simp [hlen], ?_, fun a ha hm => ?_, fun a ha => A.bt a (List.mem_cons_of_mem _ ha), fun l a ob h1 h2 => ?_⟩
  · show (M ++ [p]).Nodup
    rw [List.nodup_append]
    exact ⟨A.nd, by simp, fun a ha b hb => by simp only [List.mem_singleton] at hb; subst hb; exact fun z => np (z ▸ ha)⟩
  · rcases List.mem_append.mp hm with z | z
    · exact A.bm a (List.mem_cons_of_mem _ ha) z
    · simp only [List.mem_singleton] at z; exact hB (z ▸ ha)
  · have h1 : (M ++ [p])[l]? = some a := h1
    by_cases hl : l < S.length
    · rw [List.getElem?_append_left hl] at h2
      rw [List.getElem?_append_left (by omega)] at h1
      obtain ⟨u, e', k⟩ := A.ob l a ob h1 h2
      exact ⟨u, e', k.gen (fun _ _ r => r.toM) fun _ _ r => r.toM⟩
    · rw [List.getElem?_append_right (by omega)] at h1 h2
      rw [hlen] at h1
      have h0 : l - S.length = 0 := by
        cases hq : l - S.length with
        | zero => rfl
        | succ n => rw [hq] at h2; simp at h2
      rw [h0] at h1 h2
      simp at h1 h2
      subst h1 h2
      exact ⟨_, e, vs, rfl, r.toM⟩
end
section
variable {X : Cx} {W : XW} {pos : Pos}
/-- both forms: what follows the block is told of the made list at p -/
theorem lc_imp {g : D → DSt → Store → Res DSt} {t : DSt → Store → Res Bool} {e : DSt → Store → Res D} {vs is : List Nat} (hs : ∀ i ∈ is, i ∈ vs) {σ : L2.St} {H : Hp} {Q : VK} {fin : List D → Store → Res D}
    (hfin : ∀ {w1 H1 p w S ys vs'}, Ab X.K w1 H1 X.mg S → w1.B = p :: w.B → H p = none → p ∉ w.B → H1 p = some (.lst vs') → Reps X.K w1 H1 ys vs' → Ex w H ⟨w1.M, w.B⟩ H1 → Post X.K X.mg (Rep X.K) W σ w H (fin ys S) Q → Q (.ref p) H1)
    {w : Wd} {dσ : DSt} {S : Store} (A : Ab X.K w H X.mg S) (R : RSt X.K w H dσ σ) {src : Src} {J : It} (hJ : JOk X.K X.mg w H J src) (hz : src.items.length ≤ sizeLine)
    (P : Post X.K X.mg (Rep X.K) W σ w H (bindG (lcGo src.guard g t e (dwipe dσ vs) src.items S) fin) Q) :
    ∀ p, H p = none → ∃ W' : Nat → Nat → Hp → Prop, (∃ m, W' 0 m (upd H p (.lst []))) ∧ ∀ i m H, W' i m H →
      (J.stop i H ∧ Q (.ref p) H) ∨ (J.go i H ∧ ∃ Nx : Hp → Prop, (∀ H', Nx H' → ∃ m', m' < m ∧ W' (i + 1) m' H') ∧ ∀ x H', J.yld i H x H' → tOfX X.K X.mg is g x (wipe σ vs) H' fun σ2 H2 => wipe σ2 vs = wipe σ vs ∧ tOfT X.K X.mg W0 t σ2 H2 fun b H3 =>
        if b = true then tOf X.K X.mg W0 e σ2 H3 fun y H4 => ∃ acc, H4 p = some (.lst acc) ∧ acc.length < sizeLine ∧ Nx (upd H4 p (.lst (acc ++ [y]))) else Nx H3) := by
  intro p hp
  have pB := A.newB hp
  obtain ⟨A0, m0⟩ := A.inB hp []
  have R0 := dwipe_rep R vs
  -- the invariant
  refine ⟨fun i m H2 => m = src.items.length - i ∧ i ≤ src.items.length ∧ ∃ w2 S2 ys vs', Ab X.K w2 H2 X.mg S2 ∧ L3.Mk w H p w2 H2 ∧ H2 p = some (.lst vs') ∧ Reps X.K w2 H2 ys vs' ∧ vs'.length ≤ i ∧
      Post X.K X.mg (Rep X.K) W σ w H (bindG (lcGo src.guard g t e (dwipe dσ vs) (src.items.drop i) S2) fun zs S3 => fin (ys ++ zs) S3) Q,
    ⟨_, rfl, Nat.zero_le _, _, S, [], [], A0, m0, upd_same, .nil, Nat.le_refl _, P⟩, ?_⟩
  rintro i m H2 ⟨rfl, hi, w2, S2, ys, vs', A2, m2, e2, r2, hl, P2⟩
  by_cases hlt : i < src.items.length
  · rw [List.drop_eq_getElem_cons hlt] at P2
    simp only [lcGo] at P2
    split at P2
    · rename_i hgd
      obtain ⟨go, yl⟩ := (hJ w2 H2 S2 i (m2.j hp) A2 hgd).1 src.items[i] (List.getElem?_eq_getElem hlt)
      refine .inr ⟨go, fun H3 => ∃ w3 S3 ys vs', Ab X.K w3 H3 X.mg S3 ∧ L3.Mk w H p w3 H3 ∧ H3 p = some (.lst vs') ∧ Reps X.K w3 H3 ys vs' ∧ vs'.length ≤ i + 1 ∧
        Post X.K X.mg (Rep X.K) W σ w H (bindG (lcGo src.guard g t e (dwipe dσ vs) (src.items.drop (i + 1)) S3) fun zs S3 => fin (ys ++ zs) S3) Q,
        fun H' h => ⟨src.items.length - (i + 1), by omega, rfl, hlt, h⟩, fun x H' y => ?_⟩
      obtain ⟨w3, e3, A3, r3⟩ := yl x H' y
      have m3 := m2.step e3
      refine ⟨w3, dwipe dσ vs, S2, src.items[i], A3, R0.monoJ (m3.j hp), r3, ?_⟩
      cases hq : g src.items[i] (dwipe dσ vs) S2 with
      | exc _ _ _ => rw [hq] at P2; exact P2.elim
      | stuck => rw [hq] at P2; exact P2.elim
      | ok dσ4 S4 =>
      rw [hq] at P2
      simp only [bindG_ok] at P2
      refine fun w4 H4 σ4 e4 A4 R4 F4 => ⟨wipe_fr F4 hs, w4, dσ4, S4, A4, R4, ?_⟩
      cases hq5 : t dσ4 S4 with
      | exc _ _ _ => rw [hq5] at P2; exact P2.elim
      | stuck => rw [hq5] at P2; exact P2.elim
      | ok k S5 =>
      rw [hq5] at P2
      simp only [bindG_ok] at P2
      refine fun w5 H5 k' e5 A5 hk => ?_
      cases (show k = k' from hk)
      have m5 := (m3.step e4).step e5
      have b2 : p ∉ w2.M := A2.bm p (by rw [m2.bk]; exact List.mem_cons_self)
      have at5 := ((e3.trans e4).trans e5).keep p _ e2 b2
      have r5 := ((r2.mono e3).mono e4).mono e5
      cases k with
      | false =>
        rw [if_neg Bool.false_ne_true] at P2 ⊢
        exact ⟨w5, S5, ys, vs', A5, m5, at5.1, r5, Nat.le_succ_of_le hl, P2⟩
      | true =>
        rw [if_pos rfl] at P2 ⊢
        refine ⟨w5, dσ4, S5, A5, R4.mono e5, ?_⟩
        cases hq6 : e dσ4 S5 with
        | exc _ _ _ => rw [hq6] at P2; exact P2.elim
        | stuck => rw [hq6] at P2; exact P2.elim
        | ok d S6 =>
        rw [hq6] at P2
        simp only [bindG_ok] at P2
        refine fun w6 H6 v e6 A6 r6 => ?_
        have m6 := m5.step e6
        have at6 := e6.keep p _ at5.1 at5.2
        have hb6 : p ∈ w6.B := by rw [m6.bk]; exact List.mem_cons_self
        refine ⟨vs', at6.1, by omega, w6, S6, ys ++ [d], vs' ++ [v], A6.wrB hb6 _, m6.wr hp _, upd_same, ((r5.mono e6).append (.cons r6 .nil)).wrB hb6, by simp; omega, ?_⟩
        cases hq7 : lcGo src.guard g t e (dwipe dσ vs) (src.items.drop (i + 1)) S6 with
        | exc _ _ _ => rw [hq7] at P2; exact P2.elim
        | stuck => rw [hq7] at P2; exact P2.elim
        | ok zs S7 =>
          rw [hq7] at P2
          simp only [bindG_ok, List.append_assoc, List.singleton_append] at P2 ⊢
          exact P2
    · exact P2.elim
  · have ei : i = src.items.length := by omega
    subst ei
    rw [List.drop_length] at P2
    simp only [lcGo] at P2
    split at P2
    · rename_i hgd
      simp only [bindG_ok, List.append_nil] at P2
      exact .inl ⟨(hJ w2 H2 S2 _ (m2.j hp) A2 hgd).2 (Nat.le_refl _), hfin A2 m2.bk hp pB e2 r2 m2.fin P2⟩
    · exact P2.elim
theorem fin_lst {σ : L2.St} {w1 : Wd} {H1 : Hp} {p : Addr} {w : Wd} {H : Hp} {S : Store} {ys : List D} {vs' : List V} {Q : VK} (A : Ab X.K w1 H1 X.mg S) (hb : w1.B = p :: w.B) (hpB : p ∉ w.B) (e : H1 p = some (.lst vs')) (r : Reps X.K w1 H1 ys vs') (ex : Ex w H ⟨w1.M, w.B⟩ H1)
    (P : Post X.K X.mg (Rep X.K) W σ w H (.ok (.lst ys) S) Q) : Q (.ref p) H1 := by
  obtain ⟨M, B⟩ := w1
  simp only at hb
  subst hb
  refine P ⟨M, w.B⟩ H1 _ ex A.outB ?_
  simp only [Rep]
  exact ⟨p, vs', rfl, ⟨A.bm p List.mem_cons_self, hpB, e⟩, r.outB⟩
theorem fin_lstM {σ : L2.St} {w1 : Wd} {H1 : Hp} {p : Addr} {w : Wd} {H : Hp} {S : Store} {ys : List D} {vs' : List V} {Q : VK} (A : Ab X.K w1 H1 X.mg S) (hb : w1.B = p :: w.B) (hpB : p ∉ w.B) (hpH : H p = none) (e : H1 p = some (.lst vs')) (r : Reps X.K w1 H1 ys vs') (ex : Ex w H ⟨w1.M, w.B⟩ H1)
    (P : Post X.K X.mg (Rep X.K) W σ w H (.ok (.loc S.length) (S ++ [.lst ys])) Q) : Q (.ref p) H1 := by
  obtain ⟨M, B⟩ := w1
  simp only at hb
  subst hb
  have hlen : M.length = S.length := A.len
  refine P ⟨M ++ [p], w.B⟩ H1 _ ⟨?_, rfl, fun a u h n => ?_, ex.fz⟩ (A.toM hpB e r) (of_loc ?_)
  · obtain ⟨t, ht⟩ := ex.pre
    exact ⟨t ++ [p], by show M ++ [p] = _; rw [show M = w.M ++ t from ht, List.append_assoc]⟩
  · obtain ⟨h1, h2⟩ := ex.keep a u h n
    refine ⟨h1, fun z => ?_⟩
    rcases List.mem_append.mp z with z | z
    · exact h2 z
    · simp only [List.mem_singleton] at z
      exact ne_new h hpH z
  · show (M ++ [p])[S.length]? = some p
    rw [← hlen]; simp
section
variable {elt tg iter : Expr} {ifs : List Expr} {scope : Scope} {own : List (Str × Nat)} {mi : DSt → Store → Res Src} {g : D → DSt → Store → Res DSt} {t : DSt → Store → Res Bool} {e : DSt → Store → Res D} {is : List Nat}
/-- the tests of a clause -/
theorem pmt_nil : PTs X [] (tOfT X.K X.mg W (fun _ S => .ok true S)) := ⟨fun pins s σ H Q I ⟨w, dσ, S, A, R, P⟩ => pts_nil.run pins s σ H Q I (P.fin A rfl)⟩
theorem pmt_one {c : Expr} {m : DSt → Store → Res Bool} (h : PMT X W c m) : PTs X [c] (tOfT X.K X.mg W m) := pts_one h
theorem pm_lc (hc : X.calm = true) (hN : X.N.Nodup) (hi : PMI X W tg iter mi) (ok : BlkOk X.N X.env.scope scope own)
    (hg : ∀ (s : Shared) (H : Hp) (C : Addr) (cl : List (Str × Addr)) (fp : List Addr), PMX (X.blk s H scope (compEnvC scope cl C X.env) fp) is tg g)
    (ht : ∀ (s : Shared) (H : Hp) (C : Addr) (cl : List (Str × Addr)) (fp : List Addr), PTs (X.blk s H scope (compEnvC scope cl C X.env) fp) ifs (tOfT X.K X.mg W0 t))
    (he : ∀ (s : Shared) (H : Hp) (C : Addr) (cl : List (Str × Addr)) (fp : List Addr), PM (X.blk s H scope (compEnvC scope cl C X.env) fp) W0 elt e) (his : ∀ i ∈ is, i ∈ own.map (·.2)) (hs : ∀ x, foldedSetIterable iter X.env x = pure x := by intro _; rfl) :
    PM X W (.ListComp elt [⟨tg, iter, ifs, 0⟩] scope pos) (mLc mi g t e (own.map (·.2))) :=
  PE.imp (pe_lc hc hN hi ok hg ht he hs) fun σ H Q ⟨w, dσ, S, A, R, P⟩ => ⟨w, dσ, S, A, R, P.bind fun src S1 w1 H1 J e1 A1 rj P1 =>
    lc_imp his (fun A' hb _ hpB e' r' ex P' => fin_lst A' hb hpB e' r' ex P') A1 (R.mono e1) rj.1 rj.2 P1⟩
theorem pm_lcM (hc : X.calm = true) (hN : X.N.Nodup) (hi : PMI X W tg iter mi) (ok : BlkOk X.N X.env.scope scope own)
    (hg : ∀ (s : Shared) (H : Hp) (C : Addr) (cl : List (Str × Addr)) (fp : List Addr), PMX (X.blk s H scope (compEnvC scope cl C X.env) fp) is tg g)
    (ht : ∀ (s : Shared) (H : Hp) (C : Addr) (cl : List (Str × Addr)) (fp : List Addr), PTs (X.blk s H scope (compEnvC scope cl C X.env) fp) ifs (tOfT X.K X.mg W0 t))
    (he : ∀ (s : Shared) (H : Hp) (C : Addr) (cl : List (Str × Addr)) (fp : List Addr), PM (X.blk s H scope (compEnvC scope cl C X.env) fp) W0 elt e) (his : ∀ i ∈ is, i ∈ own.map (·.2)) (hs : ∀ x, foldedSetIterable iter X.env x = pure x := by intro _; rfl) :
    PM X W (.ListComp elt [⟨tg, iter, ifs, 0⟩] scope pos) (mLcM mi g t e (own.map (·.2))) :=
  PE.imp (pe_lc hc hN hi ok hg ht he hs) fun σ H Q ⟨w, dσ, S, A, R, P⟩ => ⟨w, dσ, S, A, R, P.bind fun src S1 w1 H1 J e1 A1 rj P1 p hp =>
    lc_imp his (fun A' hb hp hpB e' r' ex P' => fin_lstM A' hb hpB hp e' r' ex P') A1 (R.mono e1) rj.1 rj.2 P1 p hp⟩
end
end
end L3
namespace L3
open PySem PySem.Spec L2

section
variable {X : Cx} {W : XW} {tg : Expr} {pos : Pos}
theorem PI.imp {iter : Expr} {t t' : TI} (h : PI X tg iter t) (k : ∀ σ H R, t' σ H R → t σ H R) : PI X tg iter t' := ⟨fun pins s σ H R I q => h.run pins s σ H R I (k σ H R q)⟩
/-- a list, a tuple, a text -/
theorem pi_any {l : Expr} {tl : TE} (hl : PE X l tl) : PI X tg l (fun σ H R => tl σ H fun x H1 => (∃ a xs, x = .ref a ∧ SqL X.K H1 a xs ∧ (xs.length ≤ sizeLine → R (Itl X.K a) H1)) ∨
    (∃ a xs, x = .ref a ∧ SqT X.K H1 a xs ∧ (xs.length ≤ sizeLine → R (Itt X.K a) H1)) ∨ (∃ z, x = .str z ∧ R (Its z) H1)) := by
  refine ⟨fun pins s σ H R I h => ?_⟩
  refine thn (hl.run pins s σ H _ I h) fun v s1 ⟨x, H1, I1, r1, q1⟩ => ?_
  rcases q1 with ⟨a, xs, e, hq, q⟩ | ⟨a, xs, e, hq, q⟩ | ⟨z, e, q⟩
  · subst e
    cases r1
    obtain ⟨its, rv, p, hz⟩ := I1.list hq
    refine wpAny_pyIter_list p.isList ?_
    refine ⟨s1.heap.objs.size, [s1.heap.objs.size], _, _, H1, rfl, I1.kept (t' := s1.toks) fun b o e => Heap.get?_push_of_some _ e, turn_list a _, ⟨_, Heap.get?_push_size _ rfl, rfl, rfl⟩, fun b hb => ?_, q hz⟩
    have e : b = s1.heap.objs.size := by simpa using hb
    subst e
    exact I1.fpOk (Nat.le_refl _) (I1.hok.fresh (Nat.le_refl _))
  · subst e
    cases r1
    obtain ⟨its, rv, p, hz⟩ := I1.tuple hq
    refine wpAny_pyIter_tuple (show s1.heap.IsTuple a its.toArray from p) ?_
    refine ⟨s1.heap.objs.size, [s1.heap.objs.size], _, _, H1, rfl, I1.kept (t' := s1.toks) fun b o e => Heap.get?_push_of_some _ e, turn_tuple a _, ⟨_, Heap.get?_push_size _ rfl, rfl, rfl⟩, fun b hb => ?_, q hz⟩
    have e : b = s1.heap.objs.size := by simpa using hb
    subst e
    exact I1.fpOk (Nat.le_refl _) (I1.hok.fresh (Nat.le_refl _))
  · subst e
    obtain ⟨t, rfl⟩ := r1
    cases ha : z.cps.all (· < 128)
    · exact wpAny_pyIter_wide ha (pi_one (tk := s1.toks) I1 _ (turn_str _ z t "str_iterator" (.inr rfl)) ⟨_, Heap.get?_push_size _ rfl, rfl, rfl⟩ q)
    · exact wpAny_pyIter_ascii ha (pi_one (tk := s1.toks) I1 _ (turn_str _ z t "str_ascii_iterator" (.inl rfl)) ⟨_, Heap.get?_push_size _ rfl, rfl, rfl⟩ q)
def signsOf (z : Str) : List D := z.cps.toList.map fun c => .str ⟨#[c]⟩
def seqSrc (d : D) (S : Store) : Option Src := match d with
  | .str z => if z.length ≤ sizeLine then some ⟨signsOf z, []⟩ else none
  | .tup ds => some ⟨ds, []⟩
  | .ktp ds => some ⟨ds, []⟩
  | .lst ds => some ⟨ds, []⟩
  | .frz ds => some ⟨ds, []⟩
  | .loc l => match S[l]? with
    | some (.lst ds) => some ⟨ds, [(l, .lst ds)]⟩
    | _ => none
  | _ => none
def mSeqI (m : DSt → Store → Res D) (σ : DSt) (S : Store) : Res Src := (m σ S).bind fun d S1 => match seqSrc d S1 with
  | some src => .ok src S1
  | none => .stuck
section
variable {K : PySem.W.Frag} {mg : Str → Option Value} {w : Wd} {H : Hp} {S : Store}
theorem jok_list {a : Addr} {ds : List D} {gd : List (Nat × Ob)} (h : ∀ w' H' S', ExJ w H w' H' → Ab K w' H' mg S' → gOk gd S' → ∃ vs', SqL K H' a vs' ∧ Reps K w' H' ds vs') : JOk K mg w H (Itl K a) ⟨ds, gd⟩ := by
  intro w' H' S' i e A g
  obtain ⟨vs', hq, r⟩ := h w' H' S' e A g
  refine ⟨fun d hd => ?_, fun hl => ⟨vs', hq, by rw [← r.length]; exact hl⟩⟩
  obtain ⟨v, hv, rv⟩ := r.get hd
  refine ⟨⟨vs', v, hq, hv⟩, fun x H2 y => ?_⟩
  obtain ⟨e2, y⟩ := y
  subst e2
  have hx := y vs' hq
  rw [hv] at hx
  cases hx
  exact ⟨w', Ex.refl _ _, A, rv⟩
theorem jok_tup {a : Addr} {ds : List D} {gd : List (Nat × Ob)} (h : ∀ w' H' S', ExJ w H w' H' → Ab K w' H' mg S' → gOk gd S' → ∃ vs', SqT K H' a vs' ∧ Reps K w' H' ds vs') : JOk K mg w H (Itt K a) ⟨ds, gd⟩ := by
  intro w' H' S' i e A g
  obtain ⟨vs', hq, r⟩ := h w' H' S' e A g
  refine ⟨fun d hd => ?_, fun hl => ⟨vs', hq, by rw [← r.length]; exact hl⟩⟩
  obtain ⟨v, hv, rv⟩ := r.get hd
  refine ⟨⟨vs', v, hq, hv⟩, fun x H2 y => ?_⟩
  obtain ⟨e2, y⟩ := y
  subst e2
  have hx := y vs' hq
  rw [hv] at hx
  cases hx
  exact ⟨w', Ex.refl _ _, A, rv⟩
theorem jok_str (z : Str) : JOk K mg w H (Its z) ⟨signsOf z, []⟩ := by
  intro w' H' S' i e A g
  have hl : (signsOf z).length = z.cps.size := by simp [signsOf]
  refine ⟨fun d hd => ?_, fun hl' => by show z.cps.size ≤ i; rw [← hl]; exact hl'⟩
  have hi : i < z.cps.size := by
    rw [← hl]; exact (List.getElem?_eq_some_iff.mp hd).1
  refine ⟨hi, fun x H2 y => ?_⟩
  obtain ⟨e2, c, hc, rfl⟩ := y
  subst e2
  refine ⟨w', Ex.refl _ _, A, ?_⟩
  unfold signsOf at hd
  rw [List.getElem?_map, Array.getElem?_toList, hc] at hd
  cases hd
  exact of_str _
/-- a source that stands: frozen, or a mutable list that is left as it is -/
theorem ra_list {d : D} {v : V} {ds : List D} {gd : List (Nat × Ob)} (A : Ab K w H mg S) (h : seqSrc d S = some ⟨ds, gd⟩) (r : Rep K w H d v) :
    (∃ a vs, v = .ref a ∧ SqL K H a vs ∧ Reps K w H ds vs ∧ JOk K mg w H (Itl K a) ⟨ds, gd⟩) ∨ (∃ a vs, v = .ref a ∧ SqT K H a vs ∧ Reps K w H ds vs ∧ JOk K mg w H (Itt K a) ⟨ds, gd⟩) ∨
      ∃ z, d = .str z ∧ z.length ≤ sizeLine ∧ ds = signsOf z ∧ gd = [] := by
  unfold seqSrc at h
  split at h
  · split at h
    · rename_i z hz
      simp only [Option.some.injEq, Src.mk.injEq] at h
      exact .inr (.inr ⟨z, rfl, hz, h.1.symm, h.2.symm⟩)
    · cases h
  · simp only [Option.some.injEq, Src.mk.injEq] at h
    obtain ⟨rfl, rfl⟩ := h
    simp only [Rep] at r
    obtain ⟨a, vs, rfl, ⟨n, b, f⟩, r⟩ := r
    exact .inr (.inl ⟨a, vs, rfl, .of f, r, jok_tup fun w' H' S' e A' g => ⟨vs, .of (e.at n b f).2.2, r.monoJ e⟩⟩)
  · simp only [Option.some.injEq, Src.mk.injEq] at h
    obtain ⟨rfl, rfl⟩ := h
    simp only [Rep] at r
    obtain ⟨a, vs, rfl, f, r⟩ := r
    exact .inr (.inl ⟨a, vs, rfl, kp_sq f, r, jok_tup fun w' H' S' e A' g => ⟨vs, kp_sq (f.imp_right fun f => f.by fun a u f n b => e.at n b f), r.monoJ e⟩⟩)
  · simp only [Option.some.injEq, Src.mk.injEq] at h
    obtain ⟨rfl, rfl⟩ := h
    simp only [Rep] at r
    obtain ⟨a, vs, rfl, ⟨n, b, f⟩, r⟩ := r
    exact .inl ⟨a, vs, rfl, .of f, r, jok_list fun w' H' S' e A' g => ⟨vs, .of (e.at n b f).2.2, r.monoJ e⟩⟩
  · simp only [Option.some.injEq, Src.mk.injEq] at h
    obtain ⟨rfl, rfl⟩ := h
    simp only [Rep] at r
    obtain ⟨a, vs, rfl, f, r⟩ := r
    refine .inl ⟨a, vs, rfl, f.sq, r, jok_list fun w' H' S' e A' g => ⟨vs, ?_, r.monoJ e⟩⟩
    have f' : FzL K w' H' a vs := f.elim (fun ⟨n, b, f⟩ => .inl (e.rd n b f)) .inr
    exact f'.sq
  · split at h
    · rename_i l _ es q
      simp only [Option.some.injEq, Src.mk.injEq] at h
      obtain ⟨rfl, rfl⟩ := h
      simp only [Rep] at r
      obtain ⟨a, el, rfl⟩ := r
      obtain ⟨u, eu, vs, rfl, r⟩ := A.ob l a _ el q
      refine .inl ⟨a, vs, rfl, .of eu, r, jok_list fun w' H' S' e A' g => ?_⟩
      obtain ⟨u', eu', vs', rfl, r'⟩ := A'.ob l a _ (e.get el) (g (l, _) List.mem_cons_self)
      exact ⟨vs', .of eu', r'⟩
    · cases h
  · cases h
end
theorem pmi_seq {l : Expr} {m : DSt → Store → Res D} (h : PM X W l m) : PMI X W tg l (mSeqI m) := by
  refine PI.imp (pi_any h) fun σ H R ⟨w, dσ, S, A, Rs, P⟩ => ⟨w, dσ, S, A, Rs, P.bind fun d S1 w1 H1 v e1 A1 r1 P1 => ?_⟩
  split at P1
  · rename_i src hs
    obtain ⟨ds, gd⟩ := src
    rcases ra_list A1 hs r1 with ⟨a, vs, rfl, hq, r, j⟩ | ⟨a, vs, rfl, hq, r, j⟩ | ⟨z, rfl, hz, rfl, rfl⟩
    · exact .inl ⟨a, vs, rfl, hq, fun hz => P1.fin A1 ⟨j, by show ds.length ≤ sizeLine; rw [r.length]; exact hz⟩⟩
    · exact .inr (.inl ⟨a, vs, rfl, hq, fun hz => P1.fin A1 ⟨j, by show ds.length ≤ sizeLine; rw [r.length]; exact hz⟩⟩)
    · exact .inr (.inr ⟨z, rep_str r1, P1.fin A1 ⟨jok_str z, by show (signsOf z).length ≤ sizeLine; simp only [signsOf, List.length_map]; simpa [Str.length] using hz⟩⟩)
  · exact P1.elim

/-! ### ranges -/
def rangeD (lo c : Int) (n : Nat) : List D := (List.range n).map fun (i : Nat) => D.int (lo + (i : Int) * c)
theorem rangeD_len (lo c : Int) (n : Nat) : (rangeD lo c n).length = n := by simp [rangeD]
theorem rangeD_get {lo c : Int} {n i : Nat} {d : D} (h : (rangeD lo c n)[i]? = some d) : i < n ∧ d = .int (lo + (i : Int) * c) := by
  unfold rangeD at h
  obtain ⟨h1, h2⟩ := List.getElem?_eq_some_iff.mp h
  simp at h1 h2
  exact ⟨h1, h2.symm⟩
theorem jok_range {K : PySem.W.Frag} {mg : Str → Option Value} {w : Wd} {H : Hp} (lo : Int) (n : Nat) : JOk K mg w H (Itr lo n) ⟨rangeD lo 1 n, []⟩ := by
  intro w' H' S' i e A g
  refine ⟨fun d hd => ?_, fun hl => by show n ≤ i; rw [← rangeD_len lo 1 n]; exact hl⟩
  obtain ⟨h1, rfl⟩ := rangeD_get hd
  refine ⟨h1, fun x H2 ⟨e2, y⟩ => ?_⟩
  subst e2 y
  exact ⟨w', Ex.refl _ _, A, by rw [Int.mul_one]; exact of_int _⟩
def mRng1 (ms : DSt → Store → Res (List D)) (σ : DSt) (S : Store) : Res Src := (ms σ S).bind fun ds S1 => match ds with
  | [.int j] => if j ≤ sizeLine ∧ -(2 ^ 62) ≤ j then .ok ⟨rangeD 0 1 j.toNat, []⟩ S1 else .stuck
  | _ => .stuck
def mRng2 (ms : DSt → Store → Res (List D)) (σ : DSt) (S : Store) : Res Src := (ms σ S).bind fun ds S1 => match ds with
  | [.int i, .int j] => if -(2 ^ 62) ≤ i ∧ i < 2 ^ 62 ∧ -(2 ^ 62) ≤ j ∧ j < 2 ^ 62 ∧ (j - i).toNat ≤ sizeLine then .ok ⟨rangeD i 1 (j - i).toNat, []⟩ S1 else .stuck
  | _ => .stuck
/-- downward by ones -/
def mRng3 (ms : DSt → Store → Res (List D)) (σ : DSt) (S : Store) : Res Src := (ms σ S).bind fun ds S1 => match ds with
  | [.int i, .int j, .int c] => if c = -1 ∧ -(2 ^ 62) ≤ i ∧ i < 2 ^ 62 ∧ -(2 ^ 62) ≤ j ∧ j < 2 ^ 62 ∧ (i - j).toNat ≤ sizeLine then .ok ⟨rangeD i (-1) (i - j).toNat, []⟩ S1 else .stuck
  | _ => .stuck
theorem reps1 {K : PySem.W.Frag} {w : Wd} {H : Hp} {d : D} {vs : List V} (h : Reps K w H [d] vs) : ∃ v, vs = [v] ∧ Rep K w H d v := by
  simp only [Reps] at h
  obtain ⟨v, r, rfl, h1, rfl⟩ := h
  exact ⟨v, rfl, h1⟩
theorem reps2 {K : PySem.W.Frag} {w : Wd} {H : Hp} {d e : D} {vs : List V} (h : Reps K w H [d, e] vs) : ∃ v u, vs = [v, u] ∧ Rep K w H d v ∧ Rep K w H e u := by
  simp only [Reps] at h
  obtain ⟨v, r, rfl, h1, u, r', rfl, h2, rfl⟩ := h
  exact ⟨v, u, rfl, h1, h2⟩
theorem pmi_range1 {a : Expr} {ms : DSt → Store → Res (List D)} {p : Pos} (hg : Gl X "range") (hm : X.mg "range" = none) (ha : PMA X W [a] ms) (hs : starEach [a] X.env = [(false, eval a X.env)] := by rfl) : PMI X W tg (.Call (.Name "range" p) [a] [] pos) (mRng1 ms) := by
  refine PI.imp (pi_range1 hg hm ha hs) fun σ H R ⟨w, dσ, S, A, Rs, P⟩ => ⟨w, dσ, S, A, Rs, P.bind fun ds S1 w1 H1 vs e1 A1 r1 P1 => ?_⟩
  split at P1
  · split at P1
    · rename_i j hz
      obtain ⟨v, rfl, r⟩ := reps1 r1
      refine ⟨j, by rw [rep_int r], hz.2, ?_, P1.fin A1 ⟨jok_range 0 j.toNat, ?_⟩⟩
      · have : (sizeLine : Int) < 2 ^ 62 := by decide
        omega
      · show (rangeD 0 1 j.toNat).length ≤ sizeLine
        rw [rangeD_len]; omega
    · exact P1.elim
  · exact P1.elim
/-! ### enumerate, zip -/
def enumD (k : Nat) : List D → List D
  | [] => []
  | d :: ds => .tup [.int k, d] :: enumD (k + 1) ds
theorem enumD_len : ∀ (k : Nat) (ds : List D), (enumD k ds).length = ds.length
  | _, [] => rfl
  | k, d :: ds => by simp [enumD, enumD_len (k + 1) ds]
theorem enumD_get : ∀ {k i : Nat} {ds : List D} {e : D}, (enumD k ds)[i]? = some e → ∃ d, ds[i]? = some d ∧ e = .tup [.int ((k + i : Nat) : Int), d]
  | _, _, [], _, h => by simp [enumD] at h
  | k, 0, d :: ds, e, h => by
    simp [enumD] at h
    exact ⟨d, by simp, by rw [← h]; rfl⟩
  | k, i + 1, d :: ds, e, h => by
    simp [enumD] at h
    obtain ⟨d', h1, h2⟩ := enumD_get h
    exact ⟨d', by simpa using h1, by rw [h2]; congr 3; omega⟩
def zipD : List D → List D → List D
  | a :: as, b :: bs => .tup [a, b] :: zipD as bs
  | _, _ => []
theorem yldTup {K : PySem.W.Frag} {mg : Str → Option Value} {w : Wd} {H : Hp} {S : Store} (A : Ab K w H mg S) {T : Addr} {x : V} {d e : D} {y : V} (hT : H T = none) (rd : Rep K w H d x) (re : Rep K w H e y) :
    ∃ w2, Ex w H w2 (upd H T (.tup [x, y])) ∧ Ab K w2 (upd H T (.tup [x, y])) mg S ∧ Rep K w2 (upd H T (.tup [x, y])) (.tup [d, e]) (.ref T) :=
  ⟨w, Ex.new hT, A.newF hT, Rep.tupNew A hT (.cons rd (.cons re .nil))⟩
/-- a list that is read -/
def lstSrc (d : D) (S : Store) : Option Src := match d with
  | .lst ds => some ⟨ds, []⟩
  | .frz ds => some ⟨ds, []⟩
  | .loc l => match S[l]? with
    | some (.lst ds) => some ⟨ds, [(l, .lst ds)]⟩
    | _ => none
  | _ => none
theorem lst_st {K : PySem.W.Frag} {mg : Str → Option Value} {w : Wd} {H : Hp} {S : Store} {d : D} {src : Src} {v : V} (A : Ab K w H mg S) (h : lstSrc d S = some src) (r : Rep K w H d v) :
    ∃ a vs, v = .ref a ∧ SqL K H a vs ∧ Reps K w H src.items vs ∧ ∀ w' H' S', ExJ w H w' H' → Ab K w' H' mg S' → gOk src.guard S' → ∃ vs', SqL K H' a vs' ∧ Reps K w' H' src.items vs' := by
  cases d with
  | lst es =>
    simp only [lstSrc, Option.some.injEq] at h
    subst h
    simp only [Rep] at r
    obtain ⟨a, vs, rfl, ⟨n, b, f⟩, r⟩ := r
    exact ⟨a, vs, rfl, .of f, r, fun w' H' S' e A' g => ⟨vs, .of (e.at n b f).2.2, r.monoJ e⟩⟩
  | frz es =>
    simp only [lstSrc, Option.some.injEq] at h
    subst h
    simp only [Rep] at r
    obtain ⟨a, vs, rfl, f, r⟩ := r
    refine ⟨a, vs, rfl, f.sq, r, fun w' H' S' e A' g => ⟨vs, ?_, r.monoJ e⟩⟩
    have f' : FzL K w' H' a vs := f.elim (fun ⟨n, b, f⟩ => .inl (e.rd n b f)) .inr
    exact f'.sq
  | loc l =>
    simp only [lstSrc] at h
    split at h
    · rename_i es q
      simp only [Option.some.injEq] at h
      subst h
      simp only [Rep] at r
      obtain ⟨a, el, rfl⟩ := r
      obtain ⟨u, eu, vs, rfl, r⟩ := A.ob l a _ el q
      refine ⟨a, vs, rfl, .of eu, r, fun w' H' S' e A' g => ?_⟩
      obtain ⟨u', eu', vs', rfl, r'⟩ := A'.ob l a _ (e.get el) (g (l, _) List.mem_cons_self)
      exact ⟨vs', .of eu', r'⟩
    · cases h
  | _ => simp [lstSrc] at h
theorem tup_st {K : PySem.W.Frag} {w : Wd} {H : Hp} {d : D} {ds : List D} {v : V} (h : rdT d = some ds) (r : Rep K w H d v) :
    ∃ a vs, v = .ref a ∧ SqT K H a vs ∧ Reps K w H ds vs ∧ ∀ w' H', ExJ w H w' H' → ∃ vs', SqT K H' a vs' ∧ Reps K w' H' ds vs' := by
  cases d with
  | tup es =>
    simp only [rdT, Option.some.injEq] at h
    subst h
    simp only [Rep] at r
    obtain ⟨a, vs, rfl, ⟨n, b, f⟩, r⟩ := r
    exact ⟨a, vs, rfl, .of f, r, fun w' H' e => ⟨vs, .of (e.at n b f).2.2, r.monoJ e⟩⟩
  | ktp es =>
    simp only [rdT, Option.some.injEq] at h
    subst h
    simp only [Rep] at r
    obtain ⟨a, vs, rfl, f, r⟩ := r
    exact ⟨a, vs, rfl, kp_sq f, r, fun w' H' e => ⟨vs, kp_sq (f.imp_right fun f => f.by fun a u f n b => e.at n b f), r.monoJ e⟩⟩
  | _ => simp [rdT] at h
/-- an argument list, the sizes of what stands told -/
theorem PA.szd {es : List Expr} {t : TA} (h : PA X es t) : PA X es (fun σ H Q => t σ H fun vs H1 => ((∀ a xs, SqL X.K H1 a xs → xs.length ≤ sizeLine) → (∀ a xs, SqT X.K H1 a xs → xs.length ≤ sizeLine) → Q vs H1)) := by
  refine ⟨fun ps pins s σ H Q I q => ?_⟩
  refine thn (h.run ps pins s σ H _ I q) fun us s1 ⟨vs, H1, I1, r1, q1⟩ => ⟨vs, H1, I1, r1, q1 (fun a xs hq => ?_) fun a xs hq => ?_⟩
  · obtain ⟨_, _, _, hz⟩ := I1.list hq
    exact hz
  · obtain ⟨_, _, _, hz⟩ := I1.tuple hq
    exact hz
def mEnum (ms : DSt → Store → Res (List D)) (σ : DSt) (S : Store) : Res Src := (ms σ S).bind fun ds S1 => match ds with
  | [d] => match lstSrc d S1 with
    | some src => .ok ⟨enumD 0 src.items, src.guard⟩ S1
    | none => .stuck
  | _ => .stuck
def mZip (ms : DSt → Store → Res (List D)) (σ : DSt) (S : Store) : Res Src := (ms σ S).bind fun ds S1 => match ds with
  | [d, e] => match lstSrc d S1, lstSrc e S1 with
    | some s1, some s2 => .ok ⟨zipD s1.items s2.items, s1.guard ++ s2.guard⟩ S1
    | _, _ => match rdT d, rdT e with
      | some a, some b => .ok ⟨zipD a b, []⟩ S1
      | _, _ => .stuck
  | _ => .stuck
end
end L3
namespace L3
open PySem PySem.Spec L2

/-! ### defs -/
/-- a def's promise by a function (nothing is raised) -/
def spD (K : PySem.W.Frag) (mg : Str → Option Value) (n : Nat) (den : List D → Store → Res D) : Sp := fun vs H Q _ => ∃ w ds S, Ab K w H mg S ∧ Reps K w H ds vs ∧ ds.length = n ∧
  (match den ds S with
  | .ok d S' => ∀ w' H' v, Ex w H w' H' → Ab K w' H' mg S' → Rep K w' H' d v → Q v H'
  | _ => False)
def noX {α : Type} (r : Res α) : Res α := match r with
  | .ok a S => .ok a S
  | _ => .stuck
@[simp] theorem noX_ok {α : Type} (a : α) (S : Store) : noX (.ok a S) = .ok a S := (rfl)
@[simp] theorem noX_stuck {α : Type} : noX (.stuck : Res α) = .stuck := (rfl)
@[simp] theorem noX_exc {α : Type} (c : Str) (fs : List (Str × D)) (S : Store) : noX (.exc c fs S : Res α) = .stuck := (rfl)
def mCall (n : Nat) (den : List D → Store → Res D) (ms : DSt → Store → Res (List D)) (σ : DSt) (S : Store) : Res D := (ms σ S).bind fun ds S1 => if ds.length = n then noX (den ds S1) else .stuck
section
variable {X : Cx} {W : XW} {k : Nat} {f : Addr} {fd : FuncData} {ps : List Str} {x m : Str} {p pos apos : Pos} {e o : Expr} {es : List Expr} {den : List D → Store → Res D} {n : Nat}
theorem callP {σ : L2.St} {w : Wd} {H : Hp} {S : Store} {ds : List D} {vs : List V} {Q : VK} (A : Ab X.K w H X.mg S) (r : Reps X.K w H ds vs) (P : Post X.K X.mg (Rep X.K) W σ w H (if ds.length = n then noX (den ds S) else .stuck) Q) : spD X.K X.mg n den vs H Q E0 := by
  split at P
  · rename_i hl
    refine ⟨w, ds, S, A, r, hl, ?_⟩
    cases hd : den ds S with
    | ok d S2 => rw [hd] at P; exact P
    | exc c fs S2 => rw [hd] at P; exact P.elim
    | stuck => rw [hd] at P; exact P.elim
  · exact P.elim
theorem pm_call {ms : DSt → Store → Res (List D)} (F : FnOk X.prog X.w X.K X.mg X.base CX0 k f fd ps (spD X.K X.mg n den)) (hr : Room k X.A) (hg : Gl X x) (hm : X.mg x = some (.ref f)) (hk : PySem.W.keepIn X.K (.ref f) = true) (hb : Binds X.K fd ps [])
    (ha : PMA X W (e :: es) ms) (hdb : (x == ("__debug__" : Str)) = false := by decide) (he : starEach (e :: es) X.env = (false, eval e X.env) :: starEach es X.env := by rfl) (hpl : (backTo pos (starEach es X.env)).any (·.1) = false := by rfl) :
    PM X W (.Call (.Name x p) (e :: es) [] pos) (mCall n den ms) :=
  PE.imp (pe_call F hr hg hm hk hb .nil pass0 ha hdb he hpl) fun σ H Q ⟨w, dσ, S, A, R, P⟩ => ⟨w, dσ, S, A, R, P.bind fun ds S1 w1 H1 vs e1 A1 r1 P1 => by
    rw [List.append_nil]
    exact callP A1 r1 P1⟩
/-- o.m(..) -/
def insOf (S : Store) (d : D) : Option (Str × List (Str × D)) := match d with
  | .loc l => match S[l]? with
    | some (.ins C fs) => some (C, fs)
    | _ => none
  | _ => none
end

/-! ### a def's own promise -/
def denOf (n : Nat) (m : DSt → Store → Res Fl) (ds : List D) (S : Store) : Res D := match m (ds.map some ++ List.replicate (n - ds.length) none) S with
  | .ok (.rt d) S' => .ok d S'
  | .ok (.nx _) S' => .ok .non S'
  | .ok (.ex c fs _) S' => .exc c fs S'
  | _ => .stuck
theorem start_rep {K : PySem.W.Frag} {w : Wd} {H : Hp} {ds : List D} {vs : List V} (r : Reps K w H ds vs) (N : List Str) : RSt K w H (ds.map some ++ List.replicate (N.length - ds.length) none) (L2.start N vs) := by
  have hl := r.length
  unfold L2.start
  refine ⟨by simp [hl], fun i d h => ?_⟩
  by_cases hi : i < ds.length
  · rw [List.getElem?_append_left (by simpa using hi), List.getElem?_map] at h
    cases hd : ds[i]? with
    | none => rw [hd] at h; cases h
    | some d' =>
      rw [hd] at h
      have e : d' = d := by simpa using h
      subst e
      obtain ⟨v, hv, rv⟩ := r.get hd
      exact ⟨v, by rw [List.getElem?_append_left (by simp; omega), List.getElem?_map, hv]; rfl, rv⟩
  · rw [List.getElem?_append_right (by simpa using hi)] at h
    have := List.mem_of_getElem? h
    simp at this
section
variable {P : Program} {w : World} {K : PySem.W.Frag} {mg : Str → Option Value} {base : Heap}
theorem fn_den {x qual : Str} {st : Stmt} {f : Addr} {fd : FuncData} {N ps : List Str} {k : Nat} {m : DSt → Store → Res Fl} (F : Fun K x qual st f fd) (S : FnScope N ps (defScope st))
    (hbody : ∀ (cdv : Value) (A : Around) (outer : List Env) (s : Shared) (H : Hp) (E : XK), Room k (A.deeper (PyProof.Rows.envOfC qual (defScope st) s.heap.objs.size f cdv)) →
      PMSs (cxOf CX0 P w K mg base N qual (defScope st) f cdv A outer s H E).nox W0 (defBody st) m) : FnOk P w K mg base CX0 (k + 1) f fd ps (spD K mg ps.length (denOf N.length m)) := by
  refine F.ok S (fun vs H Q E h => ?_) (fun cdv A outer s H vs Q E hr h => ⟨_, hbody cdv A outer s H E hr, ?_⟩)
  · obtain ⟨w, ds, S, A, r, hl, _⟩ := h
    rw [← r.length]; exact hl
  · obtain ⟨w, ds, S, A, r, hl, P⟩ := h
    refine ⟨w, _, S, A, start_rep r N, ?_⟩
    unfold denOf at P
    split at P
    · rename_i d S' hd
      split at hd
      · rename_i d' S'' hm
        cases hd
        rw [hm]
        exact P
      · rename_i σ' S'' hm
        cases hd
        rw [hm]
        exact fun w' H' σ2 e A' R => P w' H' _ e A' of_non
      · cases hd
      · cases hd
    · exact P.elim
end

/-! ### what a call has made and left behind may be forgotten -/
mutual
def D.sc (n : Nat) : D → Bool
  | .tup ds => D.scs n ds
  | .ktp ds => D.scs n ds
  | .lst ds => D.scs n ds
  | .frz ds => D.scs n ds
  | .loc l => decide (l < n)
  | .exf _ _ _ _ => true
  | .exk _ _ => true
  | _ => true
def D.scs (n : Nat) : List D → Bool
  | [] => true
  | d :: ds => d.sc n && D.scs n ds
end
def scK {κ : Type} (n : Nat) (kvs : List (κ × D)) : Bool := kvs.all fun p => p.2.sc n
def Ob.sc (n : Nat) : Ob → Bool
  | .lst ds => D.scs n ds
  | .dK kvs => scK n kvs
  | .dT kvs => scK n kvs
  | .dN kvs => scK n kvs
  | .ins _ fs => scK n fs
  | .lck o => o.sc n
section
variable {K : PySem.W.Frag} {mg : Str → Option Value} {w w' : Wd} {H H' : Hp}
mutual
theorem rep_sc : ∀ {d : D} {v : V}, Rep K w H d v → d.sc w.M.length = true
  | .non, _, _ => rfl
  | .bl _, _, _ => rfl
  | .int _, _, _ => rfl
  | .str _, _, _ => rfl
  | .tup ds, _, h => by
    simp only [Rep] at h
    obtain ⟨a, vs, rfl, f, r⟩ := h
    simp only [D.sc]
    exact reps_sc r
  | .ktp ds, _, h => by
    simp only [Rep] at h
    obtain ⟨a, vs, rfl, f, r⟩ := h
    simp only [D.sc]
    exact reps_sc r
  | .lst ds, _, h => by
    simp only [Rep] at h
    obtain ⟨a, vs, rfl, f, r⟩ := h
    simp only [D.sc]
    exact reps_sc r
  | .frz ds, _, h => by
    simp only [Rep] at h
    obtain ⟨a, vs, rfl, f, r⟩ := h
    simp only [D.sc]
    exact reps_sc r
  | .loc l, _, h => by
    simp only [Rep] at h
    obtain ⟨a, e, _⟩ := h
    simp only [D.sc]
    exact decide_eq_true (List.getElem?_eq_some_iff.mp e).1
  | .exn _, _, _ => rfl
  | .exf _ _ _ _, _, _ => rfl
  | .exk _ _, _, _ => rfl
theorem reps_sc : ∀ {ds : List D} {vs : List V}, Reps K w H ds vs → D.scs w.M.length ds = true
  | [], _, _ => rfl
  | d :: ds, _, h => by
    simp only [Reps] at h
    obtain ⟨v, r, rfl, h1, h2⟩ := h
    simp only [D.scs, Bool.and_eq_true]
    exact ⟨rep_sc h1, reps_sc h2⟩
end
theorem rkv_sc {κ : Type} : ∀ {kvs : List (κ × D)} {vs : List (κ × V)}, RKv K w H kvs vs → scK w.M.length kvs = true
  | [], _, _ => rfl
  | (j, d) :: kvs, _, h => by
    obtain ⟨v, r, rfl, h1, h2⟩ := h
    have := rkv_sc h2
    unfold scK at this ⊢
    rw [List.all_cons, Bool.and_eq_true]
    exact ⟨rep_sc h1, this⟩
theorem rnv_sc : ∀ {kvs : List (NK × D)} {xs : List (NK × Addr × Value)}, RNv K w H kvs xs → scK w.M.length kvs = true
  | [], _, _ => rfl
  | (j, d) :: kvs, _, h => by
    obtain ⟨p, u, v, r, rfl, h1, h2, h3, h4⟩ := h
    have := rnv_sc h4
    unfold scK at this ⊢
    rw [List.all_cons, Bool.and_eq_true]
    exact ⟨rep_sc h3, this⟩
theorem ints_sc (n : Nat) : ∀ t : List Int, D.scs n (t.map D.int) = true
  | [] => rfl
  | _ :: t => by simp only [List.map_cons, D.scs, D.sc, Bool.true_and]; exact ints_sc n t
theorem nk_sc (n : Nat) (k : NK) : (nkD k).sc n = true := by
  have : ∀ k : NK, D.scs n (k.map fun t => D.tup (t.map D.int)) = true := fun k => by
    induction k with
    | nil => rfl
    | cons t k ih =>
      rw [List.map_cons]
      simp only [D.scs, D.sc, ints_sc, ih, Bool.and_self]
  unfold nkD
  simp only [D.sc]
  exact this k
theorem ho_sc : ∀ {o : Ob} {u : HO}, HoOk K w H mg o u → o.sc w.M.length = true
  | .lst ds, _, h => let ⟨_, _, r⟩ := h; reps_sc r
  | .dK ds, _, h => let ⟨_, _, r⟩ := h; rkv_sc r
  | .dT ds, _, h => let ⟨_, _, r⟩ := h; rkv_sc r
  | .dN ds, _, h => let ⟨_, _, _, r, _⟩ := h; rnv_sc r
  | .ins C ds, _, h => let ⟨_, _, _, _, _, r⟩ := h; rkv_sc r
  | .lck o, _, h => let ⟨_, _, _, r⟩ := h; ho_sc (o := o) r
/-- the later world cut to the earlier one -/
theorem cutL (hM : ∃ t, w'.M = w.M ++ t) (hB : w'.B = w.B) {a : Addr} {xs : List V} (h : FzL K w' H' a xs) : FzL K w H' a xs := by
  obtain ⟨t, ht⟩ := hM
  rcases h with ⟨n, b, h⟩ | h
  · exact .inl ⟨fun z => n (by rw [ht]; exact List.mem_append_left _ z), by rw [← hB]; exact b, h⟩
  · exact .inr h
mutual
theorem rep_cut (hM : ∃ t, w'.M = w.M ++ t) (hB : w'.B = w.B) : ∀ {d : D} {v : V}, Rep K w' H' d v → d.sc w.M.length = true → Rep K w H' d v
  | .non, _, h, _ => by simpa only [Rep] using h
  | .exn _, _, h, _ => by simpa only [Rep] using h
  | .exf _ _ _ _, _, h, _ => by
    obtain ⟨t, ht⟩ := hM
    simp only [Rep] at h ⊢
    exact ⟨h.1, fun z => h.2.1 (by rw [ht]; exact List.mem_append_left _ z), by rw [← hB]; exact h.2.2.1, h.2.2.2⟩
  | .exk c fl, _, h, _ => by
    obtain ⟨t, ht⟩ := hM
    simp only [Rep] at h ⊢
    obtain ⟨a, A, e, g, k⟩ := h
    have q : ∀ {x u}, FzE w' H' x u → FzE w H' x u := fun h => ⟨fun z => h.1 (by rw [ht]; exact List.mem_append_left _ z), by rw [← hB]; exact h.2.1, h.2.2⟩
    refine ⟨a, A, e, g, ?_⟩
    match fl, k with
    | none, k => exact q k
    | some (f, i), ⟨d, k1, k2⟩ => exact ⟨d, q k1, q k2⟩
  | .bl _, _, h, _ => by simpa only [Rep] using h
  | .int _, _, h, _ => by simpa only [Rep] using h
  | .str _, _, h, _ => by simpa only [Rep] using h
  | .tup ds, _, h, s => by
    simp only [Rep] at h ⊢
    simp only [D.sc] at s
    obtain ⟨a, vs, e, ⟨n, b, f⟩, r⟩ := h
    obtain ⟨t, ht⟩ := id hM
    exact ⟨a, vs, e, ⟨fun z => n (by rw [ht]; exact List.mem_append_left _ z), by rw [← hB]; exact b, f⟩, reps_cut hM hB r s⟩
  | .ktp ds, _, h, s => by
    simp only [Rep] at h ⊢
    simp only [D.sc] at s
    obtain ⟨a, vs, e, f, r⟩ := h
    obtain ⟨t, ht⟩ := id hM
    exact ⟨a, vs, e, f.imp_right fun f => f.by fun a u f n b => ⟨fun z => n (by rw [ht]; exact List.mem_append_left _ z), by rw [← hB]; exact b, f⟩, reps_cut hM hB r s⟩
  | .lst ds, _, h, s => by
    simp only [Rep] at h ⊢
    simp only [D.sc] at s
    obtain ⟨a, vs, e, ⟨n, b, f⟩, r⟩ := h
    obtain ⟨t, ht⟩ := id hM
    exact ⟨a, vs, e, ⟨fun z => n (by rw [ht]; exact List.mem_append_left _ z), by rw [← hB]; exact b, f⟩, reps_cut hM hB r s⟩
  | .frz ds, _, h, s => by
    simp only [Rep] at h ⊢
    simp only [D.sc] at s
    obtain ⟨a, vs, e, f, r⟩ := h
    exact ⟨a, vs, e, cutL hM hB f, reps_cut hM hB r s⟩
  | .loc l, _, h, s => by
    simp only [Rep] at h ⊢
    simp only [D.sc] at s
    obtain ⟨a, e, rfl⟩ := h
    obtain ⟨t, ht⟩ := hM
    refine ⟨a, ?_, rfl⟩
    rw [ht, List.getElem?_append_left (of_decide_eq_true s)] at e
    exact e
theorem reps_cut (hM : ∃ t, w'.M = w.M ++ t) (hB : w'.B = w.B) : ∀ {ds : List D} {vs : List V}, Reps K w' H' ds vs → D.scs w.M.length ds = true → Reps K w H' ds vs
  | [], _, h, _ => by simpa only [Reps] using h
  | d :: ds, _, h, s => by
    simp only [Reps] at h ⊢
    simp only [D.scs, Bool.and_eq_true] at s
    obtain ⟨v, r, e, h1, h2⟩ := h
    exact ⟨v, r, e, rep_cut hM hB h1 s.1, reps_cut hM hB h2 s.2⟩
end
theorem rkv_cut {κ : Type} (hM : ∃ t, w'.M = w.M ++ t) (hB : w'.B = w.B) : ∀ {kvs : List (κ × D)} {vs : List (κ × V)}, RKv K w' H' kvs vs → scK w.M.length kvs = true → RKv K w H' kvs vs
  | [], _, h, _ => h
  | (j, d) :: kvs, _, h, s => by
    obtain ⟨v, r, e, h1, h2⟩ := h
    unfold scK at s
    rw [List.all_cons, Bool.and_eq_true] at s
    exact ⟨v, r, e, rep_cut hM hB h1 s.1, rkv_cut hM hB h2 s.2⟩
theorem rnv_cut (hM : ∃ t, w'.M = w.M ++ t) (hB : w'.B = w.B) : ∀ {kvs : List (NK × D)} {xs : List (NK × Addr × Value)}, RNv K w' H' kvs xs → scK w.M.length kvs = true → RNv K w H' kvs xs
  | [], _, h, _ => h
  | (j, d) :: kvs, _, h, s => by
    obtain ⟨p, u, v, r, e, h1, h2, h3, h4⟩ := h
    unfold scK at s
    rw [List.all_cons, Bool.and_eq_true] at s
    exact ⟨p, u, v, r, e, rep_cut hM hB h1 (nk_sc _ _), h2, rep_cut hM hB h3 s.1, rnv_cut hM hB h4 s.2⟩
theorem ho_cut (hM : ∃ t, w'.M = w.M ++ t) (hB : w'.B = w.B) : ∀ {o : Ob} {u : HO}, HoOk K w' H' mg o u → o.sc w.M.length = true → HoOk K w H' mg o u
  | .lst ds, _, h, s => let ⟨vs, e, r⟩ := h; ⟨vs, e, reps_cut hM hB r s⟩
  | .dK ds, _, h, s => let ⟨vs, e, r⟩ := h; ⟨vs, e, rkv_cut hM hB r s⟩
  | .dT ds, _, h, s => let ⟨vs, e, r⟩ := h; ⟨vs, e, rkv_cut hM hB r s⟩
  | .dN ds, _, h, s => let ⟨a, xs, e, r, n⟩ := h; ⟨a, xs, e, rnv_cut hM hB r s, n⟩
  | .ins C ds, _, h, s => let ⟨A, dx, vs, m, e, r⟩ := h; ⟨A, dx, vs, m, e, rkv_cut hM hB r s⟩
  | .lck o, _, h, s => let ⟨od, u', e, r⟩ := h; ⟨od, u', e, ho_cut (o := o) hM hB r s⟩
end
open Classical in
noncomputable def gcD (den : List D → Store → Res D) (ds : List D) (S : Store) : Res D := match den ds S with
  | .ok d S' => if S.length ≤ S'.length ∧ d.sc S.length = true ∧ (∀ i < S.length, S'[i]? = S[i]? ∨ ∃ o, S'[i]? = some o ∧ o.sc S.length = true) then .ok d (S'.take S.length) else .ok d S'
  | r => r
theorem spD_gc {K : PySem.W.Frag} {mg : Str → Option Value} {n : Nat} {den : List D → Store → Res D} {vs : List V} {H : Hp} {Q : VK} {E : XK} (h : spD K mg n (gcD den) vs H Q E) : spD K mg n den vs H Q E := by
  obtain ⟨w, ds, S, A, r, hl, P⟩ := h
  refine ⟨w, ds, S, A, r, hl, ?_⟩
  unfold gcD at P
  cases hd : den ds S with
  | exc c fs S' => rw [hd] at P; exact P
  | stuck => rw [hd] at P; exact P
  | ok d S' =>
    rw [hd] at P
    simp only at P
    by_cases hc : S.length ≤ S'.length ∧ d.sc S.length = true ∧ (∀ i < S.length, S'[i]? = S[i]? ∨ ∃ o, S'[i]? = some o ∧ o.sc S.length = true)
    · rw [if_pos hc] at P
      obtain ⟨hlen, hds, hob⟩ := hc
      intro w' H' v e A' rv
      have hB := e.bk
      obtain ⟨t, ht⟩ := id e.pre
      rw [← A.len] at hds hob
      refine P w H' v ⟨⟨[], by simp⟩, rfl, fun a u ha n => ?_, e.fz⟩ ⟨?_, A.nd, fun a ha hm => ?_, fun a ha => ?_, fun l a o h1 h2 => ?_⟩ (rep_cut e.pre hB rv hds)
      · exact ⟨(e.keep a u ha n).1, n⟩
      · rw [List.length_take, A.len]; omega
      · exact A.bm a ha hm
      · exact A'.bt a (by rw [hB]; exact ha)
      · have hl1 : l < w.M.length := (List.getElem?_eq_some_iff.mp h1).1
        rw [List.getElem?_take_of_lt (by rw [← A.len]; exact hl1)] at h2
        obtain ⟨u, eu, k⟩ := A'.ob l a o (e.get h1) h2
        refine ⟨u, eu, ho_cut e.pre hB k ?_⟩
        rcases hob l hl1 with z | ⟨o', z, s⟩
        · rw [h2] at z
          obtain ⟨u0, _, k0⟩ := A.ob l a o h1 z.symm
          exact ho_sc k0
        · rw [h2] at z
          cases z
          exact s
    · rw [if_neg hc] at P
      exact P
theorem fn_gc {P : Program} {w : World} {K : PySem.W.Frag} {mg : Str → Option Value} {base : Heap} {k : Nat} {f : Addr} {fd : FuncData} {ps : List Str} {n : Nat} {den : List D → Store → Res D} (F : FnOk P w K mg base CX0 k f fd ps (spD K mg n den)) : FnOk P w K mg base CX0 k f fd ps (spD K mg n (gcD den)) :=
  F.imp fun _ _ _ _ h => spD_gc h
theorem gcD_ok {den : List D → Store → Res D} {ds : List D} {S S1 g : Store} {d : D} (h : den ds S = .ok d (S1 ++ g)) (hl : S1.length = S.length) (hd : d.sc S.length = true) (ho : ∀ i < S.length, S1[i]? = S[i]? ∨ ∃ o, S1[i]? = some o ∧ o.sc S.length = true) : gcD den ds S = .ok d S1 := by
  unfold gcD
  rw [h]
  simp only
  have hc : S.length ≤ (S1 ++ g).length ∧ d.sc S.length = true ∧ (∀ i < S.length, (S1 ++ g)[i]? = S[i]? ∨ ∃ o, (S1 ++ g)[i]? = some o ∧ o.sc S.length = true) :=
    ⟨by rw [List.length_append]; omega, hd, fun i hi => by rw [List.getElem?_append_left (by omega)]; exact ho i hi⟩
  rw [if_pos hc, ← hl, List.take_left]
theorem gcD_pure {den : List D → Store → Res D} {ds : List D} {S g : Store} {d : D} (h : den ds S = .ok d (S ++ g)) (hd : d.sc S.length = true) : gcD den ds S = .ok d S := gcD_ok h rfl hd fun _ _ => .inl rfl
end L3
namespace L3
open PySem PySem.Spec L2

/-! ### built-in functions -/
def mCB (g : List D → Store → Res D) (ms : DSt → Store → Res (List D)) (σ : DSt) (S : Store) : Res D := (ms σ S).bind fun ds S1 => g ds S1
def CallD (X : Cx) (W : XW) (f : Value) (g : List D → Store → Res D) : Prop := ∃ r, CallR X f r ∧ ∀ w H S ds vs σ Q, Ab X.K w H X.mg S → Reps X.K w H ds vs → Post X.K X.mg (Rep X.K) W σ w H (g ds S) Q → r vs H Q
section
variable {X : Cx} {W : XW} {x : Str} {p pos cpos apos : Pos} {e o : Expr} {es : List Expr} {g : List D → Store → Res D} {ms : DSt → Store → Res (List D)} {bid T : String}
theorem pm_callB (hc : CallD X W (.builtin bid) g) (hg : Gl X x) (hm : X.mg x = none) (hv : bootBuiltins x = some (.builtin bid)) (ha : PMA X W (e :: es) ms) (hn : x ≠ "__name__" := by decide) (hdb : (x == ("__debug__" : Str)) = false := by decide)
    (he : starEach (e :: es) X.env = (false, eval e X.env) :: starEach es X.env := by rfl) (hpl : (backTo pos (starEach es X.env)).any (·.1) = false := by rfl) : PM X W (.Call (.Name x p) (e :: es) [] pos) (mCB g ms) := by
  obtain ⟨r, h1, h2⟩ := hc
  exact PE.imp (pe_callB h1 hg hm hv ha hn hdb he hpl) fun σ H Q ⟨w, dσ, S, A, R, P⟩ => ⟨w, dσ, S, A, R, P.bind fun ds S1 w1 H1 vs e1 A1 r1 P1 => h2 w1 H1 S1 ds vs σ Q A1 r1 P1⟩
theorem pm_callTy (hc : CallD X W (.type T) g) (hg : Gl X x) (hm : X.mg x = none) (hv : bootBuiltins x = some (.type T)) (ha : PMA X W (e :: es) ms) (hn : x ≠ "__name__" := by decide) (hdb : (x == ("__debug__" : Str)) = false := by decide)
    (he : starEach (e :: es) X.env = (false, eval e X.env) :: starEach es X.env := by rfl) (hpl : (backTo pos (starEach es X.env)).any (·.1) = false := by rfl) : PM X W (.Call (.Name x p) (e :: es) [] pos) (mCB g ms) := by
  obtain ⟨r, h1, h2⟩ := hc
  exact PE.imp (pe_callTy h1 hg hm hv ha hn hdb he hpl) fun σ H Q ⟨w, dσ, S, A, R, P⟩ => ⟨w, dσ, S, A, R, P.bind fun ds S1 w1 H1 vs e1 A1 r1 P1 => h2 w1 H1 S1 ds vs σ Q A1 r1 P1⟩
def lenD (ds : List D) (S : Store) : Res D := match ds with
  | [.str z] => if z.length ≤ sizeLine then .ok (.int z.length) S else .stuck
  | [d] => match seqOf S d with
    | some es => .ok (.int es.length) S
    | none => .stuck
  | _ => .stuck
theorem cd_len : CallD X W (.builtin "len") lenD := by
  refine ⟨_, call_len, fun w H S ds vs σ Q A r P => ?_⟩
  unfold lenD at P
  split at P
  · split at P
    · rename_i z hz
      obtain ⟨v, rfl, r1⟩ := reps1 r
      exact ⟨_, _, rfl, by rw [rep_str r1]; exact ⟨hz, rfl⟩, P.fin A (of_int _)⟩
    · exact P.elim
  · split at P
    · rename_i d hno _ es hs
      obtain ⟨v, rfl, r1⟩ := reps1 r
      unfold seqOf at hs
      split at hs
      · rename_i es' h
        cases hs
        obtain ⟨a, vs, rfl, f, r'⟩ := rdL_rep A h r1
        exact ⟨_, _, rfl, .inl ⟨vs, f, rfl⟩, by rw [← r'.length]; exact P.fin A (of_int _)⟩
      · obtain ⟨a, vs, rfl, f, r'⟩ := rdT_rep hs r1
        exact ⟨_, _, rfl, .inr ⟨vs, f, rfl⟩, by rw [← r'.length]; exact P.fin A (of_int _)⟩
    · exact P.elim
  · exact P.elim
def absD (ds : List D) (S : Store) : Res D := match ds with
  | [.int i] => .ok (.int (if i < 0 then -i else i)) S
  | _ => .stuck
theorem cd_abs : CallD X W (.builtin "abs") absD := by
  refine ⟨_, call_abs, fun w H S ds vs σ Q A r P => ?_⟩
  unfold absD at P
  split at P
  · obtain ⟨v, rfl, r1⟩ := reps1 r
    exact ⟨_, by rw [rep_int r1], P.fin A (of_int _)⟩
  · exact P.elim
def max2D (ds : List D) (S : Store) : Res D := match ds with
  | [.int i, .int j] => .ok (.int (if j > i then j else i)) S
  | _ => .stuck
def min2D (ds : List D) (S : Store) : Res D := match ds with
  | [.int i, .int j] => .ok (.int (if j < i then j else i)) S
  | _ => .stuck
theorem cd_min2 (hc : X.calm = true) : CallD X W (.builtin "min") min2D := by
  refine ⟨_, call_min2 hc, fun w H S ds vs σ Q A r P => ?_⟩
  unfold min2D at P
  split at P
  · obtain ⟨v, u, rfl, r1, r2⟩ := reps2 r
    exact ⟨_, _, by rw [rep_int r1, rep_int r2], P.fin A (of_int _)⟩
  · exact P.elim
def intD (ds : List D) (S : Store) : Res D := match ds with
  | [.int i] => .ok (.int i) S
  | [.bl k] => .ok (.int (if k = true then 1 else 0)) S
  | [.str z] => match PySem.intText? z with
    | some n => if z.length ≤ 640 then .ok (.int n) S else .stuck
    | none => .stuck
  | _ => .stuck
theorem cd_int : CallD X W (.type "int") intD := by
  refine ⟨_, call_int1.or call_int_str, fun w H S ds vs σ Q A r P => ?_⟩
  unfold intD at P
  split at P
  · obtain ⟨v, rfl, r1⟩ := reps1 r
    exact .inl (.inl ⟨_, by rw [rep_int r1], P.fin A (of_int _)⟩)
  · obtain ⟨v, rfl, r1⟩ := reps1 r
    exact .inl (.inr ⟨_, by rw [rep_bl r1], P.fin A (of_int _)⟩)
  · split at P
    · rename_i z _ n hn
      split at P
      · rename_i hz
        obtain ⟨v, rfl, r1⟩ := reps1 r
        exact .inr ⟨z, n, by rw [rep_str r1], hn, hz, P.fin A (of_int _)⟩
      · exact P.elim
    · exact P.elim
  · exact P.elim
def blsOf : List D → Option (List Bool)
  | [] => some []
  | .bl i :: r => (blsOf r).map (i :: ·)
  | _ => none
theorem blsOf_rep {K : PySem.W.Frag} {w : Wd} {H : Hp} : ∀ {ds : List D} {ns : List Bool} {vs : List V}, blsOf ds = some ns → Reps K w H ds vs → vs = ns.map V.bl
  | [], ns, vs, h, r => by
    simp only [blsOf, Option.some.injEq] at h
    simp only [Reps] at r
    subst h r
    rfl
  | .bl i :: ds, ns, vs, h, r => by
    simp only [blsOf, Option.map_eq_some_iff] at h
    obtain ⟨ms, h1, rfl⟩ := h
    simp only [Reps] at r
    obtain ⟨v, us, rfl, e, r⟩ := r
    rw [rep_bl e, blsOf_rep h1 r]
    rfl
  | .non :: _, _, _, h, _ => by simp [blsOf] at h
  | .int _ :: _, _, _, h, _ => by simp [blsOf] at h
  | .str _ :: _, _, _, h, _ => by simp [blsOf] at h
  | .tup _ :: _, _, _, h, _ => by simp [blsOf] at h
  | .ktp _ :: _, _, _, h, _ => by simp [blsOf] at h
  | .lst _ :: _, _, _, h, _ => by simp [blsOf] at h
  | .frz _ :: _, _, _, h, _ => by simp [blsOf] at h
  | .loc _ :: _, _, _, h, _ => by simp [blsOf] at h
  | .exn _ :: _, _, _, h, _ => by simp [blsOf] at h
  | .exf _ _ _ _ :: _, _, _, h, _ => by simp [blsOf] at h
  | .exk _ _ :: _, _, _, h, _ => by simp [blsOf] at h
def onBls (f : List Bool → D) (ds : List D) (S : Store) : Res D := match ds with
  | [d] => match rdL S d with
    | some es => match blsOf es with
      | some bs => .ok (f bs) S
      | none => .stuck
    | none => .stuck
  | _ => .stuck
theorem cd_any (hc : X.calm = true) : CallD X W (.builtin "any") (onBls fun bs => .bl (bs.any id)) := by
  refine ⟨_, cr_any hc, fun w H S ds vs σ Q A r P => ?_⟩
  unfold onBls at P
  split at P
  · split at P
    · split at P
      · rename_i d _ es h1 _ bs h2
        obtain ⟨v, rfl, r1⟩ := reps1 r
        obtain ⟨a, us, rfl, f, r'⟩ := rdL_rep A h1 r1
        have e := blsOf_rep h2 r'
        subst e
        exact ⟨a, bs, rfl, f, P.fin A (of_bl _)⟩
      · exact P.elim
    · exact P.elim
  · exact P.elim
/-- list(text) -/
theorem call_list_text (hc : X.calm = true) : CallR X (.type "list") (fun xs H Q => ∃ z : Str, xs = [.str z] ∧ z.length ≤ sizeLine ∧ ∀ l, H l = none → Q (.ref l) (upd H l (.lst (z.cps.toList.map fun c => V.str ⟨#[c]⟩)))) := by
  intro pins s σ H xs us Q I r h
  obtain ⟨z, rfl, hz, q⟩ := h
  obtain ⟨u, rfl, t, rfl⟩ := vals1 r
  have hz' : z.cps.size ≤ sizeLine := hz
  refine PySem.call_list_str (hn := hz') (I.ok.hd hc) z t fun h' tk acc' c' hk hS' hacc => ?_
  have hl : acc'.size = z.cps.size := hacc.1
  have rv : Vals (z.cps.toList.map fun c => V.str ⟨#[c]⟩) acc'.toList := by
    have key : ∀ (cs : List Nat) (vs : List Value), vs.length = cs.length → (∀ (i : Nat) (v : Value), vs[i]? = some v → ∃ c u, cs[i]? = some c ∧ v = .str ⟨#[c]⟩ u) → Vals (cs.map fun c => V.str ⟨#[c]⟩) vs := by
      intro cs
      induction cs with
      | nil => intro vs h _; cases vs with
        | nil => exact .nil
        | cons v vs => simp at h
      | cons c cs ih =>
        intro vs h hv
        cases vs with
        | nil => simp at h
        | cons v vs =>
          obtain ⟨c', u, e1, e2⟩ := hv 0 v (by simp)
          simp at e1
          subst e1
          exact .cons ⟨u, e2⟩ (ih vs (by simpa using h) fun i v' e => by
            obtain ⟨c'', u', e3, e4⟩ := hv (i + 1) v' (by simpa using e)
            exact ⟨c'', u', by simpa using e3, e4⟩)
    refine key _ _ (by simp [hl]) fun i v e => ?_
    have hi : i < acc'.size := by
      have := (List.getElem?_eq_some_iff.mp e).1
      simpa using this
    have hv : acc'[i]? = some v := by simpa using e
    obtain ⟨c, u', hc1, rfl⟩ := hacc.2 i v hv
    exact ⟨c, u', by simpa using hc1, rfl⟩
  exact ⟨.ref _, upd H s.heap.objs.size (.lst (z.cps.toList.map fun c => V.str ⟨#[c]⟩)), I.laid (t' := tk) hk (Nat.le_refl _) ⟨by simpa using hz', acc'.toList, c', rv, by simpa using hS'⟩, rfl, q _ (I.hok.fresh (Nat.le_refl _))⟩
end
end L3
namespace L3
open PySem PySem.Spec L2

section
variable {X : Cx} {W : XW} {x : Str} {p pos cpos apos : Pos} {e o : Expr} {es : List Expr} {ms : DSt → Store → Res (List D)} {T : String}
/-! ### list(..), tuple(..) -/
def itemsOf (S : Store) (d : D) : Option (List D) := match d with
  | .str z => if z.length ≤ sizeLine then some (signsOf z) else none
  | d => seqOf S d
theorem signs_rep {K : PySem.W.Frag} {w : Wd} {H : Hp} : ∀ cs : List Nat, Reps K w H (cs.map fun c => D.str ⟨#[c]⟩) (cs.map fun c => V.str ⟨#[c]⟩)
  | [] => .nil
  | c :: cs => .cons (of_str _) (signs_rep cs)
def listD (mu : Bool) (ds : List D) (S : Store) : Res D := match ds with
  | [d] => match itemsOf S d with
    | some es => if mu = true then .ok (.loc S.length) (S ++ [.lst es]) else .ok (.lst es) S
    | none => .stuck
  | _ => .stuck
theorem newL {K : PySem.W.Frag} {mg : Str → Option Value} {W : XW} {σ : L2.St} {w : Wd} {H : Hp} {S : Store} {Q : VK} {es : List D} {vs : List V} {mu : Bool} (A : Ab K w H mg S) (r : Reps K w H es vs)
    (P : Post K mg (Rep K) W σ w H (if mu = true then .ok (.loc S.length) (S ++ [.lst es]) else .ok (.lst es) S) Q) : ∀ l, H l = none → Q (.ref l) (upd H l (.lst vs)) := by
  intro l hl
  split at P
  · exact P _ _ _ (Ex.newM hl) (newLst A hl r) (Rep.locNew A)
  · exact P w _ _ (Ex.new hl) (A.newF hl) (Rep.lstNew A hl r)
theorem cd_list (hc : X.calm = true) (mu : Bool) : CallD X W (.type "list") (listD mu) := by
  refine ⟨_, call_list_of.or (call_list_text hc), fun w H S ds vs σ Q A r P => ?_⟩
  unfold listD at P
  split at P
  · rename_i d
    obtain ⟨v, rfl, r1⟩ := reps1 r
    split at P
    · rename_i es h1
      unfold itemsOf at h1
      split at h1
      · split at h1
        · rename_i z hz
          cases h1
          exact .inr ⟨z, by rw [rep_str r1], hz, newL A (signs_rep _) P⟩
        · cases h1
      · unfold seqOf at h1
        split at h1
        · rename_i h2
          cases h1
          obtain ⟨a, us, rfl, f, r'⟩ := rdL_rep A h2 r1
          exact .inl ⟨a, us, rfl, .inl f, newL A r' P⟩
        · obtain ⟨a, us, rfl, f, r'⟩ := rdT_rep h1 r1
          exact .inl ⟨a, us, rfl, .inr f, newL A r' P⟩
    · exact P.elim
  · exact P.elim
def tupleD (ds : List D) (S : Store) : Res D := match ds with
  | [d] => match rdL S d with
    | some es => .ok (.tup es) S
    | none => match d with
      | .tup es => .ok (.tup es) S
      | _ => .stuck
  | _ => .stuck
theorem cd_tuple : CallD X W (.type "tuple") tupleD := by
  refine ⟨_, call_tuple_of, fun w H S ds vs σ Q A r P => ?_⟩
  unfold tupleD at P
  split at P
  · rename_i d
    obtain ⟨v, rfl, r1⟩ := reps1 r
    split at P
    · rename_i es h1
      obtain ⟨a, us, rfl, f, r'⟩ := rdL_rep A h1 r1
      exact ⟨a, us, rfl, .inl ⟨f, fun l hl => P w _ _ (Ex.new hl) (A.newF hl) (Rep.tupNew A hl r')⟩⟩
    · split at P
      · obtain ⟨a, us, rfl, f, r'⟩ := tup_rep r1
        exact ⟨a, us, rfl, .inr ⟨.of f, P.fin A r1⟩⟩
      · exact P.elim
  · exact P.elim

/-! ### isinstance(x, a built-in class) -/
def tyName (S : Store) : D → Option String
  | .non => some "NoneType"
  | .bl _ => some "bool"
  | .int _ => some "int"
  | .str _ => some "str"
  | .tup _ => some "tuple"
  | .ktp _ => some "tuple"
  | .lst _ => some "list"
  | .frz _ => none
  | .loc l => match S[l]? with
    | some (.lst _) => some "list"
    | some (.dK _) => some "dict"
    | some (.dT _) => some "dict"
    | _ => none
  | .exn _ => none
  | .exf _ _ _ _ => none
  | .exk _ _ => none
def isiD (T : String) (d : D) (S : Store) : Res D := match tyName S d with
  | some n => match kitB n T with
    | some b => .ok (.bl b) S
    | none => .stuck
  | none => .stuck
theorem tyName_rep {K : PySem.W.Frag} {mg : Str → Option Value} {w : Wd} {H : Hp} {S : Store} (A : Ab K w H mg S) {d : D} {n : String} {v : V} (h : tyName S d = some n) (r : Rep K w H d v) : TyX K H v (.type n) := by
  cases d with
  | non => cases h; rw [rep_non r]; exact .base .non
  | bl b => cases h; rw [rep_bl r]; exact .base (.bl b)
  | int b => cases h; rw [rep_int r]; exact .base (.int b)
  | str b => cases h; rw [rep_str r]; exact .base (.str b)
  | tup ds =>
    cases h
    obtain ⟨a, vs, rfl, f, _⟩ := tup_rep r
    exact .base (.tup f)
  | ktp ds =>
    cases h
    simp only [Rep] at r
    obtain ⟨a, vs, rfl, f, _⟩ := r
    rcases f with ⟨o, its, n, e, hc, _⟩ | ⟨_, _, o, its, n, e, _⟩
    · exact .kTuple e hc
    · exact .fTuple e
  | exn a => cases h
  | exf _ _ _ _ => cases h
  | exk _ _ => cases h
  | lst ds =>
    cases h
    simp only [Rep] at r
    obtain ⟨a, vs, rfl, f, _⟩ := r
    exact .base (.lst f.2.2)
  | frz ds => cases h
  | loc l =>
    simp only [tyName] at h
    simp only [Rep] at r
    obtain ⟨a, el, rfl⟩ := r
    split at h
    · rename_i q
      cases h
      obtain ⟨u, eu, vs, rfl, _⟩ := A.ob l a _ el q
      exact .base (.lst eu)
    · rename_i q
      cases h
      obtain ⟨u, eu, vs, rfl, _⟩ := A.ob l a _ el q
      exact .base (.dK eu)
    · rename_i q
      cases h
      obtain ⟨u, eu, vs, rfl, _⟩ := A.ob l a _ el q
      exact .base (.dT eu)
    · cases h
theorem pm_isi {m : DSt → Store → Res D} {tn : Str} {p2 : Pos} (hg : Gl X "isinstance") (hm : X.mg "isinstance" = none) (hv : bootBuiltins "isinstance" = some (.builtin "isinstance")) (ha : PM X W e m)
    (hg2 : Gl X tn) (hm2 : X.mg tn = none) (hv2 : bootBuiltins tn = some (.type T)) (hn2 : tn ≠ "__name__" := by decide) (hdb2 : (tn == ("__debug__" : Str)) = false := by decide)
    (he : starEach [e, .Name tn p2] X.env = (false, eval e X.env) :: starEach [.Name tn p2] X.env := by rfl) (hpl : (backTo pos (starEach [.Name tn p2] X.env)).any (·.1) = false := by rfl)
    (he2 : starEach [.Name tn p2] X.env = (false, eval (.Name tn p2) X.env) :: starEach [] X.env := by rfl) : PM X W (.Call (.Name "isinstance" p) [e, .Name tn p2] [] pos) (m1 m (isiD T)) := by
  refine PE.imp (pe_callB call_isi hg hm hv (pa_cons ha (pa_cons (pe_bltn hg2 hm2 hv2 (v := .ty T) rfl hn2 hdb2) pa_nil he2) he) (by decide) (by decide) he hpl) fun σ H Q ⟨w, dσ, S, A, R, P⟩ => ?_
  refine ⟨w, dσ, S, A, R, P.bind fun d S1 w1 H1 v e1 A1 r1 P1 => ?_⟩
  unfold isiD at P1
  split at P1
  · rename_i n h1
    split at P1
    · rename_i b h2
      exact ⟨v, .ty T, .type n, .type T, b, rfl, .ty T, tyName_rep A1 h1 r1, kit_ty h2, P1.fin A1 (of_bl _)⟩
    · exact P1.elim
  · exact P1.elim

/-! ### methods of built-in types -/
def MtD (X : Cx) (W : XW) (T : String) (bid : String) (g : D → List D → Store → Res D) : Prop := ∃ r, MtR X bid r ∧ ∀ w H S d ds v vs σ Q, Ab X.K w H X.mg S → Rep X.K w H d v → Reps X.K w H ds vs → Post X.K X.mg (Rep X.K) W σ w H (g d ds S) Q → r v vs H Q
/-- the receiver is of the type -/
def tyOk (T : String) (S : Store) (d : D) : Bool := match d with
  | .str _ => T == "str"
  | .lst _ => T == "list"
  | .frz _ => T == "list"
  | .loc l => match S[l]? with
    | some (.lst _) => T == "list"
    | some (.dK _) => T == "dict"
    | some (.dT _) => T == "dict"
    | _ => false
  | _ => false
theorem tyOk_rep {K : PySem.W.Frag} {mg : Str → Option Value} {w : Wd} {H : Hp} {S : Store} (A : Ab K w H mg S) {d : D} {v : V} (h : tyOk T S d = true) (r : Rep K w H d v) : tyV K T v H := by
  cases d with
  | str b => rw [rep_str r]; exact beq_iff_eq.mp h
  | lst ds =>
    simp only [Rep] at r
    obtain ⟨a, vs, rfl, f, _⟩ := r
    exact .inl ⟨beq_iff_eq.mp h, vs, f.sq⟩
  | frz ds =>
    simp only [Rep] at r
    obtain ⟨a, vs, rfl, f, _⟩ := r
    exact .inl ⟨beq_iff_eq.mp h, vs, f.sq⟩
  | loc l =>
    simp only [tyOk] at h
    simp only [Rep] at r
    obtain ⟨a, el, rfl⟩ := r
    split at h
    · rename_i q
      obtain ⟨u, eu, vs, rfl, _⟩ := A.ob l a _ el q
      exact .inl ⟨beq_iff_eq.mp h, vs, .of eu⟩
    · rename_i q
      obtain ⟨u, eu, vs, rfl, _⟩ := A.ob l a _ el q
      exact .inr (.inr (.inl ⟨beq_iff_eq.mp h, .inl ⟨vs, eu⟩⟩))
    · rename_i q
      obtain ⟨u, eu, vs, rfl, _⟩ := A.ob l a _ el q
      exact .inr (.inr (.inl ⟨beq_iff_eq.mp h, .inr ⟨vs, eu⟩⟩))
    · cases h
  | _ => simp [tyOk] at h
def mBM (T : String) (g : D → List D → Store → Res D) (mo : DSt → Store → Res D) (ms : DSt → Store → Res (List D)) (σ : DSt) (S : Store) : Res D :=
  (mo σ S).bind fun d S1 => if tyOk T S1 d = true then (ms σ S1).bind fun ds S2 => g d ds S2 else .stuck
theorem pm_bm {mo : DSt → Store → Res D} {name : Str} {bid : String} {g : D → List D → Store → Res D} (hm : MtD X W T bid g) (pa : PlainAttrs T) (slot : Slot T name bid) (hty : typeOf (.builtin bid) = pure (.type "method_descriptor")) (ho : PM X W o mo) (ha : PMA X W (e :: es) ms)
    (hbase : attributeBase o name X.env (eval o X.env) = eval o X.env := by rfl)
    (hfew : ((backTo cpos (starEach (e :: es) X.env)).all (fun x => !x.1) && (backToKw cpos (keywordEach [] X.env)).all (fun x => x.1.isSome)
      && decide ((e :: es).length + ([] : List Keyword).length + (if ([] : List Keyword).isEmpty then 0 else 1) < 30)) = true := by rfl)
    (hline : (apos.endLine == cpos.line) = true := by rfl) (hs : starEach (e :: es) X.env = (false, eval e X.env) :: starEach es X.env := by rfl) (hplain : (backTo cpos (starEach es X.env)).any (·.1) = false := by rfl) :
    PM X W (.Call (.Attribute o name apos) (e :: es) [] cpos) (mBM T g mo ms) := by
  obtain ⟨r, h1, h2⟩ := hm
  refine PE.imp (pe_bm pa slot hty h1 ho ha hbase hfew hline hs hplain) fun σ H Q ⟨w, dσ, S, A, R, P⟩ => ⟨w, dσ, S, A, R, P.bind fun d S1 w1 H1 v e1 A1 r1 P1 => ?_⟩
  split at P1
  · rename_i ht
    exact ⟨tyOk_rep A1 ht r1, w1, dσ, S1, A1, R.mono e1, P1.bind fun ds S2 w2 H2 vs e2 A2 r2 P2 => h2 w2 H2 S2 d ds v vs σ Q A2 (r1.mono e2) r2 P2⟩
  · exact P1.elim
/-- a mutable list -/
def mutL (S : Store) : D → Option (Nat × List D)
  | .loc l => match S[l]? with
    | some (.lst ds) => some (l, ds)
    | _ => none
  | _ => none
theorem mutL_rep {K : PySem.W.Frag} {mg : Str → Option Value} {w : Wd} {H : Hp} {S : Store} (A : Ab K w H mg S) {d : D} {v : V} {l : Nat} {ds : List D} (h : mutL S d = some (l, ds)) (r : Rep K w H d v) :
    ∃ a vs, v = .ref a ∧ w.M[l]? = some a ∧ a ∈ w.M ∧ H a = some (.lst vs) ∧ Reps K w H ds vs := by
  cases d with
  | loc l' =>
    simp only [mutL] at h
    split at h
    · rename_i q
      cases h
      simp only [Rep] at r
      obtain ⟨a, el, rfl⟩ := r
      obtain ⟨u, eu, vs, rfl, r⟩ := A.ob _ a _ el q
      exact ⟨a, vs, rfl, el, List.mem_of_getElem? el, eu, r⟩
    · cases h
  | _ => simp [mutL] at h
def appendD (d : D) (ds : List D) (S : Store) : Res D := match mutL S d, ds with
  | some (l, es), [e] => if es.length < sizeLine then .ok .non (S.set l (.lst (es ++ [e]))) else .stuck
  | _, _ => .stuck
theorem md_append : MtD X W "list" "list.append" appendD := by
  refine ⟨_, mt_append, fun w H S d ds v vs σ Q A r rs P => ?_⟩
  unfold appendD at P
  split at P
  · split at P
    · rename_i l es e h1 hz
      obtain ⟨a, us, rfl, el, hm, eu, r'⟩ := mutL_rep A h1 r
      obtain ⟨u, rfl, r1⟩ := reps1 rs
      exact ⟨a, us, u, rfl, rfl, eu, by rw [← r'.length]; exact hz, P w _ _ (Ex.wr hm (nz_lst eu)) (A.wr el (nz_lst eu) ⟨_, rfl, r'.append (.cons r1 .nil)⟩) of_non⟩
    · exact P.elim
  · exact P.elim
def extendD (d : D) (ds : List D) (S : Store) : Res D := match mutL S d, ds with
  | some (l, es), [e] => match exL S e with
    | some fs => if es.length + fs.length ≤ sizeLine then .ok .non (S.set l (.lst (es ++ fs))) else .stuck
    | none => .stuck
  | _, _ => .stuck
theorem md_extend : MtD X W "list" "list.extend" extendD := by
  refine ⟨_, mt_extend, fun w H S d ds v vs σ Q A r rs P => ?_⟩
  unfold extendD at P
  split at P
  · rename_i l es e h1
    split at P
    · rename_i fs h2
      split at P
      · rename_i hz
        obtain ⟨a, us, rfl, el, hm, eu, r'⟩ := mutL_rep A h1 r
        obtain ⟨u, rfl, r1⟩ := reps1 rs
        obtain ⟨b, us2, rfl, f, r2⟩ := exL_rep A h2 r1
        exact ⟨a, b, us, us2, rfl, rfl, eu, f, by rw [← r'.length, ← r2.length]; exact hz, P w _ _ (Ex.wr hm (nz_lst eu)) (A.wr el (nz_lst eu) ⟨_, rfl, r'.append r2⟩) of_non⟩
      · exact P.elim
    · exact P.elim
  · exact P.elim
def popD (d : D) (ds : List D) (S : Store) : Res D := match mutL S d, ds with
  | some (l, es), [] => match es[es.length - 1]? with
    | some e => .ok e (S.set l (.lst es.dropLast))
    | none => .stuck
  | some (l, es), [.int i] => if -(2 ^ 63) ≤ i ∧ i < 2 ^ 63 then (match seqIndex? i es.length with
    | some k => match es[k]? with
      | some e => .ok e (S.set l (.lst (es.eraseIdx k)))
      | none => .stuck
    | none => .stuck) else .stuck
  | _, _ => .stuck
theorem md_pop : MtD X W "list" "list.pop" popD := by
  refine ⟨_, L2.MtR.or (r := rPop) (r' := rPopAt) mt_pop mt_popAt, fun w H S d ds v vs σ Q A r rs P => ?_⟩
  unfold popD at P
  split at P
  · rename_i l es h1
    split at P
    · rename_i e h2
      obtain ⟨a, us, rfl, el, hm, eu, r'⟩ := mutL_rep A h1 r
      simp only [Reps] at rs
      obtain ⟨u, hu, ru⟩ := r'.get h2
      rw [r'.length] at hu
      exact .inl ⟨a, us, u, rfl, rs, eu, hu, P w _ _ (Ex.wr hm (nz_lst eu)) (A.wr el (nz_lst eu) ⟨_, rfl, r'.dropLast⟩) (ru.mono (Ex.wr hm (nz_lst eu)))⟩
    · exact P.elim
  · rename_i l es i h1
    split at P
    · rename_i hz
      split at P
      · rename_i k hk
        split at P
        · rename_i e h2
          obtain ⟨a, us, rfl, el, hm, eu, r'⟩ := mutL_rep A h1 r
          obtain ⟨u, rfl, r1⟩ := reps1 rs
          obtain ⟨y, hy, ry⟩ := r'.get h2
          exact .inr ⟨a, us, i, k, y, rfl, by rw [rep_int r1], eu, hz.1, hz.2, by rw [← r'.length]; exact hk, hy, P w _ _ (Ex.wr hm (nz_lst eu)) (A.wr el (nz_lst eu) ⟨_, rfl, r'.eraseIdx k⟩) (ry.mono (Ex.wr hm (nz_lst eu)))⟩
        · exact P.elim
      · exact P.elim
    · exact P.elim
  · exact P.elim
/-- texts -/
def joinD (d : D) (ds : List D) (S : Store) : Res D := match d, ds with
  | .str z, [e] => match seqOf S e with
    | some es => match strsOf es with
      | some ys => if (ys.map (·.length)).sum + ys.length * z.length ≤ 16777216 then .ok (.str (Txt.join z ys)) S else .stuck
      | none => .stuck
    | none => .stuck
  | _, _ => .stuck
theorem md_join : MtD X W "str" "str.join" joinD := by
  refine ⟨_, mt_join, fun w H S d ds v vs σ Q A r rs P => ?_⟩
  unfold joinD at P
  split at P
  · rename_i z e
    obtain ⟨u, rfl, r1⟩ := reps1 rs
    split at P
    · rename_i es h1
      split at P
      · rename_i ys h2
        split at P
        · rename_i hz
          unfold seqOf at h1
          split at h1
          · rename_i h3
            cases h1
            obtain ⟨a, us, rfl, f, r'⟩ := rdL_rep A h3 r1
            have e2 := strsOf_rep h2 r'
            subst e2
            exact ⟨z, a, ys, rep_str r, rfl, .inl f, hz, P.fin A (of_str _)⟩
          · obtain ⟨a, us, rfl, f, r'⟩ := rdT_rep h1 r1
            have e2 := strsOf_rep h2 r'
            subst e2
            exact ⟨z, a, ys, rep_str r, rfl, .inr f, hz, P.fin A (of_str _)⟩
        · exact P.elim
      · exact P.elim
    · exact P.elim
  · exact P.elim
/-! ### a text times an int; a text backwards -/
def repS (z : Str) (n : Nat) : Str := ⟨(List.replicate n z.cps.toList).flatten.toArray⟩
theorem op_mul_str : OpR X (binaryOp .Mult) (fun x y H Q => ∃ (z : Str) (i : Int), x = .str z ∧ y = .int i ∧ -(2 ^ 63) ≤ i ∧ i < 2 ^ 63 ∧ z.length * i.toNat ≤ 16777216 ∧ Q (.str (repS z i.toNat)) H) := by
  intro pins s σ H x y v u Q I rx ry h
  obtain ⟨z, i, rfl, rfl, h1, h2, h3, q⟩ := h
  obtain ⟨t, rfl⟩ := rx
  obtain ⟨t', rfl⟩ := ry
  have hlong : Builtin.Str.tooLong (z.length * i.toNat) = false := PyProof.Rows.short24 h3
  refine PySem.P.mul_str (by rw [decide_eq_false (by omega), decide_eq_false (by omega)]; rfl) (fun a b => ?_) (fun _ _ => hlong) ?_
  · have hi : 1 ≤ i := by omega
    have e : (2 ^ 63 - 1 : Int) / i ≥ z.length := by
      have : (z.length : Int) * i ≤ 16777216 := by
        have e2 : ((z.length * i.toNat : Nat) : Int) = z.length * i := by
          rw [Int.natCast_mul, Int.toNat_of_nonneg (by omega)]
        omega
      exact (Int.le_ediv_iff_mul_le (by omega)).mpr (by omega)
    omega
  · have hz0 : z.length = z.cps.size := rfl
    split
    · rename_i hlt
      have e : i.toNat = 0 := by omega
      rw [e] at q
      exact ⟨by decide, ⟨.str (repS z 0), H, I.tok _, ⟨_, rfl⟩, q⟩⟩
    · split
      · rename_i hlt hone
        have e : repS z i.toNat = z := by
          unfold repS
          rcases Bool.or_eq_true _ _ ▸ hone with a | a
          · have : i = 1 := beq_iff_eq.mp a
            subst this
            simp
          · have e0 : z.cps.size = 0 := by have := beq_iff_eq.mp a; rw [← hz0]; exact this
            have e1 : z.cps = #[] := Array.eq_empty_of_size_eq_zero e0
            have e2 : (List.replicate i.toNat z.cps.toList).flatten = [] := by
              rw [e1]
              induction i.toNat with
              | zero => rfl
              | succ n ih => rw [List.replicate_succ, List.flatten_cons, ih]; rfl
            rw [e2]
            cases z
            simp at e1
            subst e1
            rfl
        rw [e] at q
        exact ⟨.str z, H, I.tok s.toks, ⟨_, rfl⟩, q⟩
      · have key : ∀ (n : Nat) (acc : List Nat), (List.replicate n z.cps).foldl (· ++ ·) acc.toArray = (acc ++ (List.replicate n z.cps.toList).flatten).toArray := by
          intro n
          induction n with
          | zero => intro acc; simp
          | succ n ih =>
            intro acc
            rw [List.replicate_succ, List.foldl_cons, List.replicate_succ, List.flatten_cons]
            have e : acc.toArray ++ z.cps = (acc ++ z.cps.toList).toArray := by
              apply Array.toList_inj.mp
              simp
            rw [e, ih, List.append_assoc]
        have e : (⟨(List.replicate i.toNat z.cps).foldl (· ++ ·) #[]⟩ : Str) = repS z i.toNat := by
          have := key i.toNat []
          rw [List.nil_append] at this
          unfold repS
          rw [← this]
        rw [e]
        refine ⟨?_, ⟨.str (repS z i.toNat), H, I.tok _, ⟨_, rfl⟩, q⟩⟩
        have hl : (repS z i.toNat).length = z.length * i.toNat := by
          unfold repS Str.length
          simp [Nat.mul_comm]
        rw [hl]
        exact Nat.le_trans h3 (by decide)
def mulX (d e : D) (S : Store) : Res D := match d, e with
  | .str z, .int i => if -(2 ^ 63) ≤ i ∧ i < 2 ^ 63 ∧ z.length * i.toNat ≤ 16777216 then .ok (.str (repS z i.toNat)) S else .stuck
  | d, e => mulD d e S
theorem od_mulX : OpD X W (binaryOp .Mult) mulX := by
  obtain ⟨r, h1, h2⟩ := (od_mul : OpD X W (binaryOp .Mult) mulD)
  refine ⟨_, op_mul_str.or h1, fun w H S d e x y σ Q A rd re P => ?_⟩
  unfold mulX at P
  split at P
  · split at P
    · rename_i hz
      exact .inl ⟨_, _, rep_str rd, rep_int re, hz.1, hz.2.1, hz.2.2, P.fin A (of_str _)⟩
    · exact P.elim
  · exact .inr (h2 w H S _ _ x y σ Q A rd re P)
end
end L3
namespace L3
open PySem PySem.Spec L2
def revS (z : Str) : Str := ⟨z.cps.toList.reverse.toArray⟩
def revD (d : D) (S : Store) : Res D := match d with
  | .str z => if z.length ≤ sizeLine then .ok (.str (revS z)) S else .stuck
  | d => match rdL S d with
    | some ds => .ok (.lst ds.reverse) S
    | none => .stuck
section
variable {X : Cx} {W : XW} {pos : Pos} {elt tg iter : Expr} {ifs : List Expr} {scope : Scope} {own : List (Str × Nat)} {mi : DSt → Store → Res Src} {g : D → DSt → Store → Res DSt} {t : DSt → Store → Res Bool} {e : DSt → Store → Res D} {is : List Nat}
theorem pms_setLc {i : Nat} {y : Str} {py spos : Pos} (hc : X.calm = true) (hN : X.N.Nodup) (hy : X.N[i]? = some y) (hyl : X.env.scope.names.lookup y = some .local)
    (hsw : swapsWith (.ListComp elt [⟨tg, iter, ifs, 0⟩] scope pos) (some (.Name y py)) spos.line X.env = pure true) (hi : PMI X W tg iter mi) (ok : BlkOk X.N X.env.scope scope own)
    (hg : ∀ (s : Shared) (H : Hp) (C : Addr) (cl : List (Str × Addr)) (fp : List Addr), PMX (X.blk s H scope (compEnvC scope cl C X.env) fp) is tg g)
    (ht : ∀ (s : Shared) (H : Hp) (C : Addr) (cl : List (Str × Addr)) (fp : List Addr), PTs (X.blk s H scope (compEnvC scope cl C X.env) fp) ifs (tOfT X.K X.mg W0 t))
    (he : ∀ (s : Shared) (H : Hp) (C : Addr) (cl : List (Str × Addr)) (fp : List Addr), PM (X.blk s H scope (compEnvC scope cl C X.env) fp) W0 elt e) (his : ∀ i ∈ is, i ∈ own.map (·.2)) (hs : ∀ x, foldedSetIterable iter X.env x = pure x := by intro _; rfl) :
    PMS X W (.Assign [.Name y py] (.ListComp elt [⟨tg, iter, ifs, 0⟩] scope pos) spos) (mSet i (mLc mi g t e (own.map (·.2)))) :=
  PS.imp (ps_setLc hc hN hy hyl hsw hi ok hg ht he hs) fun D σ H ⟨w, dσ, S, A, R, P⟩ => by
    have P' : Post X.K X.mg (Rep X.K) W σ w H (mLc mi g t e (own.map (·.2)) dσ S) (fun x H1 => gName i x σ H1 D.nx) := P.bindE R fun d S1 w1 H1 v e1 A1 r1 P1 => P1.nx A1 ((R.mono e1).set r1 i)
    exact ⟨w, dσ, S, A, R, P'.bind fun src S1 w1 H1 J e1 A1 rj P1 => lc_imp his (fun A' hb _ hpB e' r' ex P' => fin_lst A' hb hpB e' r' ex P') A1 (R.mono e1) rj.1 rj.2 P1⟩
theorem pm_gint {x : Str} {i : Int} {ps : Pos} (hg : Gl X x) (h : ∃ t, X.mg x = some (.int i t)) (hd : (x == ("__debug__" : Str)) = false := by decide) : PM X W (.Name x ps) (mC (.int i)) :=
  let ⟨t, e⟩ := h
  pm_glob (v := .int i) hg e ⟨t, rfl⟩ (fun _ _ => of_int i) hd
end
theorem bb_len : bootBuiltins "len" = some (.builtin "len") := by decide +kernel
theorem bb_abs : bootBuiltins "abs" = some (.builtin "abs") := by decide +kernel
theorem bb_min : bootBuiltins "min" = some (.builtin "min") := by decide +kernel
theorem bb_any : bootBuiltins "any" = some (.builtin "any") := by decide +kernel
theorem bb_sorted : bootBuiltins "sorted" = some (.builtin "sorted") := by decide +kernel
theorem bb_isinstance : bootBuiltins "isinstance" = some (.builtin "isinstance") := by decide +kernel
theorem bb_int : bootBuiltins "int" = some (.type "int") := by decide +kernel
theorem bb_bool : bootBuiltins "bool" = some (.type "bool") := by decide +kernel
theorem bb_list : bootBuiltins "list" = some (.type "list") := by decide +kernel
theorem bb_tuple : bootBuiltins "tuple" = some (.type "tuple") := by decide +kernel
end L3
namespace L3
open PySem PySem.Spec L2
/-! ### the law's own promise -/
/-- at a script of ints the law says True -/
def Says (den : List D → Store → Res D) : Prop := ∀ ns : List Int, ns.length ≤ 63 → ∃ S', den [.frz (ns.map D.int)] [] = .ok (.bl true) S'
def spOut (K : PySem.W.Frag) (den : List D → Store → Res D) : Sp := fun vs H Q E => ∀ mg, spD K mg 1 den vs H Q E
theorem FnOk.out {P : Program} {w : World} {K : PySem.W.Frag} {mg : Str → Option Value} {base : Heap} {k : Nat} {f : Addr} {fd : FuncData} {ps : List Str} {den : List D → Store → Res D} (F : FnOk P w K mg base CX0 k f fd ps (spD K mg 1 den)) :
    FnOk P w K mg base CX0 k f fd ps (spOut K den) := F.imp fun _ _ _ _ h => h mg
theorem reps_ints {K : PySem.W.Frag} {w : Wd} {H : Hp} : ∀ ns : List Int, Reps K w H (ns.map D.int) (ns.map V.int)
  | [] => .nil
  | n :: ns => .cons rfl (reps_ints ns)
theorem says_out {K : PySem.W.Frag} {den : List D → Store → Res D} (h : Says den) {H : Hp} {a : Addr} {ns : List Int} (hl : ns.length ≤ 63) (hS : SqL K H a (ns.map V.int)) : spOut K den [.ref a] H (fun v _ => v = .bl true) E0 := by
  intro mg
  obtain ⟨S', e⟩ := h ns hl
  refine ⟨⟨[], []⟩, [.frz (ns.map D.int)], [], ⟨rfl, List.nodup_nil, fun _ h => (List.not_mem_nil h).elim, fun _ h => (List.not_mem_nil h).elim, fun l a o h => by simp at h⟩, .cons ⟨a, _, rfl, ?_, reps_ints ns⟩ .nil, rfl, ?_⟩
  · rcases hS with h | h
    · exact .inl ⟨List.not_mem_nil, List.not_mem_nil, h⟩
    · exact .inr (.inr h)
  · rw [e]
    exact fun w' H' v _ _ r => r
end L3
namespace L3
open PySem PySem.Spec L2

/-! ### in, not in; how often a text stands in a text -/
section
variable {X : Cx} {W : XW}
/-- a tuple's data -/
theorem op_inT (hu : X.A.units + 65 < cLine) : OpR X (compareOp .In) (fun x y H Q => ∃ d ds, Dp X.K H x d ∧ Dp X.K H y (.tuple ds) ∧ SeqAt.shaped d = true ∧ SeqAt.shaped (.tuple ds) = true ∧ Q (.bl (ds.any fun z => PyData.eqv z d)) H) := fun pins s σ H x y v u Q I rx ry ⟨d, ds, hd, he, sd, se, q⟩ => by
  obtain ⟨as, r1⟩ := Dp.reads I d x v hd rx
  obtain ⟨bs, r2⟩ := Dp.reads I (.tuple ds) y u he ry
  exact SeqAt.in_tuple_reads r2 r1
    (SeqAt.canLay_of_shaped se) (SeqAt.canLay_of_shaped sd) (PyProof.Rows.room_in_shaped sd hu) ⟨.bl _, H, I, rfl, q⟩
theorem op_notInT (hu : X.A.units + 65 < cLine) : OpR X (compareOp .NotIn) (fun x y H Q => ∃ d ds, Dp X.K H x d ∧ Dp X.K H y (.tuple ds) ∧ SeqAt.shaped d = true ∧ SeqAt.shaped (.tuple ds) = true ∧ Q (.bl (!ds.any fun z => PyData.eqv z d)) H) := fun pins s σ H x y v u Q I rx ry ⟨d, ds, hd, he, sd, se, q⟩ => by
  obtain ⟨as, r1⟩ := Dp.reads I d x v hd rx
  obtain ⟨bs, r2⟩ := Dp.reads I (.tuple ds) y u he ry
  exact SeqAt.notIn_tuple_reads r2 r1
    (SeqAt.canLay_of_shaped se) (SeqAt.canLay_of_shaped sd) (PyProof.Rows.room_in_shaped sd hu) ⟨.bl _, H, I, rfl, q⟩
def inD (neg : Bool) (d e : D) (S : Store) : Res D := match d, e with
  | .str x, .str y => .ok (.bl (xor neg (!(Builtin.Str.occurrences y x 0 y.length 1).isEmpty))) S
  | d, e => match pyS S d, pyS S e with
    | some p, some (.list ds) => if SeqAt.shaped p = true ∧ SeqAt.shaped (.list ds) = true then .ok (.bl (xor neg (ds.any fun z => PyData.eqv z p))) S else .stuck
    | some p, some (.tuple ds) => if SeqAt.shaped p = true ∧ SeqAt.shaped (.tuple ds) = true then .ok (.bl (xor neg (ds.any fun z => PyData.eqv z p))) S else .stuck
    | _, _ => match dlook S e d with
      | some r => .ok (.bl (xor neg r.isSome)) S
      | none => .stuck
theorem op_inDc (hu : X.A.units + 1 < cLine) : OpR X (compareOp .In) (fun x y H Q => ∃ a o, y = .ref a ∧ DGet H a x o ∧ Q (.bl o.isSome) H) := fun pins s σ H x y v u Q I rx ry ⟨a, o, e, g, q⟩ => by
  subst e
  obtain rfl : u = Value.ref a := ry
  exact d_in hu I g rx fun s3 I3 => ⟨.bl o.isSome, H, I3, rfl, q⟩
theorem op_notInDc (hu : X.A.units + 1 < cLine) : OpR X (compareOp .NotIn) (fun x y H Q => ∃ a o, y = .ref a ∧ DGet H a x o ∧ Q (.bl (!o.isSome)) H) := fun pins s σ H x y v u Q I rx ry ⟨a, o, e, g, q⟩ => by
  subst e
  obtain rfl : u = Value.ref a := ry
  exact d_notIn hu I g rx fun s3 I3 => ⟨.bl (!o.isSome), H, I3, rfl, q⟩
theorem repO_some {K : PySem.W.Frag} {w : Wd} {H : Hp} {o : Option D} {r : Option V} (h : RepO K w H o r) (hn : o = none → r = none) : r.isSome = o.isSome := by
  cases o with
  | none => rw [hn rfl]; rfl
  | some d => cases r with
    | none => exact h.elim
    | some v => rfl
theorem od_in (hu : X.A.units + 65 < cLine) : OpD X W (compareOp .In) (inD false) := by
  refine ⟨_, op_in_str.or ((op_inD hu).or ((op_inT hu).or (op_inDc (by omega)))), fun w H S d e x y σ Q A rd re P => ?_⟩
  unfold inD at P
  split at P
  · rw [Bool.false_xor] at P
    exact .inl ⟨_, _, rep_str rd, rep_str re, P.fin A (of_bl _)⟩
  · split at P
    · rename_i p ds h1 h2
      split at P
      · rename_i hs
        rw [Bool.false_xor] at P
        exact .inr (.inl ⟨_, _, pyS_rep A h1 rd, pyS_rep A h2 re, hs.1, hs.2, P.fin A (of_bl _)⟩)
      · exact P.elim
    · rename_i p ds h1 h2
      split at P
      · rename_i hs
        rw [Bool.false_xor] at P
        exact .inr (.inr (.inl ⟨_, _, pyS_rep A h1 rd, pyS_rep A h2 re, hs.1, hs.2, P.fin A (of_bl _)⟩))
      · exact P.elim
    · split at P
      · rename_i r h
        obtain ⟨a, o, rfl, g, ro, hn⟩ := dlook_rep A h re rd
        rw [Bool.false_xor, ← repO_some ro hn] at P
        exact .inr (.inr (.inr ⟨a, o, rfl, g, P.fin A (of_bl _)⟩))
      · exact P.elim
theorem od_notin (hu : X.A.units + 65 < cLine) : OpD X W (compareOp .NotIn) (inD true) := by
  refine ⟨_, op_notin_str.or ((op_notInD hu).or ((op_notInT hu).or (op_notInDc (by omega)))), fun w H S d e x y σ Q A rd re P => ?_⟩
  unfold inD at P
  split at P
  · rw [Bool.true_xor] at P
    exact .inl ⟨_, _, rep_str rd, rep_str re, P.fin A (of_bl _)⟩
  · split at P
    · rename_i p ds h1 h2
      split at P
      · rename_i hs
        rw [Bool.true_xor] at P
        exact .inr (.inl ⟨_, _, pyS_rep A h1 rd, pyS_rep A h2 re, hs.1, hs.2, P.fin A (of_bl _)⟩)
      · exact P.elim
    · rename_i p ds h1 h2
      split at P
      · rename_i hs
        rw [Bool.true_xor] at P
        exact .inr (.inr (.inl ⟨_, _, pyS_rep A h1 rd, pyS_rep A h2 re, hs.1, hs.2, P.fin A (of_bl _)⟩))
      · exact P.elim
    · split at P
      · rename_i r h
        obtain ⟨a, o, rfl, g, ro, hn⟩ := dlook_rep A h re rd
        rw [Bool.true_xor, ← repO_some ro hn] at P
        exact .inr (.inr (.inr ⟨a, o, rfl, g, P.fin A (of_bl _)⟩))
      · exact P.elim
theorem u65 {k : Nat} {A : Around} (r : Room k A) : A.units + 65 < cLine := by have := r.un; omega
end
end L3
namespace L3
open PySem PySem.Spec L2

/-! ### texts cut up; the greatest of a list -/
section
variable {X : Cx} {W : XW}
end
end L3
namespace L3
open PySem PySem.Spec L2

/-! ### sorted(list) -/
def encD (d : D) : PyData := (toPy d).getD .none
noncomputable def dLe (a b : D) : Bool := PySem.W.dataLe false encD a b
/-- things that can be put in order -/
def Srt (es : List D) : Prop := (∃ ps, toPys es = some ps) ∧ PySem.W.AllAlike (es.map encD) ∧ PySem.W.Sortable (es.map encD) ∧ ∀ d ∈ es, (encD d).depth ≤ 60
open Classical in
noncomputable def sortedD (ds : List D) (S : Store) : Res D := match ds with
  | [d] => match rdL S d with
    | some es => if Srt es ∧ es.length ≤ sizeLine then .ok (.lst (es.mergeSort dLe)) S else .stuck
    | none => .stuck
  | _ => .stuck
section
variable {K : PySem.W.Frag} {w : Wd} {H : Hp}
theorem toPys_get : ∀ {es : List D} {ps : List PyData}, toPys es = some ps → ∀ d ∈ es, ∃ p, toPy d = some p
  | [], _, _, d, h => by simp at h
  | e :: es, ps, h, d, hd => by
    simp only [toPys] at h
    split at h
    · rename_i p qs h1 h2
      rcases List.mem_cons.mp hd with rfl | hd
      · exact ⟨p, h1⟩
      · exact toPys_get h2 d hd
    · cases h
/-- the values with what they stand for -/
theorem each_of_reps : ∀ {es : List D} {vs : List V} {us : List Value}, Reps K w H es vs → Vals vs us → PySem.W.EachIs (fun (u : Value) (b : D × V) => RelV b.2 u) us (es.zip vs)
  | [], _, _, h, r => by
    simp only [Reps] at h
    subst h
    cases r
    exact .nil
  | e :: es, _, _, h, r => by
    simp only [Reps] at h
    obtain ⟨v, r', rfl, _, h2⟩ := h
    cases r with
    | cons h3 h4 => exact .cons h3 (each_of_reps h2 h4)
theorem reps_zip : ∀ {es : List D} {vs : List V}, Reps K w H es vs → (∀ b ∈ es.zip vs, Rep K w H b.1 b.2) ∧ (es.zip vs).map (·.1) = es ∧ (es.zip vs).length = es.length
  | [], _, h => by
    simp only [Reps] at h
    subst h
    exact ⟨fun _ z => by simp at z, rfl, rfl⟩
  | e :: es, _, h => by
    simp only [Reps] at h
    obtain ⟨v, r', rfl, h1, h2⟩ := h
    obtain ⟨a1, a2, a3⟩ := reps_zip h2
    refine ⟨fun b hb => ?_, by simp [a2], by simp [a3]⟩
    rw [List.zip_cons_cons] at hb
    rcases List.mem_cons.mp hb with rfl | hb
    · exact h1
    · exact a1 b hb
theorem reps_of : ∀ {bs : List (D × V)}, (∀ b ∈ bs, Rep K w H b.1 b.2) → Reps K w H (bs.map (·.1)) (bs.map (·.2))
  | [], _ => .nil
  | b :: bs, h => .cons (h b List.mem_cons_self) (reps_of fun c hc => h c (List.mem_cons_of_mem _ hc))
theorem vals_each : ∀ {us : List Value} {bs : List (D × V)}, PySem.W.EachIs (fun (u : Value) (b : D × V) => RelV b.2 u) us bs → Vals (bs.map (·.2)) us
  | _, _, .nil => .nil
  | _, _, .cons h t => .cons h (vals_each t)
end
theorem each_reads {X : Cx} {pins : List (Addr × Obj)} {σ : L2.St} {H : Hp} {s : Shared} (I : Inv X pins σ H s) {w : Wd} : ∀ {es : List D} {vs : List V} {us : List Value}, (∀ d ∈ es, ∃ p, toPy d = some p) → Reps X.K w H es vs → Vals vs us →
    PySem.W.EachIs (fun (u : Value) (b : D × V) => ∃ as, Reads s.heap u (encD b.1) as) us (es.zip vs)
  | [], _, _, _, h, r => by
    simp only [Reps] at h
    subst h
    cases r
    exact .nil
  | e :: es, _, _, hp, h, r => by
    simp only [Reps] at h
    obtain ⟨v, r', rfl, h1, h2⟩ := h
    cases r with
    | cons h3 h4 =>
      refine .cons ?_ (each_reads I (fun d hd => hp d (List.mem_cons_of_mem _ hd)) h2 h4)
      obtain ⟨p, e1⟩ := hp e List.mem_cons_self
      have : encD e = p := by simp [encD, e1]
      rw [this]
      exact Dp.reads I p v _ (toPy_rep e1 h1) h3
def rSortedAll (K : PySem.W.Frag) : List V → Hp → VK → Prop := fun vs H Q => ∃ (a : Addr) (us : List V) (es : List D) (w : Wd), vs = [V.ref a] ∧ SqL K H a us ∧ Reps K w H es us ∧ Srt es ∧ es.length ≤ sizeLine ∧
  ∀ (xs : List V) (p : Addr), Reps K w H (es.mergeSort dLe) xs → H p = none → Q (.ref p) (upd H p (.lst xs))
theorem cr_sortedAll {X : Cx} (hu : X.A.units + 64 < cLine) : CallR X (.builtin "sorted") (rSortedAll X.K) := by
  intro pins s σ H vs us Q I r h
  obtain ⟨a, zs, es, w, rfl, hs, rp, ⟨⟨ps, hps⟩, hal, hk, hd⟩, hz, q⟩ := h
  obtain ⟨its, rv, hl, _⟩ := I.list hs
  rw [Vals.ref1 r]
  obtain ⟨b1, b2, b3⟩ := reps_zip rp
  have eq1 : (es.zip zs).map (fun b => encD b.1) = es.map encD := by
    rw [show (fun b : D × V => encD b.1) = encD ∘ Prod.fst from rfl, ← List.map_map]
    congr 1
  refine PySem.W.sorted_data (enc := fun b : D × V => encD b.1) (R := fun u b => RelV b.2 u) hl.isList (each_of_reps rp rv) (each_reads I (toPys_get hps) rp rv) (by rw [eq1]; exact hal) (by rw [eq1]; exact hk) (by rw [b3]; exact hz) (fun b hb => ?_) fun out ho eo => ?_
  · have : b.1 ∈ es := by rw [← b2]; exact List.mem_map.mpr ⟨b, hb, rfl⟩
    have := hd b.1 this
    show X.A.units + 2 + (encD b.1).depth < cLine
    omega
  · obtain ⟨ep, he'⟩ := PyProof.Rows.sortedAll_at s.heap its out.toArray
    have hm : ((es.zip zs).mergeSort (PySem.W.dataLe false fun b : D × V => encD b.1)).map (·.1) = es.mergeSort dLe := by
      rw [List.map_mergeSort (r := PySem.W.dataLe false fun b : D × V => encD b.1) (s := dLe) (fun _ _ _ _ => rfl), b2]
    have rs := reps_of (K := X.K) (w := w) (H := H) (bs := (es.zip zs).mergeSort (PySem.W.dataLe false fun b : D × V => encD b.1)) fun b hb => b1 b (List.mem_mergeSort.mp hb)
    rw [hm] at rs
    have vv := vals_each eo
    generalize ((es.zip zs).mergeSort (PySem.W.dataLe false fun b : D × V => encD b.1)).map (·.2) = xs at *
    have hlen : xs.length ≤ sizeLine := by
      have h9 := rs.length
      rw [List.length_mergeSort] at h9
      omega
    exact ⟨.ref _, upd H (s.heap.objs.size + 1) (.lst xs), I.laid (t' := s.toks) (fun _ _ => PyProof.Rows.sortedAll_old) (Nat.le_succ _)
      ⟨hlen, out, ep, vv, he'⟩, rfl, q _ _ rs (I.hok.fresh (Nat.le_succ _))⟩
theorem cd_sorted {X : Cx} {W : XW} (hu : X.A.units + 64 < cLine) : CallD X W (.builtin "sorted") sortedD := by
  refine ⟨_, cr_sortedAll hu, fun w H S ds vs σ Q A r P => ?_⟩
  unfold sortedD at P
  split at P
  · split at P
    · split at P
      · rename_i d _ es h1 hs
        obtain ⟨v, rfl, r1⟩ := reps1 r
        obtain ⟨a, us, rfl, f, r'⟩ := rdL_rep A h1 r1
        exact ⟨a, us, es, w, rfl, f, r', hs.1, hs.2, fun xs p rx hp => P w _ _ (Ex.new hp) (A.newF hp) (Rep.lstNew A hp rx)⟩
      · exact P.elim
    · exact P.elim
  · exact P.elim
end L3
namespace L3
open PySem PySem.Spec L2

/-! ### walking over a dict: it is locked meanwhile -/
def Ob.isDct : Ob → Bool
  | .dK _ => true
  | .dT _ => true
  | .dN _ => true
  | _ => false
open Classical in
/-- what the expression md tells (nothing else happens), if it is a dict of the store -/
noncomputable def dctAt (md : DSt → Store → Res D) (σ : DSt) (S : Store) : Option (Nat × Ob) := match md σ S with
  | .ok (.loc l) S1 => if S1 = S then (match S[l]? with
    | some o => if o.isDct = true then some (l, o) else none
    | none => none) else none
  | _ => none
open Classical in
noncomputable def lockE (md m : DSt → Store → Res D) (σ : DSt) (S : Store) : Res D := match dctAt md σ S with
  | some (l, o) => match m σ (S.set l (.lck o)) with
    | .ok d S' => if S'[l]? = some (.lck o) then .ok d (S'.set l o) else .stuck
    | _ => .stuck
  | none => m σ S
open Classical in
noncomputable def lockS (md : DSt → Store → Res D) (m : DSt → Store → Res Fl) (σ : DSt) (S : Store) : Res Fl := match dctAt md σ S with
  | some (l, o) => match m σ (S.set l (.lck o)) with
    | .ok (.ex _ _ _) _ => .stuck
    | .ok fl S' => if S'[l]? = some (.lck o) then .ok fl (S'.set l o) else .stuck
    | _ => .stuck
  | none => m σ S
section
variable {K : PySem.W.Frag} {mg : Str → Option Value} {w : Wd} {H : Hp} {S : Store}
/-- writing at a mutable object's place leaves what data stand for -/
theorem Rep.wrM {a : Addr} {o : HO} (hm : a ∈ w.M) {d : D} {v : V} (h : Rep K w H d v) : Rep K w (upd H a o) d v := by
  have ne : ∀ {b : Addr}, b ∉ w.M → b ≠ a := fun n z => n (by rw [z]; exact hm)
  refine h.gen (fun b xs ⟨n, c, f⟩ => ⟨n, c, by rw [upd_ne (ne n)]; exact f⟩) (fun b xs f => ?_) (fun b xs ⟨n, c, f⟩ => ⟨n, c, by rw [upd_ne (ne n)]; exact f⟩) (fun b xs f => f.by fun a u f n c => ⟨n, c, by rw [upd_ne (ne n)]; exact f⟩) (fun b _ ⟨n, c, f⟩ => ⟨n, c, by rw [upd_ne (ne n)]; exact f⟩) fun _ _ q => q
  rcases f with ⟨n, c, f | ⟨o', f⟩⟩ | f
  · exact .inl ⟨n, c, .inl (by rw [upd_ne (ne n)]; exact f)⟩
  · exact .inl ⟨n, c, .inr ⟨o', by rw [upd_ne (ne n)]; exact f⟩⟩
  · exact .inr f
theorem Reps.wrM {a : Addr} {o : HO} (hm : a ∈ w.M) : ∀ {ds : List D} {vs : List V}, Reps K w H ds vs → Reps K w (upd H a o) ds vs
  | [], _, h => by simpa only [Reps] using h
  | d :: ds, _, h => by
    simp only [Reps] at h
    obtain ⟨v, r, rfl, h1, h2⟩ := h
    exact .cons (h1.wrM hm) (Reps.wrM hm h2)
theorem HoOk.wrM {a : Addr} {o : HO} (hm : a ∈ w.M) {ob : Ob} {u : HO} (h : HoOk K w H mg ob u) : HoOk K w (upd H a o) mg ob u := h.gen (fun _ _ r => r.wrM hm) fun _ _ r => r.wrM hm
theorem Ab.put (A : Ab K w H mg S) {l : Nat} {a : Addr} {o : HO} {ob : Ob} (hm : w.M[l]? = some a) (k : HoOk K w H mg ob o) : Ab K w (upd H a o) mg (S.set l ob) := by
  have hmem : a ∈ w.M := List.mem_of_getElem? hm
  refine ⟨by simp [A.len], A.nd, A.bm, fun b hb => ?_, fun l' a' ob' h1 h2 => ?_⟩
  · obtain ⟨u, e⟩ := A.bt b hb
    exact ⟨u, by rw [upd_ne (fun z : b = a => A.bm b hb (by rw [z]; exact hmem))]; exact e⟩
  by_cases hl : l' = l
  · subst hl
    rw [hm] at h1; cases h1
    have : l' < S.length := by rw [← A.len]; exact (List.getElem?_eq_some_iff.mp hm).1
    rw [List.getElem?_set_self this] at h2
    cases h2
    exact ⟨o, upd_same, k.wrM hmem⟩
  · rw [List.getElem?_set_ne (Ne.symm hl)] at h2
    obtain ⟨u, e, k'⟩ := A.ob l' a' ob' h1 h2
    have hne : a' ≠ a := fun z => by
      subst z
      obtain ⟨q1, q2⟩ := List.getElem?_eq_some_iff.mp h1
      obtain ⟨q3, q4⟩ := List.getElem?_eq_some_iff.mp hm
      exact hl ((List.getElem_inj A.nd).mp (q2.trans q4.symm))
    exact ⟨u, by rw [upd_ne hne]; exact e, k'.wrM hmem⟩
end
section
variable {X : Cx} {W : XW}
theorem PE.or {e : Expr} {t1 t2 : TE} (h1 : PE X e t1) (h2 : PE X e t2) : PE X e (fun σ H Q => t1 σ H Q ∨ t2 σ H Q) := ⟨fun pins s σ H Q I h => h.elim (h1.run pins s σ H Q I) (h2.run pins s σ H Q I)⟩
theorem PS.or {e : Stmt} {t1 t2 : TS} (h1 : PS X e t1) (h2 : PS X e t2) : PS X e (fun D σ H => t1 D σ H ∨ t2 D σ H) := ⟨fun pins s σ H Q I h => h.elim (h1.run pins s σ H Q I) (h2.run pins s σ H Q I)⟩
end
end L3
namespace L3
open PySem PySem.Spec L2

/-! ### the keys of a locked dict -/
def keyD : Key → D
  | .inl i => .int i
  | .inr x => .str x
def keysD (k : List Key) : D := .tup (k.map keyD)
section
variable {K : PySem.W.Frag} {mg : Str → Option Value} {w : Wd} {H : Hp} {S : Store}
end
theorem PI.or {X : Cx} {tg e : Expr} {t1 t2 : TI} (h1 : PI X tg e t1) (h2 : PI X tg e t2) : PI X tg e (fun σ H R => t1 σ H R ∨ t2 σ H R) := ⟨fun pins s σ H R I h => h.elim (h1.run pins s σ H R I) (h2.run pins s σ H R I)⟩
end L3
namespace L3
open PySem PySem.Spec L2

/-! ### dict(pairs) with tuple keys -/
structure Ent where
  p : Addr
  k : List Key
  b : Addr
  v : V
section
variable {X : Cx} {pins : List (Addr × Obj)} {σ : L2.St} {H : Hp} {s : Shared}
end
end L3
namespace L3
open PySem PySem.Spec L2

section
variable {K : PySem.W.Frag} {w : Wd} {H : Hp}
end
theorem RKv.mono {κ : Type} {K : PySem.W.Frag} {w w' : Wd} {H H' : Hp} (e : Ex w H w' H') : ∀ {kvs : List (κ × D)} {vs : List (κ × V)}, RKv K w H kvs vs → RKv K w' H' kvs vs
  | [], _, h => h
  | (k, d) :: kvs, _, h => by
    simp only [RKv] at h ⊢
    obtain ⟨v, r, rfl, r1, r2⟩ := h
    exact ⟨v, r, rfl, r1.mono e, RKv.mono e r2⟩
/-- d.get(k), d.get(k, x) -/
def isDl (S : Store) : D → Bool
  | .loc l => match S[l]? with
    | some o => (obK o).isSome || (obT o).isSome
    | none => false
  | _ => false
def mGet1 (mo mk : DSt → Store → Res D) (σ : DSt) (S : Store) : Res D := (mo σ S).bind fun d S1 => if isDl S1 d = true then (mk σ S1).bind fun k S2 => match dlook S2 d k with
  | some (some v) => .ok v S2
  | some none => .ok .non S2
  | none => .stuck else .stuck
def mGet2 (mo mk mx : DSt → Store → Res D) (σ : DSt) (S : Store) : Res D := (mo σ S).bind fun d S1 => if isDl S1 d = true then (mk σ S1).bind fun k S2 => (mx σ S2).bind fun x S3 => match dlook S3 d k with
  | some (some v) => .ok v S3
  | some none => .ok x S3
  | none => .stuck else .stuck
section
variable {X : Cx} {W : XW}
end
theorem u8 {k : Nat} {A : Around} (r : Room k A) : A.units + 8 < cLine := by have := r.un; omega
end L3
namespace L3
open PySem PySem.Spec L2

section
variable {X : Cx} {pins : List (Addr × Obj)} {σ : L2.St} {H : Hp} {s : Shared} {d : Addr} {o : Obj}
end
section
variable {K : PySem.W.Frag} {mg : Str → Option Value} {w : Wd} {H : Hp} {S : Store}
end
end L3
namespace L3
open PySem PySem.Spec L2
/-! ### tuples of the module -/
def KRep (K : PySem.W.Frag) (d : D) (v : V) : Prop := ∀ w H, Rep K w H d v
def KReps (K : PySem.W.Frag) (ds : List D) (vs : List V) : Prop := ∀ w H, Reps K w H ds vs
theorem KReps.nil {K : PySem.W.Frag} : KReps K [] [] := fun _ _ => .nil
theorem KReps.cons {K : PySem.W.Frag} {d : D} {v : V} {ds : List D} {vs : List V} (h : KRep K d v) (t : KReps K ds vs) : KReps K (d :: ds) (v :: vs) := fun w H => .cons (h w H) (t w H)
end L3
namespace L3
open PySem PySem.Spec L2
/-! ### new lists that are handed back and change no more: they freeze -/
def fzD (S : Store) (n : Nat) : Nat → D → Option D
  | 0, d => if d.sc n = true then some d else none
  | k + 1, d => if d.sc n = true then some d else match d with
    | .loc l => match S[l]? with
      | some (.lst ds) => (ds.mapM (fzD S n k)).map D.lst
      | _ => none
    | .tup ds => (ds.mapM (fzD S n k)).map D.tup
    | .lst ds => (ds.mapM (fzD S n k)).map D.lst
    | _ => none
section
variable {K : PySem.W.Frag} {mg : Str → Option Value} {w w' : Wd} {H' : Hp} {S' : Store}
theorem mapM_reps {f : D → Option D} (h : ∀ d d' v, f d = some d' → Rep K w' H' d v → Rep K w H' d' v) : ∀ {ds ds' : List D} {vs : List V}, ds.mapM f = some ds' → Reps K w' H' ds vs → Reps K w H' ds' vs
  | [], ds', vs, e, r => by
    simp only [List.mapM_nil] at e
    cases e
    simpa only [Reps] using r
  | d :: ds, ds', vs, e, r => by
    rw [List.mapM_cons] at e
    simp only [Option.bind_eq_bind, Option.bind_eq_some_iff] at e
    obtain ⟨d', e1, ds2, e2, e3⟩ := e
    cases e3
    simp only [Reps] at r
    obtain ⟨v, r', rfl, r1, r2⟩ := r
    exact .cons (h _ _ _ e1 r1) (mapM_reps h e2 r2)
theorem fz_rep (hM : ∃ t, w'.M = w.M ++ t) (hB : w'.B = w.B) (A' : Ab K w' H' mg S') : ∀ (k : Nat) (d d' : D) (v : V), fzD S' w.M.length k d = some d' → Rep K w' H' d v → Rep K w H' d' v
  | 0, d, d', v, e, r => by
    unfold fzD at e
    split at e
    · rename_i hs
      cases e
      exact rep_cut hM hB r hs
    · cases e
  | k + 1, d, d', v, e, r => by
    unfold fzD at e
    split at e
    · rename_i hs
      cases e
      exact rep_cut hM hB r hs
    · rename_i hs
      cases d with
      | loc l =>
        simp only at e
        split at e
        · rename_i ds q
          simp only [Option.map_eq_some_iff] at e
          obtain ⟨ds', e1, rfl⟩ := e
          simp only [Rep] at r
          obtain ⟨a, el, rfl⟩ := r
          obtain ⟨u, eu, vs, rfl, rr⟩ := A'.ob l a _ el q
          have hl : ¬ l < w.M.length := fun z => hs (by simp only [D.sc]; exact decide_eq_true z)
          obtain ⟨t, ht⟩ := id hM
          have hnm : a ∉ w.M := fun z => by
            obtain ⟨i, hi, e2⟩ := List.getElem_of_mem z
            have e3 : w'.M[i]? = some a := by rw [ht, List.getElem?_append_left hi, List.getElem?_eq_getElem hi, e2]
            obtain ⟨q1, q2⟩ := List.getElem?_eq_some_iff.mp e3
            obtain ⟨q3, q4⟩ := List.getElem?_eq_some_iff.mp el
            have := (List.getElem_inj A'.nd).mp (q2.trans q4.symm)
            omega
          have hnb : a ∉ w.B := fun z => A'.bm a (by rw [hB]; exact z) (List.mem_of_getElem? el)
          simp only [Rep]
          exact ⟨a, vs, rfl, ⟨hnm, hnb, eu⟩, mapM_reps (fz_rep hM hB A' k) e1 rr⟩
        · cases e
      | tup ds =>
        simp only [Option.map_eq_some_iff] at e
        obtain ⟨ds', e1, rfl⟩ := e
        simp only [Rep] at r ⊢
        obtain ⟨a, vs, rfl, ⟨n, b, f⟩, rr⟩ := r
        obtain ⟨t, ht⟩ := id hM
        exact ⟨a, vs, rfl, ⟨fun z => n (by rw [ht]; exact List.mem_append_left _ z), by rw [← hB]; exact b, f⟩, mapM_reps (fz_rep hM hB A' k) e1 rr⟩
      | lst ds =>
        simp only [Option.map_eq_some_iff] at e
        obtain ⟨ds', e1, rfl⟩ := e
        simp only [Rep] at r ⊢
        obtain ⟨a, vs, rfl, ⟨n, b, f⟩, rr⟩ := r
        obtain ⟨t, ht⟩ := id hM
        exact ⟨a, vs, rfl, ⟨fun z => n (by rw [ht]; exact List.mem_append_left _ z), by rw [← hB]; exact b, f⟩, mapM_reps (fz_rep hM hB A' k) e1 rr⟩
      | _ => cases e
end
/-- what stood before stands, or is of what stood before -/
def Kept (S S' : Store) : Prop := S.length ≤ S'.length ∧ ∀ i < S.length, S'[i]? = S[i]? ∨ ∃ o, S'[i]? = some o ∧ o.sc S.length = true
theorem Ab.cut {K : PySem.W.Frag} {mg : Str → Option Value} {w w' : Wd} {H H' : Hp} {S S' : Store} (A : Ab K w H mg S) (A' : Ab K w' H' mg S') (e : Ex w H w' H') (hk : Kept S S') : Ex w H w H' ∧ Ab K w H' mg (S'.take S.length) := by
  obtain ⟨hlen, hob⟩ := hk
  have hB := e.bk
  obtain ⟨t, ht⟩ := id e.pre
  rw [← A.len] at hob
  refine ⟨⟨⟨[], by simp⟩, rfl, fun a u ha n => ⟨(e.keep a u ha n).1, n⟩, e.fz⟩, ⟨?_, A.nd, fun a ha hm => A.bm a ha hm, fun a ha => A'.bt a (by rw [hB]; exact ha), fun l a o h1 h2 => ?_⟩⟩
  · rw [List.length_take, A.len]; omega
  · have hl1 : l < w.M.length := (List.getElem?_eq_some_iff.mp h1).1
    rw [List.getElem?_take_of_lt (by rw [← A.len]; exact hl1)] at h2
    obtain ⟨u, eu, k⟩ := A'.ob l a o (e.get h1) h2
    refine ⟨u, eu, ho_cut e.pre hB k ?_⟩
    rcases hob l hl1 with z | ⟨o', z, s⟩
    · rw [h2] at z
      obtain ⟨u0, _, k0⟩ := A.ob l a o h1 z.symm
      exact ho_sc k0
    · rw [h2] at z
      cases z
      exact s
open Classical in
noncomputable def gcF (den : List D → Store → Res D) (ds : List D) (S : Store) : Res D := match den ds S with
  | .ok d S' => if Kept S S' then (match fzD S' S.length 8 d with
    | some d' => .ok d' (S'.take S.length)
    | none => .ok d S') else .ok d S'
  | r => r
theorem spD_gcF {K : PySem.W.Frag} {mg : Str → Option Value} {n : Nat} {den : List D → Store → Res D} {vs : List V} {H : Hp} {Q : VK} {E : XK} (h : spD K mg n (gcF den) vs H Q E) : spD K mg n den vs H Q E := by
  obtain ⟨w, ds, S, A, r, hl, P⟩ := h
  refine ⟨w, ds, S, A, r, hl, ?_⟩
  unfold gcF at P
  cases hd : den ds S with
  | exc c fs S' => rw [hd] at P; exact P
  | stuck => rw [hd] at P; exact P
  | ok d S' =>
    rw [hd] at P
    simp only at P
    by_cases hc : Kept S S'
    · rw [if_pos hc] at P
      cases hf : fzD S' S.length 8 d with
      | none => rw [hf] at P; exact P
      | some d' =>
        rw [hf] at P
        intro w' H' v e A' rv
        obtain ⟨x1, a1⟩ := A.cut A' e hc
        rw [← A.len] at hf
        exact P w H' v x1 a1 (fz_rep e.pre e.bk A' 8 d d' v hf rv)
    · rw [if_neg hc] at P
      exact P
theorem fn_gcF {P : Program} {w : World} {K : PySem.W.Frag} {mg : Str → Option Value} {base : Heap} {k : Nat} {f : Addr} {fd : FuncData} {ps : List Str} {n : Nat} {den : List D → Store → Res D} (F : FnOk P w K mg base CX0 k f fd ps (spD K mg n den)) : FnOk P w K mg base CX0 k f fd ps (spD K mg n (gcF den)) :=
  F.imp fun _ _ _ _ h => spD_gcF h
/-! ### one new object is handed back: it alone is kept -/
def freshL (n : Nat) : D → Option Nat
  | .loc l => if n ≤ l then some l else none
  | .tup ds => ds.findSome? fun d => match d with
    | .loc l => if n ≤ l then some l else none
    | _ => none
  | _ => none
def rm1 (n l : Nat) : D → Option D
  | .loc m => if m = l then some (.loc n) else if m < n then some (.loc m) else none
  | d => if d.sc n = true then some d else none
def rmD (n l : Nat) : D → Option D
  | .tup ds => (ds.mapM (rm1 n l)).map D.tup
  | d => rm1 n l d
section
variable {K : PySem.W.Frag} {mg : Str → Option Value} {w w' : Wd} {H' : Hp} {S' : Store}
end
open Classical in
noncomputable def gcO (den : List D → Store → Res D) (ds : List D) (S : Store) : Res D := match den ds S with
  | .ok d S' => match freshL S.length d with
    | some l => match S'[l]?, rmD S.length l d with
      | some o, some d' => if Kept S S' ∧ S.length ≤ l ∧ o.sc S.length = true then .ok d' (S'.take S.length ++ [o]) else .ok d S'
      | _, _ => .ok d S'
    | none => if Kept S S' ∧ d.sc S.length = true then .ok d (S'.take S.length) else .ok d S'
  | r => r
/-! how they are used -/
theorem Kept.of {S S1 g : Store} (hl : S1.length = S.length) (ho : ∀ i < S.length, S1[i]? = S[i]? ∨ ∃ o, S1[i]? = some o ∧ o.sc S.length = true) : Kept S (S1 ++ g) :=
  ⟨by rw [List.length_append]; omega, fun i hi => by rw [List.getElem?_append_left (by omega)]; exact ho i hi⟩
theorem gcF_loc {den : List D → Store → Res D} {ds es : List D} {S S1 g : Store} {k : Nat} (h : den ds S = .ok (.loc (S.length + k)) (S1 ++ g)) (hl : S1.length = S.length) (he : g[k]? = some (.lst es)) (hs : D.scs S.length es = true) (ho : ∀ i < S.length, S1[i]? = S[i]? ∨ ∃ o, S1[i]? = some o ∧ o.sc S.length = true) : gcF den ds S = .ok (.lst es) S1 := by
  unfold gcF
  rw [h]
  simp only
  rw [if_pos (Kept.of hl ho)]
  have e1 : (S1 ++ g)[S.length + k]? = some (.lst es) := by
    rw [List.getElem?_append_right (by omega), ← he]
    congr 1
    omega
  have e2 : ∀ es : List D, D.scs S.length es = true → es.mapM (fzD (S1 ++ g) S.length 7) = some es := by
    intro es
    induction es with
    | nil => intro _; rfl
    | cons d es ih =>
      intro hs
      simp only [D.scs, Bool.and_eq_true] at hs
      rw [List.mapM_cons, ih hs.2]
      have : fzD (S1 ++ g) S.length 7 d = some d := by unfold fzD; rw [if_pos hs.1]
      rw [this]; rfl
  have e3 : fzD (S1 ++ g) S.length 8 (.loc (S.length + k)) = some (.lst es) := by
    unfold fzD
    rw [if_neg (by simp [D.sc])]
    simp only [e1, e2 es hs]
    rfl
  rw [e3, ← hl, List.take_left]
end L3
namespace L3
open PySem PySem.Spec L2
section
variable {X : Cx} {W : XW}
/-! ### new lists that will be changed: x + y, sorted(x), x[a:b] -/
def addMD (d e : D) (S : Store) : Res D := match exL S d, exL S e with
  | some a, some b => if a.length + b.length ≤ sizeLine then .ok (.loc S.length) (S ++ [.lst (a ++ b)]) else .stuck
  | _, _ => .stuck
open Classical in
noncomputable def sortedMD (ds : List D) (S : Store) : Res D := match ds with
  | [d] => match rdL S d with
    | some es => if Srt es ∧ es.length ≤ sizeLine then .ok (.loc S.length) (S ++ [.lst (es.mergeSort dLe)]) else .stuck
    | none => .stuck
  | _ => .stuck
end
end L3
namespace L3
open PySem PySem.Spec L2
/-! ### o.f = e, o.f += e, x += e -/
def putFD (f : Str) (d : D) : List (Str × D) → List (Str × D)
  | [] => [(f, d)]
  | (g, x) :: r => if g = f then (g, d) :: r else (g, x) :: putFD f d r
section
variable {X : Cx} {W : XW} {o e value : Expr} {f : Str} {pos pos' tpos : Pos}
open Classical in
noncomputable def setFD (cs : List Str) (f : Str) (d o : D) (σ : DSt) (S : Store) : Res Fl := match o with
  | .loc l => match S[l]? with
    | some (.ins C fs) => if C ∈ cs ∧ fs.length < 1000 then .ok (.nx σ) (S.set l (.ins C (putFD f d fs))) else .stuck
    | _ => .stuck
  | _ => .stuck
open Classical in
noncomputable def augFD (cs : List Str) (f : Str) (C : Str) (d o : D) (σ : DSt) (S : Store) : Res Fl := match insOf S o, o with
  | some (C2, fs), .loc l => if C2 = C ∧ C ∈ cs ∧ fs.length < 1000 then .ok (.nx σ) (S.set l (.ins C (putFD f d fs))) else .stuck
  | _, _ => .stuck
open Classical in
noncomputable def mAugF (cs : List Str) (f : Str) (mo mv : DSt → Store → Res D) (σ : DSt) (S : Store) : Res Fl := liftE (mo σ S) σ fun o S1 => match insOf S1 o with
  | some (C, fs) => if C ∈ cs then (match fs.lookup f with
    | some (.int a) => liftE (mv σ S1) σ fun d S2 => match d with
      | .int b => augFD cs f C (.int (a + b)) o σ S2
      | _ => .stuck
    | _ => .stuck) else .stuck
  | none => .stuck
end
def FldIn (K : PySem.W.Frag) (mg : Str → Option Value) (f : Str) (cs : List Str) : Prop := ∀ c ∈ cs, ∃ C, mg c = some (.ref C) ∧ Cls K C ∧ NoAttr K C f
theorem FldIn.nil {K : PySem.W.Frag} {mg : Str → Option Value} {f : Str} : FldIn K mg f [] := fun c h => (List.not_mem_nil h).elim
theorem FldIn.cons {K : PySem.W.Frag} {mg : Str → Option Value} {f c : Str} {C : Addr} {cs : List Str} (h1 : mg c = some (.ref C)) (h2 : Cls K C) (h3 : NoAttr K C f) (h : FldIn K mg f cs) : FldIn K mg f (c :: cs) := fun d hd => by
  rcases List.mem_cons.mp hd with rfl | hd
  · exact ⟨C, h1, h2, h3⟩
  · exact h d hd
end L3
namespace L3
open PySem PySem.Spec L2
section
variable {X : Cx} {W : XW}
end
end L3
namespace L3
open PySem PySem.Spec L2
section
variable {X : Cx} {W : XW}
end
/-! ### a def that is called where nothing is being shown -/
structure FnG (P : Program) (w : World) (K : PySem.W.Frag) (mg : Str → Option Value) (base : Heap) (k : Nat) (f : Addr) (fd : FuncData) (ps : List Str) (sp : Sp) : Prop where
  len : ∀ us H Q E, sp us H Q E → us.length = ps.length
  run : ∀ (A : Around) (fr : List Env) (s : Shared) (H : Hp) (args : Args) (us : List Value) (vs : List V) (Q : VK) (E : XK), A.guards = some [] → Room k A → Env0 P w K mg base A fr s H → BindsTo s fd args (ps.zip us) → Vals vs us → sp vs H Q E →
    codeAny (model P w) A (.call (.ref f) args) (CR CX0 fr P w H s Q E) s
section
variable {P : Program} {w : World} {K : PySem.W.Frag} {mg : Str → Option Value} {base : Heap}
end
end L3
namespace L3
open PySem PySem.Spec L2 PyProof.Rows
section
variable {X : Cx} {W : XW}
end
theorem FnG.out {P : Program} {w : World} {K : PySem.W.Frag} {mg : Str → Option Value} {base : Heap} {k : Nat} {f : Addr} {fd : FuncData} {ps : List Str} {den : List D → Store → Res D} (F : FnG P w K mg base k f fd ps (spD K mg 1 den)) :
    FnG P w K mg base k f fd ps (spOut K den) :=
  ⟨fun us H Q E h => F.len us H Q E (h mg), fun A fr s H args us vs Q E g r e b v h => F.run A fr s H args us vs Q E g r e b v (h mg)⟩
section
variable {P : Program} {w : World} {K : PySem.W.Frag} {mg mb : Str → Option Value} {k : Nat} {fa a : Addr} {fd : FuncData} {x : Str} {sp : Sp} {s : Shared} {vs : List Value} {ns : List Int}
open Classical in
/-- the script alone is seen, if the module does not hold it -/
noncomputable def scriptH (K : PySem.W.Frag) (a : Addr) (vs : List Value) (ns : List Int) : Hp := fun b =>
  if b = a ∧ K.lookup a = none then some (.frz { cls := .type "list", data := .seq vs.toArray } (.lst (ns.map V.int))) else none
end
end L3
namespace L3
open PySem PySem.Spec L2 HT PyProof.Rows PySem.SeqAt PySem.MeetsSeq PySem.MeetsSeq2 PySem.MeetsSeq3
/-! ### t[::-1] of a tuple -/
section
variable {prog : Program} {w : World} {A : Around} {E : Value → Shared → Prop} {s : Shared}
end
end L3
namespace L3
open PySem PySem.Spec L2 PyProof.Rows
/-! ### tuples that are known exactly: tuple(xs), dict(t) -/
section
variable {X : Cx} {W : XW}
def tupleXD (ds : List D) (S : Store) : Res D := match ds with
  | [d] => match rdL S d with
    | some es => .ok (.ktp es) S
    | none => .stuck
  | _ => .stuck
/-- the object stands exactly so -/
def ExT (K : PySem.W.Frag) (H : Hp) (a : Addr) (xs : List V) : Prop := KcT K a xs ∨ ∃ (o : Obj) (its : Array Value) (n : Nat), H a = some (.frz o (.tup xs)) ∧ o.cls = .type "tuple" ∧ o.dict = none ∧ o.data = .seq its n
theorem ExT.at {pins : List (Addr × Obj)} {σ : L2.St} {H : Hp} {s : Shared} (I : Inv X pins σ H s) {a : Addr} {xs : List V} (h : ExT X.K H a xs) :
    ∃ (o : Obj) (its : List Value) (n : Nat), s.heap.get? a = some o ∧ o.cls = .type "tuple" ∧ o.dict = none ∧ o.data = .seq its.toArray n ∧ Vals xs its ∧ xs.length ≤ sizeLine := by
  rcases h with ⟨o, its, n, h1, h2, h3, h4, h5, h6⟩ | ⟨o, its, n, h1, h2, h3, h4⟩
  · exact ⟨o, its.toList, n, I.kIn a o h1, h2, h3, by rw [Array.toArray_toList]; exact h4, h6, by rw [h6.length, Array.length_toList]; exact h5⟩
  · obtain ⟨g, hz, its2, rv, ⟨o2, g2, g3, n2, g4⟩⟩ := (show ObjOk X.prog X.w H s.heap a (.frz o (.tup xs)) from I.hok a _ h1)
    rw [g] at g2
    cases g2
    exact ⟨o, its2, n2, g, h2, h3, g4, rv, hz⟩
open Classical in
theorem list_of {n : Nat} {P : Nat → Value → Prop} (h : ∀ j < n, ∃ u, P j u) : ∃ us : List Value, us.length = n ∧ ∀ j < n, ∃ u, us[j]? = some u ∧ P j u := by
  refine ⟨(List.range n).map fun j => if h : ∃ u, P j u then Classical.choose h else .none, by simp, fun j hj => ?_⟩
  refine ⟨_, by rw [List.getElem?_map, List.getElem?_range hj]; rfl, ?_⟩
  show P j (if h : ∃ u, P j u then Classical.choose h else Value.none)
  rw [dif_pos (h j hj)]
  exact Classical.choose_spec (h j hj)
end
end L3
namespace L3
open PySem PySem.Spec PyProof.Rows L2
/-! ### enumerate of a tuple -/
set_option maxHeartbeats 1000000 in
theorem meets_enum1 {v : Value} {o : Obj} {H : Heap → Prop} (B : Begins v o H) :
    Meets (Builtin.«enumerate.__new__» ⟨[.type "enumerate", v], []⟩) (fun _ R s => H s.heap ∧
      R (.ok (.ret (.ref (s.heap.push o).objs.size))) { s with heap := (s.heap.push o).push { cls := .type "enumerate", data := .fields #[.none, .bool false, .ref s.heap.objs.size, rawInt 0, .none, .none] } }) :=
  .of_wp fun prog w A R s h => by
    obtain ⟨hp, g, d, tk, os⟩ := s; obtain ⟨h1, h⟩ := h
    have hsub := sub_enumerate
    have q1 : ∀ {A' : Around} {E : Value → Shared → Prop} {Q : Value → Shared → Prop}, Q (.ref hp.objs.size) ⟨hp.push o, g, d, tk, os⟩ → wpAny (model prog w) A' (pyIter v) Q E ⟨hp, g, d, tk, os⟩ :=
      fun q => B.iter prog w _ _ ⟨hp, g, d, tk, os⟩ _ h1 q
    wp_walk using q1
    refine wpAny_stack_any fun st => wpAny_pure ?_
    split
    · rename_i c _ _ _ _ _
      cases (c == Value.type "enumerate")
      · wp_walk using q1
        exact ⟨_, rfl, h⟩
      · wp_walk using q1
        exact ⟨_, rfl, h⟩
    · wp_walk using q1
      exact ⟨_, rfl, h⟩
theorem enum_begins1 {prog : Program} {w : World} {A : Around} {E : Value → Shared → Prop} {s : Shared} {v : Value} {o : Obj} {H : Heap → Prop} {Q : Value → Shared → Prop} (B : Begins v o H) (h1 : H s.heap)
    (h : ∀ h', IsEnum h' (s.heap.objs.size + 1) s.heap.objs.size 0 .none → h'.get? s.heap.objs.size = some o → h'.objs.size = s.heap.objs.size + 2 →
      (∀ b o, s.heap.get? b = some o → h'.get? b = some o) → Q (.ref (s.heap.objs.size + 1)) { s with heap := h' }) :
    wpAny (model prog w) A (call (.type "enumerate") [v]) Q E s := by
  refine callType_new F.called_enumerate (by decide) (F.typeCall_enumerate_1 _) (F.newCall_enumerate_1 _) (fun obj => F.args_object_init_2 obj _) F.entry_enumerate_new
    (meets_enum1 B) ⟨h1, ?_⟩
  have hz : (s.heap.push o).objs.size = s.heap.objs.size + 1 := Heap.size_push ..
  show _ ∧ _
  rw [hz]
  have he : IsEnum ((s.heap.push o).push { cls := .type "enumerate", data := .fields #[.none, .bool false, .ref s.heap.objs.size, rawInt 0, .none, .none] }) (s.heap.objs.size + 1) s.heap.objs.size 0 .none := by
    have := Heap.get?_push_size (s.heap.push o) (o := { cls := .type "enumerate", data := .fields #[.none, .bool false, .ref s.heap.objs.size, rawInt 0, .none, .none] }) rfl
    rw [hz] at this; exact this
  refine ⟨⟨_, he, rfl⟩, h _ he (Heap.get?_push_of_some _ (Heap.get?_push_size _ B.free)) (by rw [Heap.size_push, hz]) fun b o x => Heap.get?_push_of_some _ (Heap.get?_push_of_some _ x)⟩
/-- the tuple at a, each item in a new pair -/
def IteT (K : PySem.W.Frag) (a : Addr) : It :=
  ⟨fun i H => ∃ (xs : List V) (x : V), SqT K H a xs ∧ xs[i]? = some x, fun i H v H' => ∃ T x, v = .ref T ∧ H T = none ∧ H' = upd H T (.tup [.int (i : Nat), x]) ∧ ∀ xs, SqT K H a xs → xs[i]? = some x, fun i H => ∃ xs : List V, SqT K H a xs ∧ xs.length ≤ i⟩
theorem turn_enumT {P : Program} {w : World} {K : PySem.W.Frag} {elts : List Expr} {kk : Nat} {tpos : Pos} (a e it : Addr) (hae : a ≠ e) (hai : a ≠ it) :
    Turn P w K (.Tuple elts kk tpos) (IteT K a) [e, it] e (fun i h => (∃ old, IsEnum h e it ((i : Nat) : Int) old) ∧ h.IsTupleIter it a i ∧ e ≠ it) where
  mem := by simp
  obj := fun i h st b hb => by
    obtain ⟨⟨old, he⟩, ⟨o, ho, hc, hd⟩, _⟩ := st
    have e' : b = e ∨ b = it := by simpa using hb
    rcases e' with z | z
    · rw [z]; exact ⟨_, he, fun v q => nomatch q⟩
    · rw [z]; exact ⟨o, ho, fun v q => by rw [hd] at q; cases q⟩
  keep := fun i h h' st k => let ⟨⟨old, he⟩, hi, hne⟩ := st; ⟨⟨old, k e (by simp) _ he⟩, hi.at fun o q => k it (by simp) o q, hne⟩
  item := by
    intro X hP hw hK hc i pins s σ H E I hf st hg
    subst hP hw hK
    obtain ⟨⟨old, he⟩, hit, hne⟩ := st
    obtain ⟨xs, x, hq, hx⟩ := hg
    obtain ⟨its, rv, p, hz⟩ := I.tuple hq
    obtain ⟨u, hu, ru⟩ := rv.get hx
    have hel : e < s.heap.objs.size := Heap.lt_size he
    have hil : it < s.heap.objs.size := by obtain ⟨_, q, _⟩ := hit; exact Heap.lt_size q
    have hT : s.heap.IsTuple a its.toArray := p
    have hi : i < its.length := (List.getElem?_eq_some_iff.mp hu).1
    refine wpAny_pyNext_enum_itemD (Draws.tuple (prog := X.prog) (w := X.w) (A := X.A.in1) (show X.A.in1.handled = none from I.ok.hd hc) it a hai its.toArray) he ⟨hit, hT⟩ (by simpa using hi) hne (by simp [hne, Ne.symm hae]) fun x' h' tk hx' ho hst' hT1 hsz hk => ?_
    have hxu : x' = u := by
      have h2 : its[i]? = some x' := by simpa using hx'
      rw [hu] at h2
      exact (Option.some.inj h2).symm
    subst hxu
    refine ⟨_, rfl, wpAny_letOwnedTupleGo_enum (s := { s with heap := h', toks := tk + 1 }) ho fun h'' he' sb => ?_⟩
    have hT2 : h''.get? s.heap.objs.size = some { cls := .type "tuple", data := .seq #[.int i tk, x'] } := (sb.2 _ (Nat.ne_of_gt hel)).trans hT1
    have new : ObjOk X.prog X.w (upd H s.heap.objs.size (.tup [.int (i : Nat), x])) h'' s.heap.objs.size (.tup [.int (i : Nat), x]) :=
      ⟨by show 2 ≤ sizeLine; decide, [.int i tk, x'], .cons ⟨_, rfl⟩ (.cons ru .nil), ⟨_, hT2, rfl, _, rfl⟩⟩
    have I1 : Inv X pins σ (upd H s.heap.objs.size (.tup [.int (i : Nat), x])) { s with heap := h'', toks := tk + 1 } :=
      I.turnedNew (ch := [e, it]) (fun b ob hb q => (sb.2 b (fun z => hb (by simp [z]))).trans (hk b ob (fun z => hb (by simp [z])) (fun z => hb (by simp [z])) q)) hf (Nat.le_refl _) new
    refine ⟨.ref s.heap.objs.size, _, I1, rfl, ⟨_, x, rfl, I.hok.fresh (Nat.le_refl _), rfl, fun ys hy => by rw [I.tuple_inj hy hq]; exact hx⟩, ⟨⟨x', ?_⟩, hst'.1.at fun o q => (sb.2 it (Ne.symm hne)).trans q, hne⟩, fun b hb => ?_⟩
    · have e1 : ((i + 1 : Nat) : Int) = (i : Int) + 1 := by omega
      rw [e1]; exact he'
    · have hb' : b < s.heap.objs.size := by
        have e' : b = e ∨ b = it := by simpa using hb
        rcases e' with z | z
        · rw [z]; exact hel
        · rw [z]; exact hil
      rw [upd_ne (Nat.ne_of_lt hb')]
      exact (hf b hb).1
  done := by
    intro X hP hw hK hc i pins s σ H E I hf st hg
    subst hP hw hK
    obtain ⟨⟨old, he⟩, hit, hne⟩ := st
    obtain ⟨xs, hq, hx⟩ := hg
    obtain ⟨its, rv, p, hz⟩ := I.tuple hq
    obtain ⟨f0, f1, f2, f3, f4, f5⟩ := hf it (by simp)
    have hl := rv.length
    have hT : s.heap.IsTuple a its.toArray := p
    have D : Draws X.prog X.w X.A.in1 it [it, a] i (fun i v => its.toArray[i]? = some v) (fun j h => j = i ∧ h.IsTupleIter it a i ∧ h.IsTuple a its.toArray) :=
      ⟨fun _ _ st => let ⟨o, ho, _⟩ := st.2.1; ⟨o, ho⟩, fun _ _ _ st hk => ⟨st.1, st.2.1.at fun o e => hk it (by simp) o e, st.2.2.at fun o e => hk a (by simp) o e⟩,
       fun j s Q E hj st hQ => (Nat.lt_irrefl _ (st.1 ▸ hj)).elim,
       fun s Q E st hE => wpAny_nextOf_tuple_end (show X.A.in1.handled = none from I.ok.hd hc) st.2.1 st.2.2 (by simp; omega) hE⟩
    exact wpAny_pyNext_enum_endD D he ⟨rfl, hit, hT⟩ fun h' eb => ⟨rfl, I.turned (t' := s.toks) (fun b o hb q => eb b o hb q) f0 f1 f3 f4 f5⟩
  self := fun A i s Q E st h => let ⟨⟨_, he⟩, _⟩ := st; wpAny_pyIter_enum he h
def iEnumA (K : PySem.W.Frag) (ta : TA) : TI := fun σ H R => ta σ H fun vs H1 => ∃ a xs, vs = [.ref a] ∧ ((SqL K H1 a xs ∧ R (Ite K a) H1) ∨ (SqT K H1 a xs ∧ R (IteT K a) H1))
theorem pi_enumA {X : Cx} {e : Expr} {ta : TA} {p pos tpos : Pos} {elts : List Expr} {kk : Nat} (hg : Gl X "enumerate") (hm : X.mg "enumerate" = none) (ha : PA X [e] ta) (hs : starEach [e] X.env = [(false, eval e X.env)] := by rfl) :
    PI X (.Tuple elts kk tpos) (.Call (.Name "enumerate" p) [e] [] pos) (iEnumA X.K ta) := by
  refine ⟨fun pins s σ H R I h => ?_⟩
  refine Call_ (ld_blt I hg hm boot_enumerate (PyProof.Rows.callWith_type1 (thn (ha.run pos pins s σ H _ I h) fun us s1 ⟨vs, H1, I1, r1, q1⟩ => ?_) hs rfl))
  obtain ⟨a, xs, ex, q⟩ := q1
  subst ex
  cases r1 with
  | cons r rr =>
    cases rr
    cases r
    have fresh2 : ∀ b, b ∈ [s1.heap.objs.size + 1, s1.heap.objs.size] → FpOk X pins H1 b := fun b hb => by
      have e' : b = s1.heap.objs.size + 1 ∨ b = s1.heap.objs.size := by simpa using hb
      have hle : s1.heap.objs.size ≤ b := by
        rcases e' with z | z
        · rw [z]; exact Nat.le_add_right _ _
        · rw [z]; exact Nat.le_refl _
      exact I1.fpOk hle (I1.hok.fresh hle)
    rcases q with ⟨hq, q⟩ | ⟨hq, q⟩
    · obtain ⟨its, rv, p', hz⟩ := I1.list hq
      refine call_enumerate_list p'.isList fun h' he hit hsz hk => wpAny_pyIter_enum he ?_
      have I2 : Inv X pins σ H1 { s1 with heap := h' } := I1.kept (t' := s1.toks) hk
      exact ⟨s1.heap.objs.size + 1, [s1.heap.objs.size + 1, s1.heap.objs.size], _, _, H1, rfl, I2, turn_enum a (s1.heap.objs.size + 1) s1.heap.objs.size, ⟨⟨.none, he⟩, hit, Nat.succ_ne_self _⟩, fresh2, q⟩
    · obtain ⟨its, rv, p', hz⟩ := I1.tuple hq
      have hT : s1.heap.IsTuple a its.toArray := p'
      have hlt : a < s1.heap.objs.size := by obtain ⟨o, ho, _⟩ := hT; exact Heap.lt_size ho
      refine enum_begins1 (begins_tuple a its.toArray) hT fun h' he hit hsz hk => wpAny_pyIter_enum he ?_
      have I2 : Inv X pins σ H1 { s1 with heap := h' } := I1.kept (t' := s1.toks) hk
      exact ⟨s1.heap.objs.size + 1, [s1.heap.objs.size + 1, s1.heap.objs.size], _, _, H1, rfl, I2, turn_enumT a (s1.heap.objs.size + 1) s1.heap.objs.size (Nat.ne_of_lt (Nat.lt_succ_of_lt hlt)) (Nat.ne_of_lt hlt), ⟨⟨.none, he⟩, ⟨_, hit, rfl, rfl⟩, Nat.succ_ne_self _⟩, fresh2, q⟩
def enumSrc (d : D) (S : Store) : Option Src := match lstSrc d S with
  | some s => some s
  | none => (rdT d).map fun ds => ⟨ds, []⟩
def mEnumA (ms : DSt → Store → Res (List D)) (σ : DSt) (S : Store) : Res Src := (ms σ S).bind fun ds S1 => match ds with
  | [d] => match enumSrc d S1 with
    | some src => .ok ⟨enumD 0 src.items, src.guard⟩ S1
    | none => .stuck
  | _ => .stuck
theorem pmi_enumA {X : Cx} {W : XW} {pos : Pos} {e : Expr} {ms : DSt → Store → Res (List D)} {p tpos : Pos} {elts : List Expr} {kk : Nat} (hg : Gl X "enumerate") (hm : X.mg "enumerate" = none) (ha : PMA X W [e] ms) (hs : starEach [e] X.env = [(false, eval e X.env)] := by rfl) :
    PMI X W (.Tuple elts kk tpos) (.Call (.Name "enumerate" p) [e] [] pos) (mEnumA ms) := by
  refine PI.imp (pi_enumA hg hm (PA.szd ha) hs) fun σ H R ⟨w, dσ, S, A, Rs, P⟩ => ⟨w, dσ, S, A, Rs, P.bind fun ds S1 w1 H1 vs e1 A1 r1 P1 szL szT => ?_⟩
  split at P1
  · split at P1
    · rename_i d _ src hs
      obtain ⟨v, rfl, r⟩ := reps1 r1
      unfold enumSrc at hs
      split at hs
      · rename_i s hs'
        cases hs
        obtain ⟨a, us, rfl, hq, ru, st⟩ := lst_st A1 hs' r
        refine ⟨a, us, rfl, .inl ⟨hq, P1.fin A1 ⟨fun w' H' S' i e' A' g => ?_, by show (enumD 0 src.items).length ≤ sizeLine; rw [enumD_len, ru.length]; exact szL a us hq⟩⟩⟩
        obtain ⟨us', hq', ru'⟩ := st w' H' S' e' A' g
        refine ⟨fun d' hd => ?_, fun hl => ⟨us', hq', ?_⟩⟩
        · obtain ⟨d'', h1, rfl⟩ := enumD_get hd
          obtain ⟨u, hu, ru''⟩ := ru'.get h1
          refine ⟨⟨us', u, hq', hu⟩, fun x H2 y => ?_⟩
          obtain ⟨T, x', rfl, hT, rfl, f⟩ := y
          have hx := f us' hq'
          rw [hu] at hx
          cases hx
          rw [Nat.zero_add]
          exact yldTup A' hT (of_int _) ru''
        · have : (enumD 0 src.items).length ≤ i := hl
          rw [enumD_len, ru'.length] at this
          exact this
      · simp only [Option.map_eq_some_iff] at hs
        obtain ⟨es, h1, rfl⟩ := hs
        obtain ⟨a, us, rfl, hq, ru, st⟩ := tup_st h1 r
        refine ⟨a, us, rfl, .inr ⟨hq, P1.fin A1 ⟨fun w' H' S' i e' A' g => ?_, by show (enumD 0 es).length ≤ sizeLine; rw [enumD_len, ru.length]; exact szT a us hq⟩⟩⟩
        obtain ⟨us', hq', ru'⟩ := st w' H' e'
        refine ⟨fun d' hd => ?_, fun hl => ⟨us', hq', ?_⟩⟩
        · obtain ⟨d'', h1, rfl⟩ := enumD_get hd
          obtain ⟨u, hu, ru''⟩ := ru'.get h1
          refine ⟨⟨us', u, hq', hu⟩, fun x H2 y => ?_⟩
          obtain ⟨T, x', rfl, hT, rfl, f⟩ := y
          have hx := f us' hq'
          rw [hu] at hx
          cases hx
          rw [Nat.zero_add]
          exact yldTup A' hT (of_int _) ru''
        · have : (enumD 0 es).length ≤ i := hl
          rw [enumD_len, ru'.length] at this
          exact this
    · exact P1.elim
  · exact P1.elim
end L3
namespace L3
open PySem PySem.Spec PyProof.Rows L2
/-! ### is True, is False -/
def isBD (neg : Bool) (d e : D) (S : Store) : Res D := match d, e with
  | .bl a, .bl b => .ok (.bl (xor neg (decide (a = b)))) S
  | _, _ => .stuck
section
variable {X : Cx} {W : XW}
theorem od_isnotB : OpD X W (compareOp .IsNot) (isBD true) := by
  refine ⟨_, op_isnot_bl, fun w H S d e x y σ Q A rd re P => ?_⟩
  unfold isBD at P
  split at P
  · rw [Bool.true_xor] at P
    exact ⟨_, _, rep_bl rd, rep_bl re, P.fin A (of_bl _)⟩
  · exact P.elim
end
/-! ### d.pop(k), d.setdefault(k, v): keys that are tuples -/
section
variable {X : Cx} {W : XW}
def dropD {κ : Type} [DecidableEq κ] (kvs : List (κ × D)) (k : κ) : List (κ × D) := kvs.filter fun kv => decide (kv.1 ≠ k)
theorem RKv.drop {κ : Type} [DecidableEq κ] (k : κ) {K : PySem.W.Frag} {w : Wd} {H : Hp} : ∀ {kvs : List (κ × D)} {vs : List (κ × V)}, RKv K w H kvs vs → RKv K w H (dropD kvs k) (dropK vs k)
  | [], _, h => by simp only [RKv] at h; subst h; rfl
  | (j, d) :: kvs, _, h => by
    obtain ⟨v, us, rfl, h1, h2⟩ := h
    have ih := RKv.drop k h2
    unfold dropD at ih ⊢
    unfold dropK at ih ⊢
    by_cases e : j = k
    · rw [List.filter_cons_of_neg (by simp [e]), List.filter_cons_of_neg (by simp [e])]
      exact ih
    · rw [List.filter_cons_of_pos (by simp [e]), List.filter_cons_of_pos (by simp [e])]
      exact ⟨v, _, rfl, h1, ih⟩
end
end L3
namespace L3
open PySem PySem.Spec PyProof.Rows L2
section
variable {X : Cx} {W : XW}
end
section
variable {X : Cx} {W : XW}
end
end L3
namespace L3
open PySem PySem.Spec PyProof.Rows L2
/-! ### a dict compared with an empty one -/
section
variable {prog : Program} {w : World} {A : Around} {E : Value → Shared → Prop} {s : Shared}
end
section
variable {X : Cx} {W : XW}
end
end L3
namespace L3
open PySem PySem.Spec PyProof.Rows PySem.Calls L2
/-! ### list(..) and sorted(..) of a dict with tuple keys -/
section
variable {prog : Program} {w : World} {A : Around} {E : Value → Shared → Prop} {s : Shared} {Q : Value → Shared → Prop}
end
section
variable {X : Cx} {W : XW}
end
end L3
namespace L3
open PySem PySem.Spec PyProof.Rows L2
section
variable {P : Program} {w : World} {K : PySem.W.Frag} {mg : Str → Option Value} {base : Heap}
end
open Classical in
/-- what a call that raises has made and left behind may be forgotten, too -/
noncomputable def gcX (den : List D → Store → Res D) (ds : List D) (S : Store) : Res D := match den ds S with
  | .exc c fs S' => if fs = [] ∧ Kept S S' then .exc c [] (S'.take S.length) else .exc c fs S'
  | .ok _ _ => gcD den ds S
  | .stuck => .stuck
/-! ### calls of such defs -/
section
variable {X : Cx} {W : XW} {k n : Nat} {f : Addr} {fd : FuncData} {ps : List Str} {den : List D → Store → Res D} {x m : Str} {p pos apos : Pos} {e o : Expr} {es : List Expr}
/-- what the module says of an own exception class without an __init__ -/
structure ExcT (K : PySem.W.Frag) (C : Addr) : Prop where
  ex : PySem.W.excIn K C [.type "ValueError", .type "Exception", .type "BaseException", .type "object"] "ValueError.__new__" = true
  kp : PySem.W.keepIn K (.ref C) = true
  bs : PySem.W.subIn K (.ref C) (.type "BaseException") = some true
  ty : PySem.W.typeIn K (.ref C) = some (.type "type")
  ic : ExcC K C
def mRaise (c : Str) (σ : DSt) (S : Store) : Res Fl := .ok (.ex c [] σ) S
/-! ### try .. except X as n -/
/-- behind the suite the name is gone -/
def finT (i : Nat) : Res Fl → Res Fl
  | .ok (.nx σ2) S2 => .ok (.nx (σ2.set i none)) S2
  | .ok (.rt d) S2 => .ok (.rt d) S2
  | _ => .stuck
open Classical in
/-- whatever the exception's address is -/
noncomputable def suiteT (i : Nat) (m : Nat → DSt → Store → Res Fl) (σ : DSt) (S : Store) : Res Fl := if h : ∃ r, ∀ a, finT i (m a (σ.set i (some (.exn a))) S) = r then h.choose else .stuck
end
section
variable {X : Cx} {W : XW} {D a : Addr} {oe : Obj} {pn : List (Addr × Obj)} {i : Nat} {n tn : Str} {p p1 p2 pos : Pos} {b : Bool} {cv : Value}
end
end L3
namespace L3
open PySem PySem.Spec PyProof.Rows L2
section
variable {X : Cx} {W : XW}
end
end L3
namespace L3
open PySem PySem.Spec PyProof.Rows PySem.Calls L2
/-! ### a, b = a list of two -/
section
variable {X : Cx} {W : XW} {pos : Pos}
end
end L3
namespace L3
open PySem PySem.Spec PyProof.Rows PySem.Calls L2
/-! ### sorted(..) of a tuple -/
section
variable {prog : Program} {w : World} {A : Around} {E : Value → Shared → Prop} {s : Shared} {Q : Value → Shared → Prop}
end
open Classical in
noncomputable def sortedTD (ds : List D) (S : Store) : Res D := match ds with
  | [d] => match rdT d with
    | some es => if Srt es ∧ es.length ≤ sizeLine then .ok (.lst (es.mergeSort dLe)) S else .stuck
    | none => .stuck
  | _ => .stuck
end L3
namespace L2
open PySem PySem.Spec PyProof.Rows
end L2
namespace L3
open PySem PySem.Spec L2
section
variable {X : Cx} {W : XW}
end
end L3
set_option maxHeartbeats 4000000
namespace L2
open PySem PySem.Spec PyProof.Rows
section
variable {X : Cx}
end
end L2
namespace L3
open PySem PySem.Spec L2
section
variable {X : Cx} {W : XW}
end
end L3
namespace L2
open PySem PySem.Spec PyProof.Rows
section
variable {X : Cx} {pins : List (Addr × Obj)} {σ : St} {H : Hp} {s : Shared} {a : Addr} {y v : V} {u r : Value} {A : Around} {E : Value → Shared → Prop}
end
end L2
namespace L3
open PySem PySem.Spec L2
section
variable {X : Cx} {W : XW} {pos : Pos}
end
end L3
namespace L3
open PySem PySem.Spec L2
section
variable {X : Cx} {W : XW} {pos : Pos}
/-- a, b, c = x, y, z -/
def mPar3 (i j l : Nat) (ms : DSt → Store → Res (List D)) (σ : DSt) (S : Store) : Res Fl := liftE (ms σ S) σ fun ds S1 => match ds with
  | [a, b, c] => .ok (.nx (((σ.set i (some a)).set j (some b)).set l (some c))) S1
  | _ => .stuck
end
end L3
namespace L3
open PySem PySem.Spec PyProof.Rows L2
section
variable {P : Program} {w : World} {K : PySem.W.Frag} {mg : Str → Option Value} {base : Heap}
end
section
variable {X : Cx} {W : XW} {x f n : Str} {e : Expr} {p pos pos' : Pos} {C fI : Addr} {k : Nat} {fd : FuncData}
end
end L3
set_option maxHeartbeats 4000000
/-! ### isinstance of a caught exception that has its dict -/
namespace PySem.W
open PySem PySem.Spec PySem.Calls PyProof.Rows
section
variable {prog : Program} {w : World} {A : Around} {E : Value → Shared → Prop} {s : Shared} {K : Frag} {x D : Addr} {ox : Obj} {od : Option Obj}
end
end PySem.W
namespace L3
open PySem PySem.Spec PyProof.Rows L2
/-! ### a suite that holds an exception with its field -/
section
variable {X : Cx} {W : XW} {Cd a dd : Addr} {oe : Obj} {pn : List (Addr × Obj)} {i : Nat} {n tn f : Str} {p p1 p2 pos : Pos} {b : Bool} {cv : Value}
end
end L3
namespace L3
open PySem PySem.Spec PyProof.Rows L2
/-! ### try .. except X as n, where the exception may have a field -/
section
variable {X : Cx} {W : XW} {x : Str} {pos : Pos}
open Classical in
/-- whatever the exception's address is, and its dict's -/
noncomputable def suiteF (i : Nat) (f : Str) (z : Int) (m : Nat → Nat → DSt → Store → Res Fl) (σ : DSt) (S : Store) : Res Fl := if h : ∃ r, ∀ a dd, finT i (m a dd (σ.set i (some (.exf a dd f z))) S) = r then h.choose else .stuck
end
end L3
namespace L3
open PySem PySem.Spec PyProof.Rows L2
/-! ### set(x), by what its update leaves -/
abbrev setNew (w : World) : Obj := { cls := .type "set", dict := none, data := .set #[] 0 (.fresh 0 0 (!w.params.followText "set-order")) }
section
variable {prog : Program} {w : World} {A : Around} {E : Value → Shared → Prop} {s : Shared}
set_option maxHeartbeats 3200000 in
theorem set_call {x : Value} {R : Shared → Prop} {Q : Value → Shared → Prop}
    (up : ∀ E' : Value → Shared → Prop, wpAny (model prog w) A.in1.in1 (Builtin.Frozenset.updateFrom "set.__init__" s.heap.objs.size x) (fun _ s' => R s') E' { s with heap := s.heap.push (setNew w) })
    (fin : ∀ s', R s' → Q (.ref s.heap.objs.size) s') : wpAny (model prog w) A (call (.type "set") [x]) Q E s := by
  obtain ⟨cl, tl, mro⟩ := F.called_set.mro
  have made := F.called_set.made; have sb := F.called_set.sub
  have nt := F.called_set.notType; have cc := F.called_set.canCreate; have ct := F.typeCall_set_1 x
  refine wpAny_call (codeAny_of_tree (show wpAny _ _ (callAny (.type "set") _) _ _ _ from wpAny_pure ⟨Code.quiet_builtin _ (by decide +kernel), codeAny_builtin F.entry_type_call ?_⟩))
  rw [Around.under_plain (weight_type_call_type "set" [x] []) rfl]
  repeat (any_goals (first | assumption | wp_step))
  refine codeAny_mono (code_set_led1 x (E := E) (Q₁ := fun ob s1 => ob = .ref s.heap.objs.size ∧ s1 = { s with heap := s.heap.push (setNew w) }) ⟨rfl, rfl⟩) fun r s1 hr => ?_
  cases r with
  | error e => exact hr
  | ok fl =>
    cases fl with
    | ret ob =>
      obtain ⟨rfl, rfl⟩ := hr
      have ty : Shared.TypeIs { s with heap := s.heap.push (setNew w) } (.ref s.heap.objs.size) "set" := ⟨_, Heap.get?_push_size _ rfl, rfl⟩
      have ho : (s.heap.push (setNew w)).get? s.heap.objs.size = some (setNew w) := Heap.get?_push_size _ rfl
      have il := F.called_set.init.lookup; have ib := F.called_set.init.bind (.ref s.heap.objs.size)
      repeat (any_goals (first | assumption | wp_step))
      refine codeAny_mono (codeAny_call_builtin (R := wants (fun r s2 => r = .none ∧ R s2) E) F.called_set.init.plain F.entry_set_init (check_set_init_1 ty ?_)) fun r2 s2 hr2 => ?_
      · have u1 := up
        unfold Builtin.«set.__init__» noKeywords
        generalize hUF : Builtin.Frozenset.updateFrom = UF at u1 ⊢
        wp_walk
        exact wpAny_mono (u1 _) (fun _ s' h => wpAny_pure ⟨rfl, h⟩) fun _ _ h => h
      · cases r2 with
        | error e => exact hr2
        | ok f2 =>
          cases f2 with
          | ret r =>
            obtain ⟨rfl, hs2⟩ := hr2
            repeat (any_goals (first | assumption | wp_step))
            exact fin _ hs2
          | _ => exact hr2.elim
    | _ => exact hr.elim
theorem upd_walk {x : Value} {T : String} {S : Addr} {Q : Unit → Shared → Prop} (hT : s.TypeIs x T) (h1 : isSubtype (.type T) (.type "set") = pure false) (h2 : isSubtype (.type T) (.type "frozenset") = pure false) (h3 : (Value.type T == Value.type "dict") = false)
    (hi : wpAny (model prog w) A (pyIter x) (fun v s1 => ∃ I, v = .ref I ∧ codeAny (model prog w) A (.builtin "set.update.loop" ⟨[.ref S, .ref I], []⟩) (wants (fun _ s2 => Q () s2) E) s1) E s) :
    wpAny (model prog w) A (Builtin.Frozenset.updateFrom "set.__init__" S x) Q E s := by
  unfold Builtin.Frozenset.updateFrom Builtin.Frozenset.isAnySet orM
  refine wpAny_bind (wpAny_bind (wpAny_isInstance hT h1 (show wpAny _ _ (isInstance x (.type "frozenset")) _ _ s from wpAny_isInstance hT h2 ?_)))
  simp only [Bool.false_eq_true, if_false]
  refine wpAny_bind (wpAny_typeOf hT ?_)
  simp only [h3, Bool.false_eq_true, if_false]
  refine wpAny_bind (wpAny_mono hi ?_ fun _ _ h => h)
  rintro _ s1 ⟨I, rfl, hc⟩
  refine wpAny_bind (wpAny_runValue ?_)
  refine codeAny_mono hc fun r s' h => ?_
  cases r with
  | error e => exact h
  | ok f => cases f with
    | ret v => exact wpAny_pure h
    | _ => exact h.elim
/-- what x's iterator gives, beside a new set at S -/
def Feeds (prog : Program) (w : World) (A : Around) (s0 : Shared) (S : Addr) (x : Value) (n : Nat) (Pv : Nat → Value → Prop) : Prop :=
  ∀ (E : Value → Shared → Prop) (Q : Value → Shared → Prop), (∀ (I : Addr) (fp : List Addr) (St : Nat → Shared → Prop) (o : Obj), WalksS prog w A.in1 I fp [I] (fun a b => b = a) n Pv St → S ∉ fp → I = s0.heap.objs.size →
    St 0 { s0 with heap := s0.heap.push o } → Q (.ref I) { s0 with heap := s0.heap.push o }) → wpAny (model prog w) A (pyIter x) Q E s0
theorem feeds_list {A : Around} {s0 : Shared} {S l : Addr} {items : Array Value} (hh : A.in1.handled = none) (hl : s0.heap.IsList l items) (h1 : S < s0.heap.objs.size) (h2 : S ≠ l) : Feeds prog w A s0 S (.ref l) items.size (fun i v => items[i]? = some v) := by
  intro E Q k
  have lt : l < s0.heap.objs.size := by obtain ⟨o, ho, _⟩ := hl; exact Heap.lt_size ho
  refine wpAny_pyIter_list hl (k _ _ _ _ (Walks.list hh _ l (Nat.ne_of_lt lt) items).toS (fun z => ?_) rfl ⟨⟨_, Heap.get?_push_size _ rfl, rfl, rfl⟩, hl.push _⟩)
  rcases List.mem_cons.mp z with z | z
  · exact absurd z (Nat.ne_of_lt h1)
  · exact h2 (List.mem_singleton.mp z)
theorem feeds_tup {A : Around} {s0 : Shared} {S l : Addr} {items : Array Value} (hh : A.in1.handled = none) (hl : s0.heap.IsTuple l items) (h1 : S < s0.heap.objs.size) (h2 : S ≠ l) : Feeds prog w A s0 S (.ref l) items.size (fun i v => items[i]? = some v) := by
  intro E Q k
  have lt : l < s0.heap.objs.size := by obtain ⟨o, ho, _⟩ := hl; exact Heap.lt_size ho
  refine wpAny_pyIter_tuple hl (k _ _ _ _ (Walks.tuple hh _ l (Nat.ne_of_lt lt) items).toS (fun z => ?_) rfl ⟨⟨_, Heap.get?_push_size _ rfl, rfl, rfl⟩, hl.push _⟩)
  rcases List.mem_cons.mp z with z | z
  · exact absurd z (Nat.ne_of_lt h1)
  · exact h2 (List.mem_singleton.mp z)
/-- set(x) of what is fed -/
theorem set_fed {x : Value} {T : String} {n : Nat} {Pv : Nat → Value → Prop} {R : Shared → Prop} {Q : Value → Shared → Prop} (hT : ({ s with heap := s.heap.push (setNew w) } : Shared).TypeIs x T) (h1 : isSubtype (.type T) (.type "set") = pure false) (h2 : isSubtype (.type T) (.type "frozenset") = pure false) (h3 : (Value.type T == Value.type "dict") = false)
    (hF : Feeds prog w A.in1.in1 { s with heap := s.heap.push (setNew w) } s.heap.objs.size x n Pv)
    (loop : ∀ (E' : Value → Shared → Prop) (I : Addr) (fp : List Addr) (St : Nat → Shared → Prop) (s1 : Shared), WalksS prog w A.in1.in1.in1 I fp [I] (fun a b => b = a) n Pv St → s.heap.objs.size ∉ fp → I = s.heap.objs.size + 1 → St 0 s1 →
      s1.gens = s.gens → s1.drawn = s.drawn → s1.os = s.os → s1.heap.get? s.heap.objs.size = some (setNew w) → (∀ b o, s.heap.get? b = some o → s1.heap.get? b = some o) →
      codeAny (model prog w) A.in1.in1 (.builtin "set.update.loop" ⟨[.ref s.heap.objs.size, .ref I], []⟩) (wants (fun _ s2 => R s2) E') s1)
    (fin : ∀ s', R s' → Q (.ref s.heap.objs.size) s') : wpAny (model prog w) A (call (.type "set") [x]) Q E s := by
  refine set_call (fun E' => upd_walk hT h1 h2 h3 (hF _ _ fun I fp St o W hS hI st => ⟨I, rfl, loop E' I fp St _ W hS ?_ st rfl rfl rfl ?_ fun b u e => Heap.get?_push_of_some _ (Heap.get?_push_of_some _ e)⟩)) fin
  · rw [hI, Heap.size_push]
  · exact Heap.get?_push_of_some _ (Heap.get?_push_size _ rfl)
end
/-! ### sets of texts -/
def keyX (e : Int × Value) : Str := match e.2 with | .str k _ => k | _ => Str.empty
def EntX (w : World) (e : Int × Value) : Prop := ∃ k tk, e.2 = Value.str k tk ∧ e.1 = hashStr w k
/-- the set at a holds the texts xs, in its table's order -/
def SetX (w : World) (h : Heap) (a : Addr) (xs : List Str) : Prop :=
  ∃ o es ep t, h.get? a = some o ∧ o.ExactSet ∧ o.data = .set es ep t ∧ (∀ e ∈ es.toList, EntX w e) ∧ es.toList.map keyX = xs ∧ xs.Nodup ∧ es.size < scanBound ∧ t.fits es.size = true ∧ Ris t.place.toList ∧ (w.params.followText "set-order" = true ∨ t.led = true)
section
variable {P : Program} {w : World} {A : Around} {E : Value → Shared → Prop} {s : Shared} {a : Addr} {xs : List Str}
theorem SetX.keep {h h' : Heap} (R : SetX w h a xs) (k : ∀ o, h.get? a = some o → h'.get? a = some o) : SetX w h' a xs := by
  obtain ⟨o, es, ep, t, ho, r⟩ := R
  exact ⟨o, es, ep, t, k o ho, r⟩
end
section
variable {X : Cx}
end
end L3
namespace L3
open PySem PySem.Spec PyProof.Rows L2
/-! ### sets of places -/
theorem none_from {h : Heap} {b : Addr} (hb : h.objs.size ≤ b) : h.get? b = none := by
  cases q : h.get? b with
  | none => rfl
  | some o => exact absurd (Nat.lt_of_lt_of_le (Heap.lt_size q) hb) (Nat.lt_irrefl _)
section
variable {P : Program} {w : World} {A : Around} {E : Value → Shared → Prop} {s : Shared}
end
section
variable {X : Cx}
end
/-! ### D -/
def undup {α : Type} [DecidableEq α] : List α → List α
  | [] => []
  | x :: xs => if x ∈ xs then undup xs else x :: undup xs
theorem mem_undup {α : Type} [DecidableEq α] {x : α} : ∀ {xs : List α}, x ∈ undup xs ↔ x ∈ xs
  | [] => Iff.rfl
  | y :: xs => by
    unfold undup
    split
    · rename_i h
      rw [mem_undup, List.mem_cons]
      exact ⟨.inr, fun z => z.elim (fun e => e ▸ h) id⟩
    · rw [List.mem_cons, List.mem_cons, mem_undup]
theorem nodup_undup {α : Type} [DecidableEq α] : ∀ xs : List α, (undup xs).Nodup
  | [] => List.nodup_nil
  | y :: xs => by
    unfold undup
    split
    · exact nodup_undup xs
    · rename_i h
      exact List.nodup_cons.mpr ⟨fun z => h (mem_undup.mp z), nodup_undup xs⟩
theorem undup_perm {α : Type} [DecidableEq α] {xs ys : List α} (nd : ys.Nodup) (h : ∀ x, x ∈ ys ↔ x ∈ xs) : ys.Perm (undup xs) :=
  (List.perm_ext_iff_of_nodup nd (nodup_undup xs)).mpr fun x => by rw [h, mem_undup]
theorem undup_len {α : Type} [DecidableEq α] : ∀ {xs : List α}, (undup xs).length = xs.length ↔ xs.Nodup
  | [] => by simp [undup]
  | y :: xs => by
    have le : ∀ zs : List α, (undup zs).length ≤ zs.length := fun zs => by
      induction zs with
      | nil => exact Nat.le_refl _
      | cons z zs ih =>
        unfold undup
        split
        · exact Nat.le_succ_of_le ih
        · exact Nat.succ_le_succ ih
    unfold undup
    split
    · rename_i h
      have := le xs
      simp only [List.length_cons, List.nodup_cons]
      exact ⟨fun e => by omega, fun z => absurd h z.1⟩
    · rename_i h
      simp only [List.length_cons, List.nodup_cons]
      rw [← undup_len (xs := xs)]
      exact ⟨fun e => ⟨h, by omega⟩, fun e => by omega⟩
section
variable {P : Program} {w : World} {A : Around} {E : Value → Shared → Prop} {s : Shared}
end
section
variable {K : PySem.W.Frag} {mg : Str → Option Value} {w : Wd} {H : Hp} {S : Store}
end
section
variable {X : Cx} {W : XW} {e : Expr} {p p2 q pos : Pos} {m : DSt → Store → Res D}
end
end L3
namespace L3
open PySem PySem.Spec PyProof.Rows L2
section
variable {X : Cx} {W : XW} {pos : Pos}
end
end L3
namespace L3
open PySem PySem.Spec PyProof.Rows L2
section
variable {X : Cx} {W : XW} {o e : Expr} {es : List Expr} {to : TE} {t : TA} {name : Str} {apos cpos : Pos} {id : String} {r : V → List V → Hp → VK → Prop}
end
end L3
namespace L3
open PySem PySem.Spec PyProof.Rows L2
section
variable {X : Cx} {W : XW}
end
end L3
namespace L3
open PySem PySem.Spec PyProof.Rows L2
section
variable {X : Cx} {W : XW}
end
end L3
namespace L3
open PySem PySem.Spec PyProof.Rows L2
section
variable {X : Cx} {W : XW}
end
end L3
namespace L3
open PySem PySem.Spec PyProof.Rows L2
/-! ### min, max of a tuple of whole numbers -/
section
variable {X : Cx} {W : XW}
end
end L3
namespace L3
open PySem PySem.Spec PyProof.Rows L2
/-! ### dicts whose keys are tuples of tuples of whole numbers -/
def nkN (k : NK) : NestedKey := .tup (k.map fun t => .tup (t.map .num))
theorem num_inj : ∀ {a b : List Int}, a.map NestedKey.num = b.map NestedKey.num → a = b
  | [], [], _ => rfl
  | [], _ :: _, h => by simp at h
  | _ :: _, [], h => by simp at h
  | x :: a, y :: b, h => by
    simp only [List.map_cons, List.cons.injEq, NestedKey.num.injEq] at h
    rw [h.1, num_inj h.2]
theorem tups_inj : ∀ {a b : NK}, a.map (fun t => NestedKey.tup (t.map .num)) = b.map (fun t => NestedKey.tup (t.map .num)) → a = b
  | [], [], _ => rfl
  | [], _ :: _, h => by simp at h
  | _ :: _, [], h => by simp at h
  | x :: a, y :: b, h => by
    simp only [List.map_cons, List.cons.injEq, NestedKey.tup.injEq] at h
    rw [num_inj h.1, tups_inj h.2]
theorem nkN_inj {a b : NK} (h : nkN a = nkN b) : a = b := tups_inj (NestedKey.tup.inj h)
theorem hashes_num (w : World) : ∀ t : List Int, NestedKey.hashes w (t.map .num) = t.map hashInt
  | [] => rfl
  | _ :: t => by simp only [List.map_cons, NestedKey.hashes, NestedKey.hash, hashes_num w t]
theorem hashes_tup (w : World) : ∀ k : NK, NestedKey.hashes w (k.map fun t => .tup (t.map .num)) = k.map fun t => reduceHash (Builtin.Tuple.tupleHashOf (t.map hashInt))
  | [] => rfl
  | _ :: k => by simp only [List.map_cons, NestedKey.hashes, NestedKey.hash, hashes_num, hashes_tup w k]
theorem nkHash_eq (w : World) (k : NK) : (nkN k).hash w = nkHash k := by
  unfold nkN nkHash
  simp only [NestedKey.hash, hashes_tup]
theorem depth_num : ∀ t : List Int, NestedKey.depthAll (t.map .num) = 0
  | [] => rfl
  | _ :: t => by simp only [List.map_cons, NestedKey.depthAll, NestedKey.depth, depth_num t]; rfl
theorem nkN_depth (k : NK) : (nkN k).depth ≤ 8 := by
  have : ∀ k : NK, NestedKey.depthAll (k.map fun t => NestedKey.tup (t.map .num)) ≤ 1 := fun k => by
    induction k with
    | nil => exact Nat.zero_le _
    | cons t k ih =>
      simp only [List.map_cons, NestedKey.depthAll, NestedKey.depth, depth_num]
      omega
  unfold nkN
  simp only [NestedKey.depth]
  have := this k
  omega
/-- the kind of such keys -/
def nkKind (P : Program) (w : World) : HeapKind P w NK where
  is := fun h k a => (nestedKind P w).is h (nkN k) a
  hash := fun k => nkHash k
  draws := fun k => (nestedKind P w).draws (nkN k)
  room := fun A => (nestedKind P w).room A
  inj := fun hx hy => nkN_inj ((nestedKind P w).inj hx hy)
  keeps := fun x ho hd hs => (nestedKind P w).keeps x ho hd hs
  pyHash := fun {A E s k a Q} hu hk h => (nestedKind P w).pyHash hu hk (by
    show Q ((nkN k).hash w) _
    rw [nkHash_eq]
    exact h)
  eqBool := fun {A E s x y a b Q} hu hx hy h => (nestedKind P w).eqBool hu hx hy (by
    have : decide (nkN x = nkN y) = decide (x = y) := by
      rw [Bool.eq_iff_iff, decide_eq_true_eq, decide_eq_true_eq]
      exact ⟨nkN_inj, fun e => by rw [e]⟩
    rw [this]
    exact h)
  quiet := fun hk h => (nestedKind P w).quiet hk h
/-! ### where they lie -/
section
variable {P : Program} {W : World} {H : Hp} {h : Heap} {a b p : Addr} {K : PySem.W.Frag} {w : Wd}
theorem nest_ints : ∀ {t : List Int} {us : List V} {its : List Value}, Reps K w H (t.map D.int) us → Vals us its → NestedAll h (t.map .num) its
  | [], us, its, r, v => by
    simp only [List.map_nil, Reps] at r
    subst r
    cases v
    exact .nil
  | x :: t, us, its, r, v => by
    simp only [List.map_cons, Reps] at r
    obtain ⟨v1, r1, rfl, e1, r2⟩ := r
    have := rep_int e1
    subst this
    cases v with
    | cons q v =>
      obtain ⟨tk, rfl⟩ := q
      exact .cons (.int _ _) (nest_ints r2 v)
theorem nest_tup (ok : HOk P W H h) {t : List Int} {v : V} {u : Value} (r : Rep K w H (.tup (t.map D.int)) v) (q : RelV v u) : NestedIs h (.tup (t.map .num)) u := by
  obtain ⟨c, us, rfl, f, r2⟩ := tup_rep r
  obtain rfl : u = Value.ref c := q
  obtain ⟨_, its, r3, o, h1, h2, n, h3⟩ := (show ObjOk P W H h c (.tup us) from ok c _ f)
  exact .tup h1 h2 h3 (by simpa using nest_ints r2 r3)
theorem nest_tups (ok : HOk P W H h) : ∀ {k : NK} {us : List V} {its : List Value}, Reps K w H (k.map fun t => D.tup (t.map D.int)) us → Vals us its → NestedAll h (k.map fun t => NestedKey.tup (t.map .num)) its
  | [], us, its, r, v => by
    simp only [List.map_nil, Reps] at r
    subst r
    cases v
    exact .nil
  | x :: t, us, its, r, v => by
    simp only [List.map_cons, Reps] at r
    obtain ⟨v1, r1, rfl, e1, r2⟩ := r
    cases v with
    | cons q v => exact .cons (nest_tup ok e1 q) (nest_tups ok r2 v)
/-- such a tuple is a key -/
theorem nk_is (ok : HOk P W H h) {k : NK} (r : Rep K w H (nkD k) (.ref p)) : (nkKind P W).is h k p := by
  unfold nkD at r
  obtain ⟨c, us, e, f, r2⟩ := tup_rep r
  obtain rfl : p = c := V.ref.inj e
  obtain ⟨_, its, r3, o, h1, h2, n, h3⟩ := (show ObjOk P W H h p (.tup us) from ok p _ f)
  exact ⟨.tup h1 h2 h3 (by simpa using nest_tups ok r2 r3), nkN_depth k⟩
theorem nd_addr {xs : List (NK × Addr × Value)} (x : ObjOk P W H h b (NdO a xs)) : a = b := by
  apply Classical.byContradiction
  intro hn
  obtain ⟨⟨hs, o, es, ep, ho, hx, hd, he⟩, _, st⟩ := x
  have := st h (h.update a fun _ => { cls := .none, data := .fields #[] }) ⟨hs, o, es, ep, ho, hx, hd, he⟩ fun o q => by
    rw [Heap.get?_update_other _ _ hn]; exact q
  obtain ⟨_, o', es', ep', ho', hx', _⟩ := this
  rw [Heap.get?_update_self _ ho rfl] at ho'
  cases ho'
  exact nomatch hx'.1
theorem rnv_keys : ∀ {kvs : List (NK × D)} {xs : List (NK × Addr × Value)}, RNv K w H kvs xs → xs.map (·.1) = kvs.map (·.1)
  | [], xs, r => by simp only [RNv] at r; subst r; rfl
  | (k, d) :: kvs, xs, r => by
    obtain ⟨p, u, v, r', rfl, _, _, _, r4⟩ := r
    simp [rnv_keys r4]
theorem rnv_is (ok : HOk P W H h) : ∀ {kvs : List (NK × D)} {xs : List (NK × Addr × Value)}, RNv K w H kvs xs → ∀ x ∈ xs, (nkKind P W).is h x.1 x.2.1
  | [], xs, r, x, hx => by simp only [RNv] at r; subst r; exact (List.not_mem_nil hx).elim
  | (k, d) :: kvs, xs, r, x, hx => by
    obtain ⟨p, u, v, r', rfl, r1, _, _, r4⟩ := r
    rcases List.mem_cons.mp hx with rfl | hx
    · exact nk_is ok r1
    · exact rnv_is ok r4 x hx
/-- what is read as such a dict: it, or the empty one -/
def NdAt (K : PySem.W.Frag) (w : Wd) (H : Hp) (a : Addr) (kvs : List (NK × D)) (xs : List (NK × Addr × Value)) : Prop :=
  ((∃ b, Rd H a (NdO b xs)) ∨ (xs = [] ∧ Rd H a (.dT []))) ∧ RNv K w H kvs xs ∧ (kvs.map (·.1)).Nodup
theorem NdAt.of {kvs : List (NK × D)} {xs : List (NK × Addr × Value)} (r : NdAt K w H a kvs xs) (ok : HOk P W H h) : (a == sysModules) = false ∧ h.DictOfH (nkKind P W) a xs := by
  obtain ⟨r1, r2, r3⟩ := r
  have nd : (xs.map (·.1)).Nodup := by rw [rnv_keys r2]; exact r3
  rcases r1 with ⟨b, rd⟩ | ⟨rfl, rd⟩
  · have x := rd.ok ok
    have := nd_addr x
    subst this
    obtain ⟨⟨hs, o, es, ep, ho, hx, hd, he⟩, _⟩ := x
    exact ⟨hs, o, es, ep, ho, hx, hd, he, rnv_is ok r2, nd⟩
  · obtain ⟨z, hsys, ks, pr, o, es, ep, ho, hx, hdt, he, hn⟩ := (show ObjOk P W H h a (.dT []) from rd.ok ok)
    cases pr
    exact ⟨hsys, o, es, ep, ho, hx, hdt, he, fun _ h => (List.not_mem_nil h).elim, List.nodup_nil⟩
end
/-- the store's object as such a dict -/
def obN : Ob → Option (List (NK × D))
  | .dN kvs => some kvs
  | .lck (.dN kvs) => some kvs
  | .dT [] => some []
  | .lck (.dT []) => some []
  | _ => none
section
variable {K : PySem.W.Frag} {mg : Str → Option Value} {w : Wd} {H : Hp} {S : Store}
def ndOf (S : Store) (d : D) : Option (List (NK × D)) := match d with
  | .loc l => match S[l]? with
    | some o => obN o
    | none => none
  | _ => none
end
section
variable {X : Cx} {W : XW}
end
end L3
namespace L3
open PySem PySem.Spec PyProof.Rows PySem.Calls L2
/-- it may be written -/
def NdW (K : PySem.W.Frag) (w : Wd) (H : Hp) (a : Addr) (kvs : List (NK × D)) (xs : List (NK × Addr × Value)) : Prop :=
  ((∃ b, H a = some (NdO b xs)) ∨ (xs = [] ∧ H a = some (.dT []))) ∧ RNv K w H kvs xs ∧ (kvs.map (·.1)).Nodup
theorem NdW.at {K : PySem.W.Frag} {w : Wd} {H : Hp} {a : Addr} {kvs : List (NK × D)} {xs : List (NK × Addr × Value)} (h : NdW K w H a kvs xs) : NdAt K w H a kvs xs :=
  ⟨h.1.imp (fun ⟨b, e⟩ => ⟨b, .inl e⟩) fun ⟨e, z⟩ => ⟨e, .inl z⟩, h.2⟩
theorem NdW.nz {K : PySem.W.Frag} {w : Wd} {H : Hp} {a : Addr} {kvs : List (NK × D)} {xs : List (NK × Addr × Value)} (h : NdW K w H a kvs xs) : ∀ od u, H a ≠ some (.frz od u) := by
  intro od u z
  rcases h.1 with ⟨b, e⟩ | ⟨_, e⟩
  · rw [e] at z; unfold NdO at z; cases z
  · rw [e] at z; cases z
section
variable {X : Cx} {W : XW}
end
section
variable {X : Cx} {W : XW}
end
end L3
namespace L3
open PySem PySem.Spec PyProof.Rows PySem.Calls L2
/-! ### sorted of a dict by its keys, a list of one thing, dict(pairs) with nested keys, its keys walked over -/
section
variable {X : Cx} {W : XW}
open Classical in
noncomputable def sortND (ds : List D) (S : Store) : Res D := match ds with
  | [d] => match ndOf S d with
    | some kvs => if Srt (kvs.map fun kv => nkD kv.1) ∧ kvs.length ≤ sizeLine then .ok (.lst ((kvs.map fun kv => nkD kv.1).mergeSort dLe)) S else .stuck
    | none => .stuck
  | _ => .stuck
def dtOf (S : Store) (d : D) : Option (List (List L2.Key × D)) := match d with
  | .loc l => match S[l]? with
    | some (.dT kvs) => some kvs
    | some (.lck (.dT kvs)) => some kvs
    | _ => none
  | _ => none
open Classical in
/-- sorted(d) of a dict with keys that are tuples of numbers and texts, of any lengths -/
noncomputable def sortTAD (ds : List D) (S : Store) : Res D := match ds with
  | [d] => match dtOf S d with
    | some kvs => if Srt (kvs.map fun kv => keysD kv.1) then .ok (.lst ((kvs.map fun kv => keysD kv.1).mergeSort dLe)) S else .stuck
    | none => .stuck
  | _ => .stuck
end
end L3
namespace L3
open PySem PySem.Spec PyProof.Rows PySem.Calls L2
/-! ### dict(pairs) with nested keys -/
structure EntN where
  p : Addr
  k : NK
  b : Addr
  v : V
section
variable {K : PySem.W.Frag} {w : Wd} {H : Hp}
end
section
variable {X : Cx} {pins : List (Addr × Obj)} {σ : L2.St} {H : Hp} {s : Shared} {w : Wd}
end
section
variable {X : Cx} {W : XW}
end
end L3
namespace L3
open PySem PySem.Spec PyProof.Rows PySem.Calls L2 PySem.W PySem.SeqAt
/-! ### sorted of tuples, empty ones among them -/
section
variable {prog : Program} {w : World} {A : Around} {E : Value → Shared → Prop} {s : Shared}
end
section
variable {M : Model} {A : Around} {E : Value → Shared → Prop} {s : Shared}
end
def Tups (ds : List PyData) : Prop := ∀ d, d ∈ ds → ∃ xs, d = .tuple xs
section
variable {prog : Program} {w : World} {A : Around} {s : Shared}
end
section
variable {prog : Program} {w : World} {A : Around} {E : Value → Shared → Prop} {s : Shared} {β : Type} {vs : List Value} {bs : List β} {enc : β → PyData} {R : Value → β → Prop}
end
/-! as called -/
/-- tuples that can be put in order -/
def SrtG (es : List D) : Prop := (∃ ps, toPys es = some ps) ∧ AllAlike (es.map encD) ∧ Tups (es.map encD) ∧ ∀ d ∈ es, (encD d).depth ≤ 60
open Classical in
/-- sorted of a list or a tuple of tuples of any lengths -/
noncomputable def sortGD (ds : List D) (S : Store) : Res D := match ds with
  | [d] => match rdL S d with
    | some es => if SrtG es ∧ es.length ≤ sizeLine then .ok (.lst (es.mergeSort dLe)) S else .stuck
    | none => match rdT d with
      | some es => if SrtG es ∧ es.length ≤ sizeLine then .ok (.lst (es.mergeSort dLe)) S else .stuck
      | none => .stuck
  | _ => .stuck
end L3
set_option maxHeartbeats 4000000
namespace L3
open PySem PySem.Spec PyProof.Rows L2
/-! ### an exception that is kept behind its handler -/
section
variable {X : Cx} {x n : Str} {c : Value} {i : Nat} {body suite : List Stmt} {b₀ : Stmt} {np pos pos' : Pos} {tb : WX → TS} {ts : Addr → Value → Option Addr → TS} {Wout : WX} {pins : List (Addr × Obj)} {σ : L2.St} {H : Hp} {s : Shared}
end
end L3
set_option maxHeartbeats 4000000
namespace L3
open PySem PySem.Spec PyProof.Rows L2
/-! ### try: .. except X as e: y = e; isinstance of what is kept -/
section
variable {X : Cx} {W : XW} {x n : Str} {pos : Pos} {K : PySem.W.Frag} {mg : Str → Option Value} {w : Wd} {H : Hp} {S : Store}
theorem RSt.keep {σ1 : DSt} {σ3 : L2.St} {i j : Nat} {d x y : L3.D} {v : V} (R : RSt K w H ((σ1.set i (some x)).set j (some y)) σ3) (hj : σ3[j]? = some (some v)) (r : Rep K w H d v) (hij : i ≠ j) (hl : j < σ1.length) : RSt K w H ((σ1.set j (some d)).set i none) (σ3.set i none) := by
  refine ⟨by simpa using R.1, fun k e hk => ?_⟩
  by_cases h1 : i = k
  · subst h1
    by_cases hi : i < σ1.length
    · rw [List.getElem?_set_self (by simpa using hi)] at hk
      cases hk
    · rw [List.getElem?_eq_none (by simpa using hi)] at hk
      cases hk
  · rw [List.getElem?_set_ne h1] at hk ⊢
    by_cases h2 : j = k
    · subst h2
      rw [List.getElem?_set_self hl] at hk
      cases hk
      exact ⟨v, hj, r⟩
    · rw [List.getElem?_set_ne h2] at hk
      exact R.2 k e (by rw [List.getElem?_set_ne h2, List.getElem?_set_ne h1]; exact hk)
end
end L3
set_option maxHeartbeats 4000000
namespace PySem
section
variable {prog : Program} {w : World} {K : Type} [DecidableEq K] {knd : HeapKind prog w K} {A : Around} {E : Value → Shared → Prop} {s : Shared}
end
end PySem
namespace L3
open PySem PySem.Spec L2 PyProof.Rows
/-! ### d.update(e), dict(d): keys that are places -/
def placeK : List Key → Bool
  | [.inl x, .inl y] => decide (0 ≤ x ∧ x < 12 ∧ 0 ≤ y ∧ y < 12)
  | _ => false
section
variable {X : Cx} {W : XW}
end
end L3
set_option maxHeartbeats 4000000
namespace L3
open PySem PySem.Spec L2 PyProof.Rows
/-! ### d.update(e), dict(d), dict(t) as readings -/
section
variable {X : Cx} {W : XW}
theorem RKv.keys {κ : Type} {K : PySem.W.Frag} {w : Wd} {H : Hp} : ∀ {ds : List (κ × D)} {vs : List (κ × V)}, RKv K w H ds vs → ds.map (·.1) = vs.map (·.1)
  | [], _, h => by simp only [RKv] at h; subst h; rfl
  | (k, d) :: ds, _, h => by
    simp only [RKv] at h
    obtain ⟨v, r, rfl, r1, r2⟩ := h
    simp [RKv.keys r2]
theorem RKv.place {K : PySem.W.Frag} {w : Wd} {H : Hp} {ds : List (List Key × D)} {vs : List (List Key × V)} (h : RKv K w H ds vs) (hp : ds.all (fun p => placeK p.1) = true) : ∀ p ∈ vs, placeK p.1 = true := fun p hp' => by
  have h1 : p.1 ∈ ds.map (·.1) := by rw [RKv.keys h]; exact List.mem_map_of_mem hp'
  obtain ⟨q, hq, e⟩ := List.mem_map.mp h1
  rw [← e]
  exact List.all_eq_true.mp hp q hq
end
end L3
namespace L3
open PySem PySem.Spec L2 PyProof.Rows
/-! ### xs.index(x), xs of plain data -/
section
variable {X : Cx} {W : XW}
end
end L3
set_option maxHeartbeats 4000000
namespace L3
open PySem PySem.Spec PyProof.Rows L2
/-! ### the field of an exception that is kept -/
section
variable {X : Cx} {W : XW} {K : PySem.W.Frag} {mg : Str → Option Value} {w : Wd} {H : Hp} {S : Store} {pos : Pos}
end
end L3
namespace L3
open PySem PySem.Spec L2
section
variable {X : Cx} {W : XW}
end
end L3
namespace L3
open PySem PySem.Spec L2 PyProof.Rows
/-! ### calls of defs that show something, where nothing is being shown -/
theorem FnG.imp {P : Program} {w : World} {K : PySem.W.Frag} {mg : Str → Option Value} {base : Heap} {k : Nat} {f : Addr} {fd : FuncData} {ps : List Str} {sp sp' : Sp} (F : FnG P w K mg base k f fd ps sp) (h : ∀ vs H Q E, sp' vs H Q E → sp vs H Q E) : FnG P w K mg base k f fd ps sp' :=
  ⟨fun us H Q E q => F.len us H Q E (h _ _ _ _ q), fun A fr s H args us vs Q E g hr he hb hv hs => F.run A fr s H args us vs Q E g hr he hb hv (h _ _ _ _ hs)⟩
section
variable {X : Cx} {W : XW} {k : Nat} {f : Addr} {fd : FuncData} {ps : List Str} {x : Str} {p pos : Pos} {e : Expr} {es : List Expr} {den : List D → Store → Res D} {n : Nat} {sp : Sp} {E : XK} {t : TA}
end
end L3
namespace L3
open PySem PySem.Spec PyProof.Rows L2
section
variable {X : Cx} {W : XW} {o e : Expr} {es : List Expr} {name : Str} {apos cpos : Pos}
end
end L3
namespace L3
open PySem PySem.Spec PyProof.Rows L2
end L3
namespace L3
open PySem PySem.Spec L2
/-- the first of the clauses that takes the class -/
inductive Rch (K : PySem.W.Frag) (cls : Value) : List (Value × (DSt → Store → Res Fl)) → (DSt → Store → Res Fl) → Prop
  | here {c : Value} {m : DSt → Store → Res Fl} {r : List (Value × (DSt → Store → Res Fl))} (h : PySem.W.exmOne K cls c = some true) : Rch K cls ((c, m) :: r) m
  | there {c : Value} {m m' : DSt → Store → Res Fl} {r : List (Value × (DSt → Store → Res Fl))} (h : PySem.W.exmOne K cls c = some false) (h' : Rch K cls r m) : Rch K cls ((c, m') :: r) m
inductive HdM (X : Cx) : List ExceptHandler → List (Value × (DSt → Store → Res Fl)) → Prop
  | nil : HdM X [] []
  | cons {x : Str} {c : Value} {m : DSt → Store → Res Fl} {b₀ : Stmt} {suite : List Stmt} {np pos' : Pos} {hds : List ExceptHandler} {l : List (Value × (DSt → Store → Res Fl))} (hc : Names X x c)
      (hsu : ∀ (a : Addr) (oe : Obj) (cls : Value) (d : Option Addr) (pn : List (Addr × Obj)), Zc cls d oe → (∃ vs, oe.data = .fields vs) → PMSs (X.suite a ((a, oe) :: pn)) W0 (b₀ :: suite) m) (r : HdM X hds l) :
      HdM X (.ExceptHandler (some (.Name x np)) none (b₀ :: suite) pos' :: hds) ((c, m) :: l)
abbrev hdT (K : PySem.W.Frag) (mg : Str → Option Value) (l : List (Value × (DSt → Store → Res Fl))) : List (Value × (Addr → Value → Option Addr → TS)) := l.map fun q => (q.1, fun _ _ _ => tOfS K mg W0 q.2)
theorem HdM.ok {X : Cx} {hds : List ExceptHandler} {l : List (Value × (DSt → Store → Res Fl))} (h : HdM X hds l) : HdsOk X hds (hdT X.K X.mg l) := by
  induction h with
  | nil => exact .nil
  | cons hc hsu r ih => exact .cons hc hsu ih
section
variable {X : Cx} {W : XW} {pos : Pos} {body : List Stmt} {h₀ : ExceptHandler} {hds : List ExceptHandler} {l : List (Str × (DSt → Store → Res Fl))} {lh : List (Value × (DSt → Store → Res Fl))} {mb : DSt → Store → Res Fl}
end
end L3
namespace L3
open PySem PySem.Spec PyProof.Rows L2
/-! ### == of two dicts with the same places and numbers -/
section
variable {prog : Program} {w : World} {K : Type} [DecidableEq K] {knd : HeapKind prog w K} {A : Around} {E : Value → Shared → Prop} {s : Shared}
end
section
variable {X : Cx} {W : XW}
def isIntD : D → Bool
  | .int _ => true
  | _ => false
open Classical in
/-- d == e of two dicts with the same places and numbers -/
noncomputable def eqTTD (d e : D) (S : Store) : Res D := match d, e with
  | .loc l, .loc m => match S[l]?, S[m]? with
    | some (.dT kvs), some (.dT us) => if kvs = us ∧ (kvs.all fun kv => isIntD kv.2) = true then .ok (.bl true) S else .stuck
    | _, _ => .stuck
  | _, _ => .stuck
end
theorem u2 {k : Nat} {A : Around} (r : Room k A) : A.units + 2 < cLine := by have := r.un; omega
end L3
namespace L3
open PySem PySem.Spec PyProof.Rows L2
section
variable {X : Cx} {W : XW} {pos : Pos}
end
end L3
namespace L3
open PySem PySem.Spec PyProof.Rows L2
def IsDct (h : Heap) (a : Addr) : Prop := ∃ o es ep, h.get? a = some o ∧ o.cls = .type "dict" ∧ o.data = .dict es ep
section
variable {X : Cx} {W : XW}
/-- a dict of the heap -/
def HDct (H : Hp) (a : Addr) : Prop := (∃ kvs, H a = some (.dK kvs)) ∨ (∃ kvs, H a = some (.dT kvs)) ∨ ∃ b xs, H a = some (NdO b xs)
theorem HDct.is {P : Program} {W : World} {H : Hp} {h : Heap} {a : Addr} (ok : HOk P W H h) (e : HDct H a) : IsDct h a := by
  rcases e with ⟨kvs, e⟩ | ⟨kvs, e⟩ | ⟨b, xs, e⟩
  · obtain ⟨_, _, vs, _, q, es, ep, hq, h2, h3, _⟩ := dk_of ok e
    exact ⟨q, es, ep, hq, h2.1, h3⟩
  · obtain ⟨_, _, vs, _, q, es, ep, hq, h2, h3, _⟩ := dt_of ok e
    exact ⟨q, es, ep, hq, h2.1, h3⟩
  · have x := ok a _ e
    have hb := nd_addr x
    subst hb
    obtain ⟨⟨_, o, es, ep, ho, hx, hd, _⟩, _⟩ := x
    exact ⟨o, es, ep, ho, hx.1, hd⟩
end
end L3
namespace L3
open PySem PySem.Spec PyProof.Rows L2
section
variable {X : Cx} {W : XW} {T : String} {e : Expr} {p pos : Pos}
end
end L3
set_option maxHeartbeats 4000000
namespace L3
open PySem PySem.Spec PyProof.Rows L2
/-! ### exceptions made as values: X(), X(n) -/
section
variable {X : Cx} {W : XW} {x f n : Str} {e : Expr} {p pos : Pos} {C fI : Addr} {k : Nat} {fd : FuncData}
end
end L3
set_option maxHeartbeats 4000000
namespace L3
open PySem PySem.Spec PyProof.Rows L2
/-! ### sets of tuples of texts -/
abbrev IsW (P : Program) (w : World) (h : Heap) (k : List Str) (b : Addr) : Prop := IsTupleKey (strKind P w) h k b
abbrev whash (P : Program) (w : World) (k : List Str) : Int := tupleKeyHash (strKind P w) k
section
variable {P : Program} {w : World} {A : Around} {E : Value → Shared → Prop} {s : Shared}
theorem strs_of : ∀ {k : List Str} {us : List Value}, ItemsAre (strKind P w) k us → ∀ u ∈ us, ∃ (x : Str) (t : Tok), u = Value.str x t
  | _, _, .nil => fun u hu => (List.not_mem_nil hu).elim
  | _, _, .cons hx r => fun u hu => by
    rcases List.mem_cons.mp hu with rfl | hu
    · obtain ⟨t, e⟩ := Value.isStrOf_shape hx
      exact ⟨_, t, e⟩
    · exact strs_of r u hu
/-- a walk over such items, of which each goes on -/
theorem go_items {γ : Type} {items : Array Value} {g : Value → γ → Sem (ForInStep γ)} {b0 : γ} {Q : γ → Shared → Prop} (hv : ∀ u ∈ items.toList, ∃ (x : Str) (t : Tok), u = Value.str x t)
    (turn : ∀ (x : Str) (t : Tok) (R : ForInStep γ → Shared → Prop), R (.yield b0) s → wpAny (model P w) A (g (.str x t) b0) R E s) (fin : Q b0 s) : wpAny (model P w) A (forIn items b0 g) Q E s := by
  rw [← Array.forIn_toList]
  generalize items.toList = l at hv
  refine wpAny_forIn_list g (fun rest r s1 => r = b0 ∧ s1 = s ∧ ∀ u ∈ rest, ∃ (x : Str) (t : Tok), u = Value.str x t) Q (fun u rest r s1 hh => ?_) (fun r s1 hh => ?_) l b0 ⟨rfl, rfl, hv⟩
  · obtain ⟨rfl, rfl, h3⟩ := hh
    obtain ⟨x, t, rfl⟩ := h3 u List.mem_cons_self
    exact turn x t _ ⟨rfl, rfl, fun v hv => h3 v (List.mem_cons_of_mem _ hv)⟩
  · obtain ⟨rfl, rfl, _⟩ := hh
    exact fin
theorem noStatement {k : List Str} {b : Addr} {Q : Bool → Shared → Prop} (hk : IsW P w s.heap k b) (h : Q false s) : wpAny (model P w) A (ofAClassStatement 8 (.ref b)) Q E s := by
  have ty := hk.typeIs
  obtain ⟨o, items, m, ho, _, hd, hi⟩ := hk
  have e : (("tuple" : String) == "tuple") = true := by decide
  unfold ofAClassStatement
  refine wpAny_bind (wpAny_typeOf ty ?_)
  simp only [e, if_true, Bool.not_true, Bool.false_eq_true, if_false]
  refine wpAny_bind (wpAny_pure ?_)
  simp only [Bool.not_true, Bool.false_eq_true, if_false]
  refine wpAny_bind (wpAny_seqItems ho hd (wpAny_bind (go_items (strs_of hi) (fun x t R hR => ?_) (wpAny_pure h))))
  have e7 : ofAClassStatement 7 (.str x t) = pure false := rfl
  rw [e7]
  exact wpAny_bind (wpAny_pure (wpAny_pure hR))
theorem byHash {k : List Str} {b : Addr} {Q : Bool → Shared → Prop} (hk : IsW P w s.heap k b) (h : ∀ z, Q z s) : wpAny (model P w) A (hashByValue 8 (.ref b)) Q E s := by
  have ty := hk.typeIs
  obtain ⟨o, items, m, ho, _, hd, hi⟩ := hk
  unfold hashByValue
  refine wpAny_bind (wpAny_specialOf ty F.slot_tuple_hash.lookup ?_)
  show wpAny _ _ (seqItems? (.ref b) >>= _) _ _ s
  refine wpAny_bind (wpAny_seqItems ho hd (wpAny_bind ?_))
  show wpAny _ _ (forIn items _ _) _ _ s
  rw [← Array.forIn_toList]
  have hv := strs_of hi
  generalize items.toList = l at hv
  refine wpAny_forIn_list _ (fun rest r s1 => r.1 = none ∧ s1 = s ∧ ∀ u ∈ rest, ∃ (x : Str) (t : Tok), u = Value.str x t) _ (fun u rest r s1 hh => ?_) (fun r s1 hh => ?_) l _ ⟨rfl, rfl, hv⟩
  · obtain ⟨h1, rfl, h3⟩ := hh
    obtain ⟨x, t, rfl⟩ := h3 u List.mem_cons_self
    have e7 : hashByValue 7 (.str x t) = pure false := rfl
    rw [e7]
    refine wpAny_bind (wpAny_pure ?_)
    simp only [Bool.not_false, if_true]
    exact wpAny_pure (wpAny_pure (h _))
  · obtain ⟨r1, r2⟩ := r
    obtain ⟨h1, rfl, _⟩ := hh
    simp only at h1
    subst h1
    exact wpAny_pure (h _)
theorem unseen {k : List Str} {b : Addr} {Q : Bool → Shared → Prop} (hk : IsW P w s.heap k b) {ys : List Value} (hy : ∀ y ∈ ys, ∃ k' c, y = Value.ref c ∧ IsW P w s.heap k' c) (h : Q false s) : wpAny (model P w) A (searchCouldBeSeen (.ref b) ys) Q E s := by
  unfold searchCouldBeSeen
  refine wpAny_bind (wpAny_forIn_list _ (fun rest r s1 => r.1 = none ∧ s1 = s ∧ ∀ y ∈ rest, ∃ k' c, y = Value.ref c ∧ IsW P w s.heap k' c) _ (fun u rest r s1 hh => ?_) (fun r s1 hh => ?_) ys _ ⟨rfl, rfl, hy⟩)
  · obtain ⟨h1, rfl, h3⟩ := hh
    obtain ⟨k', c, rfl, hc⟩ := h3 u List.mem_cons_self
    have more : ∀ y ∈ rest, ∃ k' c, y = Value.ref c ∧ IsW P w s1.heap k' c := fun y hy => h3 y (List.mem_cons_of_mem _ hy)
    dsimp only
    split
    · exact wpAny_pure ⟨rfl, rfl, more⟩
    · refine wpAny_bind (wpAny_eqIsQuiet_tuple hk ?_)
      simp only [Bool.not_true, Bool.false_eq_true, if_false]
      refine wpAny_bind (wpAny_eqIsQuiet_tuple hc ?_)
      simp only [Bool.not_true, Bool.false_eq_true, if_false]
      refine wpAny_bind (noStatement hk ?_)
      simp only [Bool.false_eq_true, if_false]
      refine wpAny_bind (noStatement hc ?_)
      simp only [Bool.false_eq_true, if_false]
      exact wpAny_pure ⟨rfl, rfl, more⟩
  · obtain ⟨r1, r2⟩ := r
    obtain ⟨h1, rfl, _⟩ := hh
    simp only at h1
    subst h1
    exact wpAny_pure h
/-- the set at a holds these tuples of texts -/
def wRows (P : Program) (w : World) (L : List (Addr × List Str)) : List (Int × Value) := L.map fun p => (whash P w p.2, Value.ref p.1)
structure SetW (P : Program) (w : World) (h : Heap) (a : Addr) (L : List (Addr × List Str)) (es : Array (Int × Value)) (ep : Nat) (t : SetTable) : Prop where
  obj : ∃ o, h.get? a = some o ∧ o.ExactSet ∧ o.data = .set es ep t
  ent : es.toList = wRows P w L
  tab : TabOk t (L.map fun p => whash P w p.2)
  nd : (L.map (·.2)).Nodup
  tup : ∀ p ∈ L, IsW P w h p.2 p.1
  room : L.length * 5 < t.mask * 3
  few : L.length < 64
variable {a : Addr} {L : List (Addr × List Str)} {es : Array (Int × Value)} {ep : Nat} {t : SetTable}
theorem wRows_len (h : es.toList = wRows P w L) : es.size = L.length := by
  rw [← Array.length_toList, h, wRows, List.length_map]
theorem wRows_get (h : es.toList = wRows P w L) {i : Nat} {p : Addr × List Str} (hp : L[i]? = some p) : es[i]? = some (whash P w p.2, Value.ref p.1) := by
  rw [← Array.getElem?_toList, h, wRows, List.getElem?_map, hp]
  rfl
theorem SetW.fit (R : SetW P w s.heap a L es ep t) : t.fits es.size = true := by
  have z := R.tab.sz
  rw [List.length_map] at z
  have z2 := wRows_len R.ent
  have z3 := R.room
  unfold SetTable.fits SetTable.fill
  rw [R.tab.dm, Bool.and_eq_true, beq_iff_eq, decide_eq_true_eq]
  show t.place.size = es.size ∧ t.place.size + 0 ≤ t.mask
  omega
theorem SetW.stays (R : SetW P w s.heap a L es ep t) : ¬ t.gaveWay = true := by
  unfold SetTable.gaveWay
  rw [mask_odd R.tab.mok]
  decide
theorem nth_dm (m : Nat) : ∀ (n : Nat) (p : SetTable.Probe), p.dummy = none → (nth m p n).dummy = none
  | 0, _, h => h
  | n + 1, p, h => nth_dm m n (adv m p) (by unfold adv; split <;> exact h)
abbrev wst (t : SetTable) (H : Int) : SetTable.Probe := runAt t.mask (SetTable.bits H % (t.mask + 1)) (SetTable.bits H)
/-- the search, from the c-th step of the way on -/
theorem look_on (R : SetW P w s.heap a L es ep t) {x : Addr} {k : List Str} (hx : IsW P w s.heap k x) (hu : A.units < cLine) {K : Nat} (k1 : K < 10 * SetTable.turns t.mask) (k2 : way t.mask (whash P w k) K ∉ t.place.toList)
    (k3 : ∀ c, c < K → way t.mask (whash P w k) c ∈ t.place.toList) {Q : SetFound → Shared → Prop} (yes : k ∈ L.map (·.2) → Q (.there none) s) (no : k ∉ L.map (·.2) → Q (.free (way t.mask (whash P w k) K) false) s) (n : Nat) :
    ∀ (c : Nat) (at_ : Option SetTable.Probe), K - c < n → c ≤ K → at_.getD (t.probeStart (whash P w k)) = nth t.mask (wst t (whash P w k)) c →
      (∀ (i : Nat) p, L[i]? = some p → p.2 = k → ∃ d, c ≤ d ∧ d < K ∧ t.place.toList[i]? = some (way t.mask (whash P w k) d)) → wpAny (model P w) A (setSearchFrom a (.ref x) (whash P w k) true n at_) Q E s := by
  have eh : ∀ (i : Nat) p, L[i]? = some p → (es[i]?.map (·.1)).getD 0 = whash P w p.2 := fun i p hp => by rw [wRows_get R.ent hp]; rfl
  obtain ⟨o, ho, hex, hd⟩ := R.obj
  induction n with
  | zero => exact fun c at_ h => absurd h (Nat.not_lt_zero _)
  | succ n ih =>
    intro c at_ hn hc hat own
    rw [setSearchFrom_succ]
    refine wpAny_bind (wpAny_setState_of ho hd R.fit (wp_if_neg R.stays ?_))
    generalize hH : whash P w k = H at *
    have js : ∀ q, (nth t.mask (nth t.mask (wst t H) c) q).j = way t.mask H (c + q) := fun q => by rw [← nth_add]
    have found := go_spec t R.tab.ris R.tab.dm (fun i => (es[i]?.map (·.1)).getD 0) H (10 * SetTable.turns t.mask) (K - c) (nth t.mask (wst t H) c) (nth_dm _ _ _ rfl) (by omega) (fun q hq => by
      rw [js]
      exact k3 _ (by omega)) (by
      rw [js, show c + (K - c) = K by omega]
      exact k2)
    have pe : t.probe (fun i => (es[i]?.map (·.1)).getD 0) H (at_.getD (t.probeStart H)) = SetTable.probe.go t (fun i => (es[i]?.map (·.1)).getD 0) H (10 * SetTable.turns t.mask) (nth t.mask (wst t H) c) := by
      rw [hat]
      rfl
    rw [pe]
    rcases found with ⟨q, i, q1, q2, q3, q4, q5⟩ | ⟨q4, q5⟩
    · rw [q5]
      dsimp only
      rw [js] at q2
      simp only [js]
      have il : i < L.length := by
        have z1 := (List.getElem?_eq_some_iff.mp q2).1
        have z2 := R.tab.sz
        rw [List.length_map] at z2
        rw [Array.length_toList] at z1
        omega
      obtain ⟨p, hp⟩ : ∃ p, L[i]? = some p := ⟨_, List.getElem?_eq_getElem il⟩
      have pm : p ∈ L := List.mem_of_getElem? hp
      have live : t.slot (way t.mask H (c + q)) = .live i := slot_live R.tab.ris q2
      have deep : wpAny (model P w) A (searchRest a (.ref x) H true n es t (way t.mask H (c + q)) i (nth t.mask (nth t.mask (wst t H) c) (q + 1))) Q E s := by
        unfold searchRest
        rw [wRows_get R.ent hp]
        refine wpAny_bind (wpAny_holding (wpAny_eqBool_tuple hu (R.tup p pm) hx (wpAny_bind (wpAny_setState_of ho hd R.fit ?_))))
        dsimp only
        by_cases ek : p.2 = k
        · exact wp_if_pos (by simp [ek]) (wpAny_pure (yes (List.mem_map.mpr ⟨p, pm, ek⟩)))
        · refine wp_if_neg (by simp [ek]) ?_
          try refine wpAny_bind (wpAny_pure ?_)
          rw [sameMem]
          simp only [if_true, live, wRows_get R.ent hp]
          refine wpAny_bind (wpAny_isSame_ref_self (wpAny_bind (wpAny_pure ?_)))
          simp only [if_true]
          refine wp_if_neg (by simp [ek]) (ih (c + (q + 1)) _ (by omega) (by omega) (nth_add t.mask c _ (q + 1)).symm fun i0 p0 g1 g2 => ?_)
          obtain ⟨d, d1, d2, d3⟩ := own i0 p0 g1 g2
          refine ⟨d, ?_, d2, d3⟩
          apply Classical.byContradiction
          intro hlt
          by_cases hd' : d = c + q
          · subst hd'
            have live0 := slot_live R.tab.ris d3
            rw [live] at live0
            injection live0 with e0
            subst e0
            rw [hp] at g1
            cases g1
            exact ek g2
          · refine q4 (d - c) i0 (by omega) (by rw [js, show c + (d - c) = d by omega]; exact d3) ?_
            rw [← hH, ← g2]
            exact eh i0 p0 g1
      by_cases hl : t.led = true
      · exact wp_if_neg (by simp [hl]) deep
      · refine wp_if_pos (by simp [hl]) (wpAny_bind (unseen hx (fun y hy => ?_) (wp_if_neg (by decide) deep)))
        obtain ⟨e, he, rfl⟩ := List.mem_map.mp hy
        have he1 : e ∈ es ∧ e.1 = H := by simpa using he
        have he2 : e ∈ es.toList := by simpa using he1.1
        rw [R.ent] at he2
        obtain ⟨p2, hp2, rfl⟩ := List.mem_map.mp he2
        exact ⟨p2.2, p2.1, rfl, R.tup p2 hp2⟩
    · rw [q5]
      dsimp only
      rw [js, show c + (K - c) = K by omega]
      refine wpAny_pure (no fun hm => ?_)
      obtain ⟨p0, m0, g2⟩ := List.mem_map.mp hm
      obtain ⟨i0, hi0, e0⟩ := List.getElem_of_mem m0
      have g1 : L[i0]? = some p0 := by rw [List.getElem?_eq_getElem hi0, e0]
      obtain ⟨d, d1, d2, d3⟩ := own i0 p0 g1 g2
      refine q4 (d - c) i0 (by omega) (by rw [js, show c + (d - c) = d by omega]; exact d3) ?_
      rw [← hH, ← g2]
      exact eh i0 p0 g1
theorem look_in (R : SetW P w s.heap a L es ep t) {x : Addr} {k : List Str} (hx : IsW P w s.heap k x) (hu : A.units < cLine) {Q : SetFound → Shared → Prop} (yes : k ∈ L.map (·.2) → Q (.there none) s)
    (no : ∀ K, k ∉ L.map (·.2) → way t.mask (whash P w k) K ∉ t.place.toList → (∀ c, c < K → way t.mask (whash P w k) c ∈ t.place.toList) → Q (.free (way t.mask (whash P w k) K) false) s) :
    wpAny (model P w) A (setSearch a (.ref x) (whash P w k) true) Q E s := by
  have z := R.room
  obtain ⟨K, k1, k2, k3⟩ := R.tab.first (by rw [List.length_map]; omega) (whash P w k)
  have kb : K < 100000 := by
    have : SetTable.turns t.mask ≤ 142 := by
      unfold SetTable.turns
      rcases R.tab.mok with e | e | e <;> omega
    omega
  unfold setSearch
  refine look_on R hx hu k1 k2 k3 yes (fun h => no K h k2 k3) 100000 0 none (by omega) (Nat.zero_le _) rfl fun i p hp hk => ?_
  have il : i < t.place.toList.length := by
    have z1 := (List.getElem?_eq_some_iff.mp hp).1
    have z2 := R.tab.sz
    rw [List.length_map] at z2
    rw [Array.length_toList]
    omega
  have hj := List.getElem?_eq_getElem il
  obtain ⟨d, d1, d2⟩ := R.tab.before k2 (show (L.map fun p => whash P w p.2)[i]? = some (whash P w k) by rw [List.getElem?_map, hp, ← hk]; rfl) hj
  exact ⟨d, Nat.zero_le _, d1, by rw [hj, d2]⟩
/-- what is no set stays where the set is written -/
theorem isW_but {h h' : Heap} {k : List Str} {a b : Addr} {o : Obj} {es : Array (Int × Value)} {ep : Nat} {t : SetTable} (hk : IsW P w h k b) (ho : h.get? a = some o) (hd : o.data = .set es ep t) (sb : Heap.SameBut a h h') : IsW P w h' k b := by
  obtain ⟨o', its, m, e1, e2, e3, e4⟩ := hk
  refine ⟨o', its, m, (sb.2 b fun z => ?_).trans e1, e2, e3, e4⟩
  subst z
  rw [ho] at e1
  cases e1
  rw [hd] at e3
  cases e3
theorem isW_keep {h h' : Heap} {k : List Str} {b : Addr} (hk : IsW P w h k b) (kp : ∀ c o, h.get? c = some o → h'.get? c = some o) : IsW P w h' k b := by
  obtain ⟨o', its, m, e1, r⟩ := hk
  exact ⟨o', its, m, kp b o' e1, r⟩
/-- the entries in another order -/
theorem wOrder {order : Array Nat} (he : es.toList = wRows P w L) (hp : order.toList.Perm (List.range L.length)) :
    ∃ M, (order.filterMap (es[·]?)).toList = wRows P w M ∧ M.Perm L ∧ (M.map fun p => whash P w p.2) = order.toList.map fun i => (es.map (·.1)).getD i 0 := by
  refine ⟨order.toList.filterMap (L[·]?), ?_, ?_, ?_⟩
  · rw [Array.toList_filterMap, wRows, List.map_filterMap]
    congr 1
    funext i
    rw [← Array.getElem?_toList, he, wRows, List.getElem?_map]
  · have h1 : (List.range L.length).filterMap (L[·]?) = L := by
      apply List.ext_getElem?
      intro i
      have : ∀ (l : List (Addr × List Str)), (List.range l.length).filterMap (l[·]?) = l := fun l => by
        induction l with
        | nil => rfl
        | cons x l ih =>
          rw [List.length_cons, List.range_succ_eq_map, List.filterMap_cons_some (f := fun j => (x :: l)[j]?) (b := x) rfl, List.filterMap_map]
          have e : ((fun j => (x :: l)[j]?) ∘ Nat.succ) = fun j => l[j]? := by funext j; simp
          rw [e, ih]
      rw [this]
    have h2 := hp.filterMap (L[·]?)
    rw [h1] at h2
    exact h2
  · have hb : ∀ i ∈ order.toList, i < L.length := fun i hi => List.mem_range.mp (hp.mem_iff.mp hi)
    generalize order.toList = l at hb
    induction l with
    | nil => rfl
    | cons i l ih =>
      have hi := hb i List.mem_cons_self
      rw [List.filterMap_cons_some (List.getElem?_eq_getElem hi), List.map_cons, List.map_cons, ih fun j hj => hb j (List.mem_cons_of_mem _ hj)]
      congr 1
      have e := wRows_get he (List.getElem?_eq_getElem hi)
      simp [Array.getD_eq_getD_getElem?, e]
/-- the table laid anew -/
theorem relay_w {o : Obj} (ho : s.heap.get? a = some o) (hex : o.ExactSet) (hd : o.data = .set es ep t) (he : es.toList = wRows P w L) (hz : t.place.size = es.size) (hdm : t.dummies = #[]) (hm : es.size ≤ t.mask)
    (nd : (L.map (·.2)).Nodup) (tup : ∀ p ∈ L, IsW P w s.heap p.2 p.1) (few : L.length < 64) {n M : Nat} (hM : SetTable.sizeAbove n - 1 = M) (mok : MaskOk M) (hb : SetTable.sizeAbove n ≤ 128) (hr : L.length * 5 < M * 3) {Q : Unit → Shared → Prop}
    (hQ : ∀ h' L' es' ep' t', Heap.SameBut a s.heap h' → SetW P w h' a L' es' ep' t' → L'.Perm L → Q () { s with heap := h' }) : wpAny (model P w) A (setRelay a n) Q E s := by
  have el := wRows_len he
  have hf : t.fits es.size = true := by
    unfold SetTable.fits SetTable.fill
    rw [hdm, Bool.and_eq_true, beq_iff_eq, decide_eq_true_eq]
    show t.place.size = es.size ∧ t.place.size + 0 ≤ t.mask
    omega
  obtain ⟨t', order, e, perm, tab, em, _, _, _⟩ := relaid_ok t (hs := es.map (·.1)) (wanted := n) hM mok (by rw [Array.size_map]; omega)
  rw [Array.size_map, el] at perm
  obtain ⟨N, n1, n2, n3⟩ := wOrder he perm
  rw [← n3] at tab
  have nz : (order.filterMap (es[·]?)).size = es.size := by rw [wRows_len n1, n2.length_eq, el]
  rw [setRelay_eq]
  refine wpAny_bind (wpAny_setState_of ho hd hf ?_)
  dsimp only
  refine wp_if_neg (by rw [sizeLine_eq]; omega) ?_
  try refine wpAny_bind (wpAny_pure ?_)
  rw [e]
  dsimp only
  refine wpAny_bind (wp_if_neg (by rw [nz]; simp) ?_)
  try refine wpAny_bind (wpAny_pure ?_)
  refine wpAny_pure (wpAny_storeSet_of ho hd ?_ (by rw [nz, el, sizeLine_eq]; omega))
  have sb : Heap.SameBut a s.heap (s.heap.update a (Obj.putSet (order.filterMap (es[·]?)) t')) := Heap.SameBut.update ..
  exact hQ _ N (order.filterMap (es[·]?)) (ep + 1) t' sb ⟨⟨_, store_at ho hd, ⟨hex.1, hex.2.1, hex.2.2⟩, rfl⟩, n1, tab, (n2.map (·.2)).nodup_iff.mpr nd, fun p hp => isW_but (tup p (n2.mem_iff.mp hp)) ho hd sb, by rw [n2.length_eq, em]; exact hr, by rw [n2.length_eq]; exact few⟩ n2
theorem tab_plain {hs : List Int} (T : TabOk t hs) (b : Bool) : TabOk (if b = true then t else { t with plain := false }) hs := by
  cases b with
  | true => exact T
  | false => exact ⟨T.ris, T.dm, T.sz, T.mok, T.bd, T.reach⟩
/-- adding -/
theorem add_w (R : SetW P w s.heap a L es ep t) {x : Addr} {k : List Str} (hx : IsW P w s.heap k x) (hu : A.units < cLine) (few : L.length + 1 < 64) {Q : Bool → Shared → Prop}
    (hQ : ∀ b h' L' es' ep' t', Heap.SameBut a s.heap h' → SetW P w h' a L' es' ep' t' → (k ∈ L.map (·.2) → L' = L) → (k ∉ L.map (·.2) → L'.Perm ((x, k) :: L)) → Q b { s with heap := h' }) : wpAny (model P w) A (setAddHashed a (.ref x) (whash P w k)) Q E s := by
  obtain ⟨o, ho, hex, hd⟩ := R.obj
  have el := wRows_len R.ent
  unfold setAddHashed
  refine wpAny_holding ?_
  rw [show (100000 : Nat) = 99999 + 1 from rfl, setAddHashedIn_succ]
  refine wpAny_bind (wpAny_setState_of ho hd R.fit (wp_if_neg (by simp [byScan, Value.scannable]) ?_))
  try refine wpAny_bind (wpAny_pure ?_)
  refine wpAny_bind (look_in R hx hu (fun hm => wpAny_pure (hQ false s.heap L es ep t (Heap.SameBut.refl a s.heap) R (fun _ => rfl) fun z => absurd hm z)) fun K hm hK hb => ?_)
  dsimp only
  refine wpAny_bind (wpAny_setState_of ho hd R.fit ?_)
  dsimp only
  obtain ⟨q1, q2, q3, q4, _, _, _, _, q9⟩ := R.tab.put hK hb
  generalize t.put (way t.mask (whash P w k) K) = pt at q1 q3 q4 q9 ⊢
  obtain ⟨t1, p⟩ := pt
  dsimp only at q1 q3 q4 q9 ⊢
  subst q1
  have main : ∀ z : Bool, wpAny (model P w) A (do
      storeSet a (SetTable.insertAt es (SetTable.below t.place (way t.mask (whash P w k) K)) (whash P w k, Value.ref x)) (if z = true then t1 else { t1 with plain := false })
      if (!false && (if z = true then t1 else { t1 with plain := false }).tooFull) = true then do
          setRelay a (SetTable.grown (es.size + 1))
          pure true
        else pure true) Q E s := fun z => by
    have tb := tab_plain q3 z
    have m2 : (if z = true then t1 else { t1 with plain := false }).mask = t.mask := by cases z <;> exact q4
    have f2 : (if z = true then t1 else { t1 with plain := false }).fill = L.length + 1 := by
      rw [List.length_map] at q9
      cases z <;> exact q9
    generalize (if z = true then t1 else { t1 with plain := false }) = t2 at tb m2 f2 ⊢
    have ins : (SetTable.insertAt es (SetTable.below t.place (way t.mask (whash P w k) K)) (whash P w k, Value.ref x)).toList = wRows P w (L.take (SetTable.below t.place (way t.mask (whash P w k) K)) ++ (x, k) :: L.drop (SetTable.below t.place (way t.mask (whash P w k) K))) := by
      rw [SetTable.toList_insertAt, R.ent]
      simp only [wRows, List.map_append, List.map_cons, List.map_take, List.map_drop]
    generalize SetTable.below t.place (way t.mask (whash P w k) K) = p at tb ins ⊢
    have pm : (L.take p ++ (x, k) :: L.drop p).Perm ((x, k) :: L) := by
      have := List.perm_middle (a := (x, k)) (l₁ := L.take p) (l₂ := L.drop p)
      rwa [List.take_append_drop] at this
    have eh : (L.take p ++ (x, k) :: L.drop p).map (fun p => whash P w p.2) = (L.map fun p => whash P w p.2).take p ++ whash P w k :: (L.map fun p => whash P w p.2).drop p := by
      simp only [List.map_append, List.map_cons, List.map_take, List.map_drop]
    rw [← eh] at tb
    generalize L.take p ++ (x, k) :: L.drop p = N at tb ins pm
    generalize SetTable.insertAt es p (whash P w k, Value.ref x) = es1 at ins ⊢
    have nl : N.length = L.length + 1 := pm.length_eq
    have n1 := wRows_len ins
    have nnd : (N.map (·.2)).Nodup := (pm.map (·.2)).nodup_iff.mpr (List.nodup_cons.mpr ⟨hm, R.nd⟩)
    have rr := R.room
    refine wpAny_bind (wpAny_storeSet_of ho hd ?_ (by rw [n1, nl, sizeLine_eq]; omega))
    have sb : Heap.SameBut a s.heap (s.heap.update a (Obj.putSet es1 t2)) := Heap.SameBut.update ..
    have ho1 := store_at (es' := es1) (t' := t2) ho hd
    generalize s.heap.update a (Obj.putSet es1 t2) = h1 at sb ho1 ⊢
    have ntup : ∀ p ∈ N, IsW P w h1 p.2 p.1 := fun p hp => by
      rcases List.mem_cons.mp (pm.mem_iff.mp hp) with rfl | hp
      · exact isW_but hx ho hd sb
      · exact isW_but (R.tup p hp) ho hd sb
    have tz : t2.place.size = es1.size := by
      have := tb.sz
      rw [List.length_map] at this
      rw [this, n1]
    by_cases full : t2.tooFull = true
    · have fl := full
      unfold SetTable.tooFull at fl
      rw [decide_eq_true_eq, f2, m2] at fl
      refine wp_if_pos (by simp [full]) (wpAny_bind ?_)
      rw [el]
      have go : ∀ M, SetTable.sizeAbove (SetTable.grown (L.length + 1)) - 1 = M → MaskOk M → SetTable.sizeAbove (SetTable.grown (L.length + 1)) ≤ 128 → (L.length + 1) * 5 < M * 3 → L.length + 1 ≤ t.mask →
          wpAny (model P w) A (setRelay a (SetTable.grown (L.length + 1))) (fun _ s' => wpAny (model P w) A (pure true) Q E s') E { s with heap := h1 } := fun M g1 g2 g3 g4 g5 =>
        relay_w (s := { s with heap := h1 }) ho1 ⟨hex.1, hex.2.1, hex.2.2⟩ rfl ins tz tb.dm (by rw [n1, nl, m2]; exact g5) nnd ntup (by rw [nl]; exact few) g1 g2 g3 (by rw [nl]; exact g4) fun h2 L2 es2 ep2 t3 sb2 R2 pm2 =>
          wpAny_pure (hQ true h2 L2 es2 ep2 t3 (sb.trans sb2) R2 (fun z => absurd z hm) fun _ => pm2.trans pm)
      rcases R.tab.mok with e | e | e
      · have e4 : L.length = 4 := by rw [e] at fl rr; omega
        exact go 31 (by rw [e4, size_20]) (.inr (.inl rfl)) (by rw [e4, size_20]; decide) (by omega) (by omega)
      · have e4 : L.length = 18 := by rw [e] at fl rr; omega
        exact go 127 (by rw [e4, size_76]) (.inr (.inr rfl)) (by rw [e4, size_76]; decide) (by omega) (by omega)
      · rw [e] at fl
        omega
    · refine wp_if_neg (by simp [full]) (wpAny_pure (hQ true h1 N es1 (ep + 1) t2 sb ⟨⟨_, ho1, ⟨hex.1, hex.2.1, hex.2.2⟩, rfl⟩, ins, tb, nnd, ntup, ?_, by rw [nl]; exact few⟩ (fun z => absurd z hm) fun _ => pm))
      have fl := full
      unfold SetTable.tooFull at fl
      rw [decide_eq_true_eq, f2, m2] at fl
      rw [nl, m2]
      omega
  split
  · exact wpAny_bind (byHash hx main)
  · exact wpAny_bind (wpAny_pure (main true))
end
end L3
set_option maxHeartbeats 4000000
namespace L3
open PySem PySem.Spec PyProof.Rows L2
/-! ### len(set(xs)), xs a list of pairs of texts -/
/-- what of the first i pairs a set has -/
structure HasW (ks : List (Addr × List Str)) (i : Nat) (L : List (Addr × List Str)) : Prop where
  sub : ∀ p ∈ L, p ∈ ks.take i
  all : ∀ p ∈ ks.take i, p.2 ∈ L.map (·.2)
  le : L.length ≤ i
theorem hasW_snoc {ks L L' : List (Addr × List Str)} {i : Nat} {p : Addr × List Str} (g : HasW ks i L) (hp : ks[i]? = some p) (h1 : p.2 ∈ L.map (·.2) → L' = L) (h2 : p.2 ∉ L.map (·.2) → L'.Perm (p :: L)) : HasW ks (i + 1) L' := by
  have tk : ks.take (i + 1) = ks.take i ++ [p] := by rw [List.take_add_one, hp]; rfl
  by_cases c : p.2 ∈ L.map (·.2)
  · rw [h1 c]
    refine ⟨fun q hq => by rw [tk]; exact List.mem_append_left _ (g.sub q hq), fun q hq => ?_, Nat.le_succ_of_le g.le⟩
    rw [tk] at hq
    rcases List.mem_append.mp hq with z | z
    · exact g.all q z
    · rw [List.mem_singleton.mp z]; exact c
  · have pm := h2 c
    refine ⟨fun q hq => ?_, fun q hq => ?_, by rw [pm.length_eq, List.length_cons]; exact Nat.succ_le_succ g.le⟩
    · rw [tk]
      rcases List.mem_cons.mp (pm.mem_iff.mp hq) with rfl | z
      · exact List.mem_append_right _ (List.mem_singleton.mpr rfl)
      · exact List.mem_append_left _ (g.sub q z)
    · rw [(pm.map (·.2)).mem_iff, List.map_cons]
      rw [tk] at hq
      rcases List.mem_append.mp hq with z | z
      · exact List.mem_cons_of_mem _ (g.all q z)
      · rw [List.mem_singleton.mp z]; exact List.mem_cons_self
section
variable {P : Program} {w : World} {A : Around} {E : Value → Shared → Prop} {s : Shared}
theorem SetW.keep {h h' : Heap} {a : Addr} {L : List (Addr × List Str)} {es : Array (Int × Value)} {ep : Nat} {t : SetTable} (R : SetW P w h a L es ep t) (ka : ∀ o, h.get? a = some o → h'.get? a = some o) (kt : ∀ p ∈ L, IsW P w h' p.2 p.1) : SetW P w h' a L es ep t := by
  obtain ⟨o, ho, r⟩ := R.obj
  exact ⟨⟨o, ka o ho, r⟩, R.ent, R.tab, R.nd, kt, R.room, R.few⟩
theorem setW_new {h : Heap} {a : Addr} (ho : h.get? a = some (setNew w)) : SetW P w h a [] #[] 0 (.fresh 0 0 (!w.params.followText "set-order")) :=
  ⟨⟨_, ho, ⟨rfl, rfl, rfl⟩, rfl⟩, rfl, ⟨List.Pairwise.nil, rfl, rfl, .inl rfl, fun _ z => (by cases z), fun i _ _ z => (by simp at z)⟩, List.nodup_nil, fun _ z => (List.not_mem_nil z).elim, by show 0 * 5 < 7 * 3; decide, by show 0 < 64; decide⟩
theorem setW_loop {I : Addr} {fp wr : List Addr} {G : Array GenState → Array GenState → Prop} {n : Nat} {Pv : Nat → Value → Prop} {St : Nat → Shared → Prop} {R : Result → Shared → Prop} (W : WalksS P w A.in1 I fp wr G n Pv St) (S : Addr) (hSf : S ∉ fp)
    (ks : List (Addr × List Str)) (hn : n = ks.length) (few : ks.length < 63) (hval : ∀ i v, Pv i v → ∃ p, ks[i]? = some p ∧ v = .ref p.1)
    (h0 : Heap) (hk : ∀ p ∈ ks, IsW P w h0 p.2 p.1) (hS0 : h0.get? S = none) (hw0 : ∀ b ∈ wr, h0.get? b = none) (hu : A.in1.units < cLine) :
    ∀ (k i : Nat) (s : Shared), n - i = k → i ≤ n → St i s → (∀ b o, h0.get? b = some o → s.heap.get? b = some o) → (∃ L es ep t, SetW P w s.heap S L es ep t ∧ HasW ks i L) →
      (∀ s' L es ep t, Moved (S :: wr) G s s' → SetW P w s'.heap S L es ep t → HasW ks n L → (∀ b o, h0.get? b = some o → s'.heap.get? b = some o) → R (.ok (.ret .none)) s') → codeAny (model P w) A (.builtin "set.update.loop" ⟨[.ref S, .ref I], []⟩) R s := by
  have nw : S ∉ wr := fun z => hSf (W.sub _ z)
  have up : ∀ b ∈ wr, b ∈ S :: wr := fun b z => List.mem_cons_of_mem _ z
  have old : ∀ {s s' : Shared}, Moved wr G s s' → (∀ b o, h0.get? b = some o → s.heap.get? b = some o) → ∀ b o, h0.get? b = some o → s'.heap.get? b = some o := fun mv q b o e => mv.heap b o (fun z => by rw [hw0 b z] at e; cases e) (q b o e)
  intro k
  induction k with
  | zero =>
    intro i s hk' hi st q ⟨L, es, ep, t, hx, g⟩ hR
    have e : i = n := by omega
    subst e
    refine codeAny_builtin F.entry_set_update_loop ?_
    rw [Around.under_plainId F.plain_set_update_loop _]
    refine wpAny_bind (W.done s _ _ st fun s' mv => wpAny_pure ?_)
    have q' := old mv q
    exact hR s' L es ep t (mv.mono up) (hx.keep (fun o e => mv.heap S o nw e) fun p hp => isW_keep (hk p (List.mem_of_mem_take (g.sub p hp))) q') g q'
  | succ k ih =>
    intro i s hk' hi st q ⟨L, es, ep, t, hx, g⟩ hR
    have lt : i < n := by omega
    refine codeAny_builtin F.entry_set_update_loop ?_
    rw [Around.under_plainId F.plain_set_update_loop _]
    refine wpAny_bind (W.item i s _ _ lt st fun v s' hP st' mv => ?_)
    obtain ⟨p, hp, rfl⟩ := hval i v hP
    have q' := old mv q
    have sub : ∀ r ∈ L, r ∈ ks := fun r hr => List.mem_of_mem_take (g.sub r hr)
    have hx' : SetW P w s'.heap S L es ep t := hx.keep (fun o e => mv.heap S o nw e) fun r hr => isW_keep (hk r (sub r hr)) q'
    have ht : IsW P w s'.heap p.2 p.1 := isW_keep (hk p (List.mem_of_getElem? hp)) q'
    have gl := g.le
    refine wpAny_bind (wpAny_holding ?_)
    unfold setAdd
    refine wpAny_holding (wpAny_bind (wpAny_pyHash_tuple hu ht ?_))
    refine add_w (s := { s' with toks := s'.toks + (p.2.length + 1) }) hx' ht hu (by omega) fun b h' L' es' ep' t' sb r c1 c2 => ?_
    have g' : HasW ks (i + 1) L' := hasW_snoc g hp c1 c2
    have q2 : ∀ b o, h0.get? b = some o → h'.get? b = some o := fun b o e => (sb.2 b (fun z => by rw [z, hS0] at e; cases e)).trans (q' b o e)
    refine wpAny_pure ⟨plainId_quiet F.plain_set_update_loop _, ih (i + 1) _ (by omega) lt (W.frame _ s' _ _ st' (Nat.le_add_right _ _) fun b z o e => ?_) q2 ⟨L', es', ep', t', r, g'⟩ fun s2 L2 es2 ep2 t2 mv2 r2 g2 q3 => hR s2 L2 es2 ep2 t2 (Moved.trans W.gtrans ((mv.mono up).then_heap (Nat.le_add_right _ _) fun b o z e => ?_) mv2) r2 g2 q3⟩
    · rw [sb.2 b fun e : b = S => hSf (e ▸ z)]; exact e
    · rw [sb.2 b fun e : b = S => z (e ▸ List.mem_cons_self)]; exact e
theorem call_setW {x : Value} {T : String} {n : Nat} {Pv : Nat → Value → Prop} {ks : List (Addr × List Str)} {Q : Value → Shared → Prop} (hT : ({ s with heap := s.heap.push (setNew w) } : Shared).TypeIs x T) (h1 : isSubtype (.type T) (.type "set") = pure false) (h2 : isSubtype (.type T) (.type "frozenset") = pure false) (h3 : (Value.type T == Value.type "dict") = false)
    (hF : Feeds P w A.in1.in1 { s with heap := s.heap.push (setNew w) } s.heap.objs.size x n Pv) (hn : n = ks.length) (few : ks.length < 63) (hval : ∀ i v, Pv i v → ∃ p, ks[i]? = some p ∧ v = .ref p.1) (hk : ∀ p ∈ ks, IsW P w s.heap p.2 p.1) (hu : A.units + 8 < cLine)
    (fin : ∀ (h' : Heap) (tk : Nat) L es ep t, SetW P w h' s.heap.objs.size L es ep t → HasW ks ks.length L → (∀ b o, s.heap.get? b = some o → h'.get? b = some o) → Q (.ref s.heap.objs.size) { s with heap := h', toks := tk }) : wpAny (model P w) A (call (.type "set") [x]) Q E s := by
  refine set_fed (R := fun s' => ∃ (h' : Heap) (tk : Nat) (L : List (Addr × List Str)) (es : Array (Int × Value)) (ep : Nat) (t : SetTable), s' = { s with heap := h', toks := tk } ∧ SetW P w h' s.heap.objs.size L es ep t ∧ HasW ks ks.length L ∧ ∀ b o, s.heap.get? b = some o → h'.get? b = some o) hT h1 h2 h3 hF (fun E' I fp St s1 W hS hI st g1 g2 g3 g4 g5 => ?_) ?_
  · refine setW_loop W s.heap.objs.size hS ks hn few hval s.heap hk (none_from (Nat.le_refl _)) (fun b hb => none_from ?_) (show A.units + 1 + 1 + 1 < cLine by omega) n 0 s1 (by omega) (Nat.zero_le _) st g5 ⟨[], #[], 0, _, setW_new g4, ⟨fun _ z => (List.not_mem_nil z).elim, fun _ z => by simp at z, Nat.le_refl _⟩⟩ fun s2 L es ep t mv q1 q2 q3 => ?_
    · rw [List.mem_singleton.mp hb, hI]; exact Nat.le_succ _
    · refine ⟨s2.heap, s2.toks, L, es, ep, t, ?_, q1, by rw [← hn]; exact q2, q3⟩
      have a1 : s2.gens = s.gens := Eq.trans mv.gens g1
      have a2 : s2.drawn = s.drawn := mv.drawn.trans g2
      have a3 : s2.os = s.os := mv.os.trans g3
      cases s2
      simp only at a1 a2 a3
      subst a1 a2 a3
      rfl
  · rintro _ ⟨h', tk, L, es, ep, t, rfl, q1, q2, q3⟩
    exact fin h' tk L es ep t q1 q2 q3
/-- the set alone -/
structure SetW0 (P : Program) (w : World) (h : Heap) (a : Addr) (n : Nat) : Prop where
  ex : ∃ (o : Obj) (es : Array (Int × Value)) (ep : Nat) (t : SetTable), h.get? a = some o ∧ o.ExactSet ∧ o.data = .set es ep t ∧ t.fits es.size = true ∧ es.size = n ∧ n < 64
def SetWO (P : Program) (w : World) (a : Addr) (n : Nat) : HO := .ext fun h => SetW0 P w h a n
theorem setWO_new {H : Hp} {h : Heap} {a : Addr} {n : Nat} (R : SetW0 P w h a n) : ObjOk P w H h a (SetWO P w a n) := by
  have ⟨o, es, ep, t, ho, r⟩ := R.ex
  refine ⟨R, ⟨o, ho⟩, fun g1 g2 p k => ?_⟩
  have ⟨o', es', ep', t', ho', r'⟩ := SetW0.ex p
  exact ⟨o', es', ep', t', k o' ho', r'⟩
end
theorem itemsW : ∀ {P : Program} {w : World} {k : List Str} {us : List Value}, Vals (k.map V.str) us → ItemsAre (strKind P w) k us
  | _, _, [], _, .nil => .nil
  | P, w, x :: k, _, .cons r t => by
    obtain ⟨tk, rfl⟩ := r
    exact .cons (strKind_is P w x tk) (itemsW t)
def rSetW (K : PySem.W.Frag) (P : Program) (w : World) : List V → Hp → VK → Prop := fun xs H Q => ∃ (l : Addr) (ks : List (Addr × List Str)), xs = [V.ref l] ∧ (SqL K H l (ks.map fun p => V.ref p.1) ∨ SqT K H l (ks.map fun p => V.ref p.1)) ∧ (∀ p ∈ ks, SqT K H p.1 (p.2.map V.str)) ∧ ks.length < 63 ∧
  ∀ a (L : List (Addr × List Str)), H a = none → (∀ p ∈ L, p ∈ ks) → (∀ p ∈ ks, p.2 ∈ L.map (·.2)) → (L.map (·.2)).Nodup → Q (.ref a) (upd H a (SetWO P w a L.length))
def rLenW (P : Program) (w : World) : List V → Hp → VK → Prop := fun vs H Q => ∃ (a : Addr) (n : Nat), vs = [V.ref a] ∧ H a = some (SetWO P w a n) ∧ Q (.int n) H
section
variable {X : Cx}
theorem isW_of {pins : List (Addr × Obj)} {σ : L2.St} {H : Hp} {s : Shared} {b : Addr} {k : List Str} (I : Inv X pins σ H s) (h : SqT X.K H b (k.map V.str)) : IsW X.prog X.w s.heap k b := by
  obtain ⟨its, r, ⟨o, ho, hc, m, hd⟩, _⟩ := I.tuple h
  exact ⟨o, its.toArray, m, ho, hc, hd, by simpa using itemsW r⟩
theorem cr_setW (hc : X.calm = true) (hu : X.A.units + 8 < cLine) : CallR X (.type "set") (rSetW X.K X.prog X.w) := by
  intro pins s σ H vs us Q I r h
  obtain ⟨l, ks, rfl, hq, hk, few, q⟩ := h
  rw [Vals.ref1 r]
  have hh : X.A.in1.in1.in1.handled = none := by
    have := I.ok.hd hc
    simp [this]
  have hn : H s.heap.objs.size = none := I.hok.fresh (Nat.le_refl _)
  have lt1 : s.heap.objs.size < (s.heap.push (setNew X.w)).objs.size := by rw [Heap.size_push]; exact Nat.lt_succ_self _
  have fin : ∀ (h' : Heap) (tk : Nat) L es ep t, SetW X.prog X.w h' s.heap.objs.size L es ep t → HasW ks ks.length L → (∀ b o, s.heap.get? b = some o → h'.get? b = some o) → EP X pins σ Q (.ref s.heap.objs.size) { s with heap := h', toks := tk } := fun h' tk L es ep t R g k => by
    have R0 : SetW0 X.prog X.w h' s.heap.objs.size L.length := by
      obtain ⟨o, z1, z2, z3⟩ := R.obj
      exact ⟨o, es, ep, t, z1, z2, z3, SetW.fit (s := { s with heap := h' }) R, wRows_len R.ent, R.few⟩
    exact ⟨.ref s.heap.objs.size, upd H s.heap.objs.size (SetWO X.prog X.w s.heap.objs.size L.length), I.laid (t' := tk) k (Nat.le_refl _) (setWO_new R0), rfl, q _ L hn (fun p hp => List.mem_of_mem_take (g.sub p hp)) (fun p hp => g.all p (by rw [List.take_length]; exact hp)) R.nd⟩
  have hv : ∀ {its : List Value}, Vals (ks.map fun p => V.ref p.1) its → ∀ (i : Nat) (v : Value), its.toArray[i]? = some v → ∃ p, ks[i]? = some p ∧ v = .ref p.1 := fun {its} rv i v e => by
    have e3 : its = ks.map fun p => Value.ref p.1 := by
      have : ∀ {ms : List (Addr × List Str)} {us : List Value}, Vals (ms.map fun p => V.ref p.1) us → us = ms.map fun p => Value.ref p.1 := fun {ms} => by
        induction ms with
        | nil => intro us r; cases r; rfl
        | cons m ms ih => intro us r; cases r with | cons r1 r2 => cases r1; rw [ih r2]; rfl
      exact this rv
    rw [e3, List.getElem?_toArray, List.getElem?_map] at e
    obtain ⟨p, e1, e2⟩ := Option.map_eq_some_iff.mp e
    exact ⟨p, e1, e2.symm⟩
  rcases hq with hq | hq
  · obtain ⟨its, rv, pl, hz⟩ := I.list hq
    have il : its.toArray.size = ks.length := by rw [List.size_toArray, ← rv.length, List.length_map]
    have lt2 : l < s.heap.objs.size := by obtain ⟨o, n, e, _⟩ := pl; exact Heap.lt_size e
    have pl2 := (pl.isList).push (setNew X.w)
    exact call_setW (T := "list") (ks := ks) pl2.typeIs PySem.F.sub_list_set PySem.F.sub_list_frozenset (by decide) (feeds_list hh pl2 lt1 (Nat.ne_of_gt lt2)) il few (hv rv) (fun p hp => isW_of I (hk p hp)) hu fin
  · obtain ⟨its, rv, pl, hz⟩ := I.tuple hq
    have il : its.toArray.size = ks.length := by rw [List.size_toArray, ← rv.length, List.length_map]
    have lt2 : l < s.heap.objs.size := by obtain ⟨o, e, _⟩ := pl; exact Heap.lt_size e
    have pl2 := Heap.IsTuple.push pl (setNew X.w)
    exact call_setW (T := "tuple") (ks := ks) pl2.typeIs PySem.F.sub_tuple_set PySem.F.sub_tuple_frozenset (by decide) (feeds_tup hh pl2 lt1 (Nat.ne_of_gt lt2)) il few (hv rv) (fun p hp => isW_of I (hk p hp)) hu fin
theorem cr_lenW : CallR X (.builtin "len") (rLenW X.prog X.w) := by
  intro pins s σ H vs us Q I r h
  obtain ⟨a, n, rfl, ha, q⟩ := h
  rw [Vals.ref1 r]
  obtain ⟨o, es, ep, t, ho, hex, hd, hf, rfl, hb⟩ := ((I.hok a _ ha).1 : SetW0 X.prog X.w s.heap a n).ex
  exact call_len_set ho hex hd hf (by omega) ⟨.int es.size, H, I.tok _, ⟨_, rfl⟩, q⟩
end
/-- pairs of texts -/
def wordsOf : List D → Option (List (List Str))
  | [] => some []
  | .tup [.str x, .str y] :: r => (wordsOf r).map ([x, y] :: ·)
  | _ => none
def lenSetW (d : D) (S : Store) : Res D := match seqOf S d with
  | some es => match wordsOf es with
    | some ps => if ps.length < 63 then .ok (.int (undup ps).length) S else .stuck
    | none => .stuck
  | none => .stuck
section
variable {K : PySem.W.Frag} {mg : Str → Option Value} {w : Wd} {H : Hp} {S : Store}
theorem words_rep : ∀ {es : List D} {ps : List (List Str)} {vs : List V}, wordsOf es = some ps → Reps K w H es vs → ∃ ks : List (Addr × List Str), vs = ks.map (fun p => V.ref p.1) ∧ ks.map (·.2) = ps ∧ ∀ p ∈ ks, FzT w H p.1 (p.2.map V.str)
  | [], ps, vs, h, r => by
    simp only [wordsOf, Option.some.injEq] at h
    simp only [Reps] at r
    subst h r
    exact ⟨[], rfl, rfl, fun _ z => (List.not_mem_nil z).elim⟩
  | e :: es, ps, vs, h, r => by
    unfold wordsOf at h
    split at h
    · rename_i heq; cases heq
    · rename_i x y r' heq
      cases heq
      obtain ⟨qs, h1, rfl⟩ := Option.map_eq_some_iff.mp h
      simp only [Reps] at r
      obtain ⟨v, us, rfl, r1, r2⟩ := r
      obtain ⟨ks, e1, e2, e3⟩ := words_rep h1 r2
      simp only [Rep, Reps] at r1
      obtain ⟨a, ws, rfl, f, rr⟩ := r1
      obtain ⟨v1, w1, rfl, q1, v2, w2, rfl, q2, rfl⟩ := rr
      subst q1 q2
      refine ⟨(a, [x, y]) :: ks, by rw [List.map_cons, e1], by rw [List.map_cons, e2], fun p hp => ?_⟩
      rcases List.mem_cons.mp hp with rfl | hp
      · exact f
      · exact e3 p hp
    · cases h
theorem seqW_rep {d : D} {es : List D} {ps : List (List Str)} {v : V} (A : Ab K w H mg S) (hs : seqOf S d = some es) (h : wordsOf es = some ps) (r : Rep K w H d v) : ∃ (l : Addr) (ks : List (Addr × List Str)), v = .ref l ∧ (SqL K H l (ks.map fun p => V.ref p.1) ∨ SqT K H l (ks.map fun p => V.ref p.1)) ∧ ks.map (·.2) = ps ∧
    ∀ p ∈ ks, FzT w H p.1 (p.2.map V.str) := by
  unfold seqOf at hs
  split at hs
  · rename_i es' h1
    cases hs
    obtain ⟨a, vs, rfl, f, r'⟩ := rdL_rep A h1 r
    obtain ⟨ks, rfl, e2, e3⟩ := words_rep h r'
    exact ⟨a, ks, rfl, .inl f, e2, e3⟩
  · obtain ⟨a, vs, rfl, f, r'⟩ := rdT_rep hs r
    obtain ⟨ks, rfl, e2, e3⟩ := words_rep h r'
    exact ⟨a, ks, rfl, .inr f, e2, e3⟩
end
section
variable {X : Cx} {W : XW} {e : Expr} {p p2 q pos : Pos} {m : DSt → Store → Res D}
theorem pm_lenSetW (hc : X.calm = true) (hu : X.A.units + 8 < cLine) (hg : Gl X "len") (hm : X.mg "len" = none) (hg2 : Gl X "set") (hm2 : X.mg "set" = none) (ha : PM X W e m) (na : starEach [e] X.env = (false, eval e X.env) :: starEach [] X.env := by rfl) :
    PM X W (.Call (.Name "len" p) [.Call (.Name "set" p2) [e] [] q] [] pos) (m1 m lenSetW) := by
  have h1 := pe_callTy (p := p2) (pos := q) (cr_setW hc hu) hg2 hm2 boot_set (pa_cons ha pa_nil na) (he := na)
  have h2 := pe_callB (p := p) (pos := pos) cr_lenW hg hm boot_len (pa_cons h1 pa_nil)
  refine PE.imp h2 fun σ H Q ⟨w, dσ, S, A, R, P⟩ => ⟨w, dσ, S, A, R, P.bind fun d S1 w1 H1 v e1 A1 r1 P1 => ?_⟩
  unfold lenSetW at P1
  split at P1
  · rename_i es hs
    split at P1
    · rename_i ps hp
      split at P1
      · rename_i hl
        obtain ⟨l, ks, rfl, hq, hps, hz⟩ := seqW_rep A1 hs hp r1
        refine ⟨l, ks, rfl, hq, fun p hp => (hz p hp).sq, by rw [← hps, List.length_map] at hl; exact hl, fun a L hn h1 h2 nd => ⟨a, L.length, rfl, upd_same, ?_⟩⟩
        have pl := (undup_perm (xs := ps) nd fun y => ?_).length_eq
        · rw [List.length_map] at pl
          rw [pl]
          exact P1 w1 _ _ (Ex.new hn) (A1.newF hn) (of_int _)
        · rw [← hps]
          constructor
          · intro hy
            obtain ⟨p, hp, rfl⟩ := List.mem_map.mp hy
            exact List.mem_map.mpr ⟨p, h1 p hp, rfl⟩
          · intro hy
            obtain ⟨p, hp, rfl⟩ := List.mem_map.mp hy
            exact h2 p hp
      · exact P1.elim
    · exact P1.elim
  · exact P1.elim
end
end L3
namespace L3
open PySem PySem.Spec L2

/-! ### evaluation: what each reading gives at data that are there -/
section
variable {σ : DSt} {S : Store} {a b c : DSt → Store → Res D} {i j : Int} {x y : Str} {ds es : List D} {d e : D} {l n k : Nat}
@[simp] theorem e_seq (a b : DSt → Store → Res Fl) : mSeq a b σ S = thenS (a σ S) b := (rfl)
@[simp] theorem e_skip : mSkip σ S = .ok (.nx σ) S := (rfl)
@[simp] theorem e_do : mDo a σ S = liftE (a σ S) σ fun _ S1 => .ok (.nx σ) S1 := (rfl)
@[simp] theorem e_ret : mRet a σ S = liftE (a σ S) σ fun d S1 => .ok (.rt d) S1 := (rfl)
@[simp] theorem e_ifs (c : DSt → Store → Res Bool) (a b : DSt → Store → Res Fl) : mIfS c a b σ S = liftE (c σ S) σ fun x S1 => if x = true then a σ S1 else b σ S1 := (rfl)
@[simp] theorem e_set (i : Nat) : mSet i a σ S = liftE (a σ S) σ fun d S1 => .ok (.nx (σ.set i (some d))) S1 := (rfl)
@[simp] theorem e_asg (g : D → DSt → Store → Res DSt) : mAsg a g σ S = liftE (a σ S) σ fun d S1 => bindG (g d σ S1) fun σ2 S2 => .ok (.nx σ2) S2 := (rfl)
@[simp] theorem e_par (i j : Nat) (ms : DSt → Store → Res (List D)) : mPar i j ms σ S = liftE (ms σ S) σ fun ds S1 => match ds with
  | [a, b] => .ok (.nx ((σ.set i (some a)).set j (some b))) S1
  | _ => .stuck := (rfl)
@[simp] theorem e_for (mi : DSt → Store → Res Src) (g : D → DSt → Store → Res DSt) (b : DSt → Store → Res Fl) : mFor mi g b σ S = liftE (mi σ S) σ fun src S1 => forGo src.guard g b src.items σ S1 := (rfl)
@[simp] theorem e_lc (mi : DSt → Store → Res Src) (g : D → DSt → Store → Res DSt) (t : DSt → Store → Res Bool) (e : DSt → Store → Res D) (vs : List Nat) :
    mLc mi g t e vs σ S = (mi σ S).bind fun src S1 => bindG (lcGo src.guard g t e (dwipe σ vs) src.items S1) fun ys S2 => .ok (.lst ys) S2 := (rfl)
@[simp] theorem e_lcM (mi : DSt → Store → Res Src) (g : D → DSt → Store → Res DSt) (t : DSt → Store → Res Bool) (e : DSt → Store → Res D) (vs : List Nat) :
    mLcM mi g t e vs σ S = (mi σ S).bind fun src S1 => bindG (lcGo src.guard g t e (dwipe σ vs) src.items S1) fun ys S2 => .ok (.loc S2.length) (S2 ++ [.lst ys]) := (rfl)
@[simp] theorem e_C : mC d σ S = .ok d S := (rfl)
theorem e_var' (i : Nat) (h : σ[i]? = some (some d)) : mVar i σ S = .ok d S := by unfold mVar; rw [h]
@[simp] theorem e_var0 (o : DSt) : mVar 0 (some d :: o) S = .ok d S := (rfl)
@[simp] theorem e_varS (i : Nat) (z : Option D) (o : DSt) : mVar (i + 1) (z :: o) S = mVar i o S := by simp [mVar]
@[simp] theorem e_m2 (f : D → D → Store → Res D) : m2 a b f σ S = (a σ S).bind fun x S1 => (b σ S1).bind fun y S2 => f x y S2 := (rfl)
@[simp] theorem e_m1 (f : D → Store → Res D) : m1 a f σ S = (a σ S).bind fun x S1 => f x S1 := (rfl)
@[simp] theorem e_nil : mNil σ S = .ok [] S := (rfl)
@[simp] theorem e_cons (ms : DSt → Store → Res (List D)) : mCons a ms σ S = (a σ S).bind fun d S1 => (ms σ S1).bind fun ds S2 => .ok (d :: ds) S2 := (rfl)
@[simp] theorem e_tup (ms : DSt → Store → Res (List D)) : mTup ms σ S = (ms σ S).bind fun ds S1 => if ds.length ≤ sizeLine then .ok (.tup ds) S1 else .stuck := (rfl)
@[simp] theorem e_lst (ms : DSt → Store → Res (List D)) : mLst ms σ S = (ms σ S).bind fun ds S1 => if ds.length ≤ sizeLine then .ok (.lst ds) S1 else .stuck := (rfl)
@[simp] theorem e_lstM (ms : DSt → Store → Res (List D)) : mLstM ms σ S = (ms σ S).bind fun ds S1 => if ds.length ≤ sizeLine then .ok (.loc S1.length) (S1 ++ [.lst ds]) else .stuck := (rfl)
@[simp] theorem e_andT (a b : DSt → Store → Res Bool) : mAndT a b σ S = (a σ S).bind fun x S1 => if x = true then b σ S1 else .ok false S1 := (rfl)
@[simp] theorem e_orT (a b : DSt → Store → Res Bool) : mOrT a b σ S = (a σ S).bind fun x S1 => if x = true then .ok true S1 else b σ S1 := (rfl)
@[simp] theorem e_notT (a : DSt → Store → Res Bool) : mNotT a σ S = (a σ S).bind fun x S1 => .ok (!x) S1 := (rfl)
/-- and, or, not of two values -/
def andK (x : D) (S : Store) (r : Res D) : Res D := match x with
  | .bl true => r
  | .bl false => .ok (.bl false) S
  | _ => .stuck
def orK (x : D) (S : Store) (r : Res D) : Res D := match x with
  | .bl true => .ok (.bl true) S
  | .bl false => r
  | _ => .stuck
@[simp] theorem e_andV : mAndV a b σ S = (a σ S).bind fun x S1 => andK x S1 (b σ S1) := (rfl)
@[simp] theorem e_orV : mOrV a b σ S = (a σ S).bind fun x S1 => orK x S1 (b σ S1) := (rfl)
@[simp] theorem andK_bl (t : Bool) (r : Res D) : andK (.bl t) S r = if t = true then r else .ok (.bl false) S := by cases t <;> rfl
@[simp] theorem orK_bl (t : Bool) (r : Res D) : orK (.bl t) S r = if t = true then .ok (.bl true) S else r := by cases t <;> rfl
def notK (x : D) (S : Store) : Res D := match x with
  | .bl k => .ok (.bl (!k)) S
  | _ => .stuck
@[simp] theorem e_notV : mNotV a σ S = (a σ S).bind fun x S1 => notK x S1 := (rfl)
@[simp] theorem notK_bl (t : Bool) : notK (.bl t) S = .ok (.bl (!t)) S := (rfl)
@[simp] theorem e_if (c : DSt → Store → Res Bool) : mIf c a b σ S = (c σ S).bind fun x S1 => if x = true then a σ S1 else b σ S1 := (rfl)
def negK (x : D) (S : Store) : Res D := match x with
  | .int i => .ok (.int (-i)) S
  | _ => .stuck
@[simp] theorem e_neg : mNeg a σ S = (a σ S).bind fun x S1 => negK x S1 := (rfl)
@[simp] theorem negK_int : negK (.int i) S = .ok (.int (-i)) S := (rfl)
def chK (z : D) (S : Store) (r : Res D) : Res D := match z with
  | .bl true => r
  | .bl false => .ok (.bl false) S
  | _ => .stuck
@[simp] theorem chK_bl (t : Bool) (r : Res D) : chK (.bl t) S r = if t = true then r else .ok (.bl false) S := by cases t <;> rfl
@[simp] theorem e_ch (f g : D → D → Store → Res D) : mCh a b c f g σ S = (a σ S).bind fun x S1 => (b σ S1).bind fun y S2 => (f x y S2).bind fun z S3 => chK z S3 ((c σ S3).bind fun w S4 => g y w S4) := by
  rfl
def truK (x : D) (S : Store) : Res Bool := match x with
  | .bl t => .ok t S
  | _ => .stuck
@[simp] theorem truK_bl (t : Bool) : truK (.bl t) S = .ok t S := (rfl)
@[simp] theorem e_cb (g : List D → Store → Res D) (ms : DSt → Store → Res (List D)) : mCB g ms σ S = (ms σ S).bind fun ds S1 => g ds S1 := (rfl)
@[simp] theorem e_call (n : Nat) (den : List D → Store → Res D) (ms : DSt → Store → Res (List D)) : mCall n den ms σ S = (ms σ S).bind fun ds S1 => if ds.length = n then noX (den ds S1) else .stuck := (rfl)
@[simp] theorem e_bm (T : String) (g : D → List D → Store → Res D) (ms : DSt → Store → Res (List D)) : mBM T g a ms σ S = (a σ S).bind fun d S1 => if tyOk T S1 d = true then (ms σ S1).bind fun ds S2 => g d ds S2 else .stuck := (rfl)
@[simp] theorem e_gname (i : Nat) : gtName i d σ S = .ok (σ.set i (some d)) S := (rfl)
@[simp] theorem e_gnil : gtNil [] σ S = .ok σ S := (rfl)
@[simp] theorem e_gcons (f : D → DSt → Store → Res DSt) (g : List D → DSt → Store → Res DSt) : gtCons f g (d :: ds) σ S = bindG (f d σ S) fun σ1 S1 => g ds σ1 S1 := (rfl)
@[simp] theorem e_gtup (n : Nat) (g : List D → DSt → Store → Res DSt) : gtTup n g (.tup ds) σ S = if ds.length = n then g ds σ S else .stuck := (rfl)
@[simp] theorem e_gktp (n : Nat) (g : List D → DSt → Store → Res DSt) : gtTup n g (.ktp ds) σ S = if ds.length = n then g ds σ S else .stuck := (rfl)
@[simp] theorem e_gsub (f : D → D → D → Store → Res Unit) : gtSub a b f d σ S = bindG (a σ S) fun o S1 => bindG (b σ S1) fun i S2 => bindG (f o i d S2) fun _ S3 => .ok σ S3 := (rfl)
def srcK (o : Option Src) (S : Store) : Res Src := match o with
  | some s => .ok s S
  | none => .stuck
@[simp] theorem e_seqi : mSeqI a σ S = (a σ S).bind fun d S1 => srcK (seqSrc d S1) S1 := (rfl)
@[simp] theorem srcK_some (s : Src) : srcK (some s) S = .ok s S := (rfl)
@[simp] theorem seqSrc_str : seqSrc (.str x) S = if x.length ≤ sizeLine then some ⟨signsOf x, []⟩ else none := (rfl)
@[simp] theorem seqSrc_tup : seqSrc (.tup ds) S = some ⟨ds, []⟩ := (rfl)
@[simp] theorem seqSrc_ktp : seqSrc (.ktp ds) S = some ⟨ds, []⟩ := (rfl)
@[simp] theorem seqSrc_lst : seqSrc (.lst ds) S = some ⟨ds, []⟩ := (rfl)
@[simp] theorem seqSrc_frz : seqSrc (.frz ds) S = some ⟨ds, []⟩ := (rfl)
theorem seqSrc_loc (h : S[l]? = some (.lst ds)) : seqSrc (.loc l) S = some ⟨ds, [(l, .lst ds)]⟩ := by simp [seqSrc, h]
@[simp] theorem lstSrc_lst : lstSrc (.lst ds) S = some ⟨ds, []⟩ := (rfl)
@[simp] theorem lstSrc_frz : lstSrc (.frz ds) S = some ⟨ds, []⟩ := (rfl)
def rng1K (ds : List D) (S : Store) : Res Src := match ds with
  | [.int j] => if j ≤ sizeLine ∧ -(2 ^ 62) ≤ j then .ok ⟨rangeD 0 1 j.toNat, []⟩ S else .stuck
  | _ => .stuck
@[simp] theorem e_rng1 (ms : DSt → Store → Res (List D)) : mRng1 ms σ S = (ms σ S).bind fun ds S1 => rng1K ds S1 := (rfl)
theorem rng1K_int (h : j ≤ sizeLine) (h0 : -(2 ^ 62) ≤ j) : rng1K [.int j] S = .ok ⟨rangeD 0 1 j.toNat, []⟩ S := if_pos ⟨h, h0⟩
theorem rng1K_nat (h : n ≤ sizeLine) : rng1K [.int n] S = .ok ⟨rangeD 0 1 n, []⟩ S := by
  have := rng1K_int (S := S) (j := (n : Int)) (by omega) (by omega)
  simpa using this
def rng2K (ds : List D) (S : Store) : Res Src := match ds with
  | [.int i, .int j] => if -(2 ^ 62) ≤ i ∧ i < 2 ^ 62 ∧ -(2 ^ 62) ≤ j ∧ j < 2 ^ 62 ∧ (j - i).toNat ≤ sizeLine then .ok ⟨rangeD i 1 (j - i).toNat, []⟩ S else .stuck
  | _ => .stuck
@[simp] theorem e_rng2 (ms : DSt → Store → Res (List D)) : mRng2 ms σ S = (ms σ S).bind fun ds S1 => rng2K ds S1 := (rfl)
def rng3K (ds : List D) (S : Store) : Res Src := match ds with
  | [.int i, .int j, .int c] => if c = -1 ∧ -(2 ^ 62) ≤ i ∧ i < 2 ^ 62 ∧ -(2 ^ 62) ≤ j ∧ j < 2 ^ 62 ∧ (i - j).toNat ≤ sizeLine then .ok ⟨rangeD i (-1) (i - j).toNat, []⟩ S else .stuck
  | _ => .stuck
@[simp] theorem e_rng3 (ms : DSt → Store → Res (List D)) : mRng3 ms σ S = (ms σ S).bind fun ds S1 => rng3K ds S1 := (rfl)
def enumK (ds : List D) (S : Store) : Res Src := match ds with
  | [d] => match lstSrc d S with
    | some src => .ok ⟨enumD 0 src.items, src.guard⟩ S
    | none => .stuck
  | _ => .stuck
@[simp] theorem e_enum (ms : DSt → Store → Res (List D)) : mEnum ms σ S = (ms σ S).bind fun ds S1 => enumK ds S1 := (rfl)
@[simp] theorem enumK_lst : enumK [.lst ds] S = .ok ⟨enumD 0 ds, []⟩ S := (rfl)
@[simp] theorem enumK_frz : enumK [.frz ds] S = .ok ⟨enumD 0 ds, []⟩ S := (rfl)
def partK (d : D) (S : Store) : Res (Option Int) := match d with
  | .int i => .ok (some i) S
  | _ => .stuck
@[simp] theorem e_part : mPart a σ S = (a σ S).bind fun d S1 => partK d S1 := (rfl)
@[simp] theorem partK_int : partK (.int i) S = .ok (some i) S := (rfl)
@[simp] theorem e_nopart : mNoPart σ S = .ok none S := (rfl)
@[simp] theorem e_sl (ml mh : DSt → Store → Res (Option Int)) : mSl a ml mh σ S = (a σ S).bind fun d S1 => (ml σ S1).bind fun lo S2 => (mh σ S2).bind fun hi S3 => sliceD d lo hi S3 := (rfl)
@[simp] theorem e_sl_str (lo hi : Option Int) : sliceD (.str x) lo hi S = if x.length ≤ sizeLine then .ok (.str (cutS x lo hi)) S else .stuck := (rfl)
@[simp] theorem e_sl_tup (lo hi : Option Int) : sliceD (.tup ds) lo hi S = .ok (.tup (L3.cut ds lo hi)) S := (rfl)
@[simp] theorem e_sl_lst (lo hi : Option Int) : sliceD (.lst ds) lo hi S = .ok (.lst (L3.cut ds lo hi)) S := (rfl)
@[simp] theorem e_sl_frz (lo hi : Option Int) : sliceD (.frz ds) lo hi S = .ok (.lst (L3.cut ds lo hi)) S := (rfl)
@[simp] theorem e_add : addD (.int i) (.int j) S = .ok (.int (i + j)) S := (rfl)
@[simp] theorem e_addS : addD (.str x) (.str y) S = if x.length + y.length ≤ sizeLine then .ok (.str (x ++ y)) S else .stuck := (rfl)
@[simp] theorem e_addT : addD (.tup ds) (.tup es) S = if ds.length + es.length ≤ sizeLine then .ok (.tup (ds ++ es)) S else .stuck := (rfl)
@[simp] theorem e_addL : addD (.lst ds) (.lst es) S = if ds.length + es.length ≤ sizeLine then .ok (.lst (ds ++ es)) S else .stuck := (rfl)
@[simp] theorem e_sub : subD (.int i) (.int j) S = .ok (.int (i - j)) S := (rfl)
@[simp] theorem e_mul : mulX (.int i) (.int j) S = if CMul i j ∨ CMulW i j then .ok (.int (i * j)) S else .stuck := (rfl)
@[simp] theorem e_mulS : mulX (.str x) (.int i) S = if -(2 ^ 63) ≤ i ∧ i < 2 ^ 63 ∧ x.length * i.toNat ≤ 16777216 then .ok (.str (repS x i.toNat)) S else .stuck := (rfl)
@[simp] theorem e_fdiv : fdivD (.int i) (.int j) S = if CDivW i j then .ok (.int (i / j)) S else .stuck := (rfl)
@[simp] theorem e_mod : modD (.int i) (.int j) S = if 0 < j then .ok (.int (i % j)) S else .stuck := (rfl)
@[simp] theorem e_pow : powD (.int i) (.int j) S = if CPowX i j then .ok (.int (i ^ j.toNat)) S else .stuck := (rfl)
@[simp] theorem e_lt : ltD (.int i) (.int j) S = .ok (.bl (decide (i < j))) S := (rfl)
@[simp] theorem e_cmp (p : Int → Int → Bool) : cmpI p (.int i) (.int j) S = .ok (.bl (p i j)) S := (rfl)
@[simp] theorem e_eqI (n : Bool) : eqD n (.int i) (.int j) S = .ok (.bl (xor n (decide (i = j)))) S := by
  have : eqD n (.int i) (.int j) S = .ok (.bl (xor n (i == j))) S := by
    simp only [eqD, pyS, toPy]
    rw [if_pos ⟨rfl, rfl⟩]
    rfl
  rw [this]
  have : (i == j) = decide (i = j) := by rw [Bool.eq_iff_iff]; simp
  rw [this]
@[simp] theorem e_isN : isND false .non .non S = .ok (.bl true) S := (rfl)
def chr (c : Nat) : D := .str ⟨#[c]⟩
def ixS (o : Option Nat) (S : Store) : Res D := match o with
  | some c => .ok (.str ⟨#[c]⟩) S
  | none => .stuck
@[simp] theorem ixS_some (c : Nat) : ixS (some c) S = .ok (chr c) S := (rfl)
@[simp] theorem e_ix_str : ixD (.str x) (.int i) S = if x.length ≤ sizeLine then ixS (atI x.cps.toList i) S else .stuck := (rfl)
def atK (o : Option D) (S : Store) : Res D := match o with
  | some e => .ok e S
  | none => .stuck
@[simp] theorem atK_some : atK (some d) S = .ok d S := (rfl)
@[simp] theorem e_ix_tup : ixD (.tup ds) (.int i) S = atK (atI ds i) S := (rfl)
@[simp] theorem e_ix_ktp : ixD (.ktp ds) (.int i) S = atK (atI ds i) S := (rfl)
@[simp] theorem e_ix_lst : ixD (.lst ds) (.int i) S = atK (atI ds i) S := (rfl)
@[simp] theorem e_ix_frz : ixD (.frz ds) (.int i) S = atK (atI ds i) S := (rfl)
theorem e_ix_loc (h : S[l]? = some (.lst ds)) : ixD (.loc l) (.int i) S = atK (atI ds i) S := by
  simp only [ixD, seqOf, rdL, exL, h]
  rfl
theorem atI_nn {α : Type} {xs : List α} (h : 0 ≤ i) : atI xs i = xs[i.toNat]? := by
  unfold atI ixN
  rw [if_pos h]
  split
  · rfl
  · rename_i h2
    rw [List.getElem?_eq_none (by omega)]
    rfl
@[simp] theorem atI_nat {α : Type} {xs : List α} : atI xs (n : Int) = xs[n]? := by rw [atI_nn (by omega)]; simp
@[simp] theorem atI_0 {α : Type} {xs : List α} : atI xs 0 = xs[0]? := atI_nn (by omega)
@[simp] theorem atI_1 {α : Type} {xs : List α} : atI xs 1 = xs[1]? := atI_nn (by omega)
@[simp] theorem atI_2 {α : Type} {xs : List α} : atI xs 2 = xs[2]? := atI_nn (by omega)
@[simp] theorem atI_3 {α : Type} {xs : List α} : atI xs 3 = xs[3]? := atI_nn (by omega)
@[simp] theorem atI_last {α : Type} {xs : List α} : atI xs (-1) = xs[xs.length - 1]? := by
  unfold atI ixN
  rw [if_neg (by omega)]
  by_cases h : xs = []
  · subst h; rfl
  · have : 0 < xs.length := List.length_pos_iff.mpr h
    rw [if_pos (by omega)]
    show xs[(-1 + (xs.length : Int)).toNat]? = _
    congr 1
    omega
theorem set_loc {v : D} (h : S[l]? = some (.lst ds)) {k : Nat} (hk : ixN ds.length i = some k) : setD (.loc l) (.int i) v S = .ok () (S.set l (.lst (ds.set k v))) := by simp [setD, h, hk]
@[simp] theorem e_len_str : lenD [.str x] S = if x.length ≤ sizeLine then .ok (.int x.length) S else .stuck := (rfl)
@[simp] theorem e_len_tup : lenD [.tup ds] S = .ok (.int ds.length) S := (rfl)
@[simp] theorem e_len_ktp : lenD [.ktp ds] S = .ok (.int ds.length) S := (rfl)
@[simp] theorem e_len_lst : lenD [.lst ds] S = .ok (.int ds.length) S := (rfl)
@[simp] theorem e_len_frz : lenD [.frz ds] S = .ok (.int ds.length) S := (rfl)
theorem e_len_loc (h : S[l]? = some (.lst ds)) : lenD [.loc l] S = .ok (.int ds.length) S := by simp [lenD, seqOf, rdL, exL, h]
@[simp] theorem e_abs : absD [.int i] S = .ok (.int (if i < 0 then -i else i)) S := (rfl)
@[simp] theorem e_max2 : max2D [.int i, .int j] S = .ok (.int (if j > i then j else i)) S := (rfl)
@[simp] theorem e_min2 : min2D [.int i, .int j] S = .ok (.int (if j < i then j else i)) S := (rfl)
@[simp] theorem e_int : intD [.int i] S = .ok (.int i) S := (rfl)
@[simp] theorem e_intB (t : Bool) : intD [.bl t] S = .ok (.int (if t = true then 1 else 0)) S := (rfl)
@[simp] theorem e_tuple_lst : tupleD [.lst ds] S = .ok (.tup ds) S := (rfl)
@[simp] theorem e_tuple_tup : tupleD [.tup ds] S = .ok (.tup ds) S := (rfl)
@[simp] theorem e_tuple_frz : tupleD [.frz ds] S = .ok (.tup ds) S := (rfl)
theorem e_tuple_loc (h : S[l]? = some (.lst ds)) : tupleD [.loc l] S = .ok (.tup ds) S := by simp [tupleD, rdL, exL, h]
theorem e_append (h : S[l]? = some (.lst ds)) (hs : ds.length < sizeLine) : appendD (.loc l) [d] S = .ok .non (S.set l (.lst (ds ++ [d]))) := by simp [appendD, mutL, h, hs]
@[simp] theorem tyOk_str : tyOk "str" S (.str x) = true := (rfl)
@[simp] theorem tyOk_lst : tyOk "list" S (.lst ds) = true := (rfl)
@[simp] theorem tyOk_frz : tyOk "list" S (.frz ds) = true := (rfl)
theorem tyOk_loc (h : S[l]? = some (.lst ds)) : tyOk "list" S (.loc l) = true := by simp [tyOk, h]
@[simp] theorem e_rev_str : revD (.str x) S = if x.length ≤ sizeLine then .ok (.str (revS x)) S else .stuck := (rfl)
@[simp] theorem e_rev_lst : revD (.lst ds) S = .ok (.lst ds.reverse) S := (rfl)
@[simp] theorem e_rev_frz : revD (.frz ds) S = .ok (.lst ds.reverse) S := (rfl)
end
/-! ### the same at mutable lists: by what stands in the store -/
section
variable {S : Store} {l : Nat} {i : Int} {ds : List D} {d v : D}
def ixO (l : Nat) (i : Int) (S : Store) : Option Ob → Res D
  | some (.lst ds) => atK (atI ds i) S
  | _ => ixD (.loc l) (.int i) S
@[simp] theorem ixO_lst : ixO l i S (some (.lst ds)) = atK (atI ds i) S := (rfl)
@[simp] theorem e_ixO : ixD (.loc l) (.int i) S = ixO l i S S[l]? := by
  unfold ixO
  split
  · rename_i ds h; exact e_ix_loc h
  · rfl
def lenO (l : Nat) (S : Store) : Option Ob → Res D
  | some (.lst ds) => .ok (.int ds.length) S
  | _ => lenD [.loc l] S
@[simp] theorem lenO_lst : lenO l S (some (.lst ds)) = .ok (.int ds.length) S := (rfl)
@[simp] theorem e_lenO : lenD [.loc l] S = lenO l S S[l]? := by
  unfold lenO
  split
  · rename_i ds h; exact e_len_loc h
  · rfl
def srcO (l : Nat) (S : Store) : Option Ob → Option Src
  | some (.lst ds) => some ⟨ds, [(l, .lst ds)]⟩
  | _ => seqSrc (.loc l) S
@[simp] theorem srcO_lst : srcO l S (some (.lst ds)) = some ⟨ds, [(l, .lst ds)]⟩ := (rfl)
@[simp] theorem e_srcO : seqSrc (.loc l) S = srcO l S S[l]? := by
  unfold srcO
  split
  · rename_i ds h; exact seqSrc_loc h
  · rfl
def setO (l : Nat) (i : Int) (v : D) (S : Store) : Option Ob → Res Unit
  | some (.lst ds) => match ixN ds.length i with
    | some k => .ok () (S.set l (.lst (ds.set k v)))
    | none => .stuck
  | _ => setD (.loc l) (.int i) v S
def setN (l : Nat) (ds : List D) (v : D) (S : Store) : Option Nat → Res Unit
  | some k => .ok () (S.set l (.lst (ds.set k v)))
  | none => .stuck
@[simp] theorem setO_lst : setO l i v S (some (.lst ds)) = setN l ds v S (ixN ds.length i) := by
  unfold setO setN; rfl
@[simp] theorem setN_some {k : Nat} : setN l ds v S (some k) = .ok () (S.set l (.lst (ds.set k v))) := (rfl)
@[simp] theorem e_setO : setD (.loc l) (.int i) v S = setO l i v S S[l]? := by
  unfold setO
  split
  · rename_i ds h; simp only [setD, h] <;> rfl
  · rfl
def appO (l : Nat) (d : D) (S : Store) : Option Ob → Res D
  | some (.lst ds) => if ds.length < sizeLine then .ok .non (S.set l (.lst (ds ++ [d]))) else .stuck
  | _ => appendD (.loc l) [d] S
@[simp] theorem appO_lst : appO l d S (some (.lst ds)) = if ds.length < sizeLine then .ok .non (S.set l (.lst (ds ++ [d]))) else .stuck := (rfl)
@[simp] theorem e_appO : appendD (.loc l) [d] S = appO l d S S[l]? := by
  unfold appO
  split
  · rename_i ds h; simp [appendD, mutL, h]
  · rfl
def popO (l : Nat) (i : Int) (S : Store) : Option Ob → Res D
  | some (.lst ds) => if -(2 ^ 63) ≤ i ∧ i < 2 ^ 63 then (match seqIndex? i ds.length with
    | some k => match ds[k]? with
      | some e => .ok e (S.set l (.lst (ds.eraseIdx k)))
      | none => .stuck
    | none => .stuck) else .stuck
  | _ => popD (.loc l) [.int i] S
theorem popO_nat {k : Nat} (hd : ds[k]? = some d) (hb : k < 2 ^ 62) : popO l k S (some (.lst ds)) = .ok d (S.set l (.lst (ds.eraseIdx k))) := by
  have hk : k < ds.length := (List.getElem?_eq_some_iff.mp hd).1
  have h1 : seqIndex? (k : Int) ds.length = some k := by unfold seqIndex?; simp only [if_neg (show ¬ (k : Int) < 0 by omega)]; simp [hk]
  simp only [popO, h1, hd]
  rw [if_pos (by omega)]
@[simp] theorem popO_0 : popO l 0 S (some (.lst (d :: ds))) = .ok d (S.set l (.lst ds)) := popO_nat (k := 0) rfl (by omega)
@[simp] theorem e_popO : popD (.loc l) [.int i] S = popO l i S S[l]? := by
  unfold popO
  split
  · rename_i ds h; simp only [popD, mutL, h] <;> rfl
  · rfl
def tyO (T : String) (l : Nat) (S : Store) : Option Ob → Bool
  | some (.lst _) => T == "list"
  | _ => tyOk T S (.loc l)
@[simp] theorem tyO_lst {T : String} : tyO T l S (some (.lst ds)) = (T == "list") := (rfl)
@[simp] theorem e_tyO {T : String} : tyOk T S (.loc l) = tyO T l S S[l]? := by
  unfold tyO
  split
  · rename_i ds h; simp [tyOk, h]
  · rfl
def tupO (l : Nat) (S : Store) : Option Ob → Res D
  | some (.lst ds) => .ok (.tup ds) S
  | _ => tupleD [.loc l] S
@[simp] theorem tupO_lst : tupO l S (some (.lst ds)) = .ok (.tup ds) S := (rfl)
@[simp] theorem e_tupO : tupleD [.loc l] S = tupO l S S[l]? := by
  unfold tupO
  split
  · rename_i ds h; exact e_tuple_loc h
  · rfl
def pyO (l : Nat) (S : Store) : Option Ob → Option PyData
  | some (.lst ds) => (toPys ds).map .list
  | _ => pyS S (.loc l)
@[simp] theorem pyO_lst : pyO l S (some (.lst ds)) = (toPys ds).map .list := (rfl)
@[simp] theorem e_pyO : pyS S (.loc l) = pyO l S S[l]? := by
  unfold pyO
  split
  · rename_i ds h; simp [pyS, h]
  · rfl
@[simp] theorem pyS_lst : pyS S (.lst ds) = (toPys ds).map .list := (rfl)
@[simp] theorem pyS_frz : pyS S (.frz ds) = (toPys ds).map .list := (rfl)
@[simp] theorem pyS_tup : pyS S (.tup ds) = (toPys ds).map .tuple := (rfl)
@[simp] theorem pyS_int : pyS S (.int i) = some (.int i) := (rfl)
@[simp] theorem pyS_str {x : Str} : pyS S (.str x) = some (.str x) := (rfl)
@[simp] theorem pyS_non : pyS S .non = some .none := (rfl)
@[simp] theorem pyS_bl {b : Bool} : pyS S (.bl b) = some (.bool b) := (rfl)
/-- comparing two whose data are known -/
def eqO (n : Bool) (S : Store) : Option PyData → Option PyData → Res D
  | some p, some q => if SeqAt.shaped p = true ∧ SeqAt.shaped q = true then .ok (.bl (xor n (PyData.eqv p q))) S else .stuck
  | _, _ => .stuck
theorem e_eqO {n : Bool} {d e : D} : eqD n d e S = eqO n S (pyS S d) (pyS S e) := by
  unfold eqD eqO
  split <;> simp_all
@[simp] theorem eqO_some {n : Bool} {p q : PyData} (hp : SeqAt.shaped p = true) (hq : SeqAt.shaped q = true) : eqO n S (some p) (some q) = .ok (.bl (xor n (PyData.eqv p q))) S := if_pos ⟨hp, hq⟩
theorem toPys_ints : ∀ g : List Int, toPys (g.map D.int) = some (g.map PyData.int)
  | [] => rfl
  | a :: g => by simp [toPys, toPy, toPys_ints g]
theorem depth_ints : ∀ g : List Int, PyData.depthAll (g.map PyData.int) = 0
  | [] => rfl
  | a :: g => by simp [PyData.depthAll, PyData.depth, depth_ints g]
end
/-! ### what a def gives back; the bounds of arithmetic -/
def retK (r : Res Fl) : Res D := match r with
  | .ok (.rt d) S' => .ok d S'
  | .ok (.nx _) S' => .ok .non S'
  | .ok (.ex c fs _) S' => .exc c fs S'
  | _ => .stuck
theorem den_eq (n : Nat) (m : DSt → Store → Res Fl) (ds : List D) (S : Store) : denOf n m ds S = retK (m (ds.map some ++ List.replicate (n - ds.length) none) S) := (rfl)
@[simp] theorem retK_rt (d : D) (S : Store) : retK (.ok (.rt d) S) = .ok d S := (rfl)
@[simp] theorem retK_nx (σ : DSt) (S : Store) : retK (.ok (.nx σ) S) = .ok .non S := (rfl)
@[simp] theorem retK_ex (c : Str) (fs : List (Str × D)) (σ : DSt) (S : Store) : retK (.ok (.ex c fs σ) S) = .exc c fs S := (rfl)
@[simp] theorem divOk {i j : Int} (h : 0 < j) (h2 : j < 18446744073709551616) : CDivW i j := by
  refine ⟨h, ?_⟩
  have : j.natAbs ≠ 0 := by omega
  have h3 : j.natAbs.log2 < 64 := (Nat.log2_lt this).mpr (by omega)
  omega
@[simp] theorem mulOkR {i j : Int} (h : -(2 ^ 64) < j) (h2 : j < 2 ^ 64) : (CMul i j ∨ CMulW i j) = True := eq_true (.inl (.inr ⟨h, h2⟩))
@[simp] theorem mulOkL {i j : Int} (h : -(2 ^ 64) < i) (h2 : i < 2 ^ 64) : (CMul i j ∨ CMulW i j) = True := eq_true (.inl (.inl ⟨h, h2⟩))
@[simp] theorem pow1018 : CPowX 10 18 = True := eq_true (by decide)
@[simp] theorem size_eq : sizeLine = 16777216 := by decide
theorem e_mT (m : DSt → Store → Res D) (σ : DSt) (S : Store) : mT m σ S = (m σ S).bind fun d S1 => truK d S1 := by
  unfold mT
  congr 1
@[simp] theorem e_mT' (m : DSt → Store → Res D) (σ : DSt) (S : Store) : mT m σ S = (m σ S).bind fun d S1 => truK d S1 := e_mT m σ S
/-! ### Ok: it comes to an end well -/
def Ok {α : Type} (r : Res α) (P : α → Store → Prop) : Prop := ∃ a S, r = .ok a S ∧ P a S
@[simp] theorem Ok_ok {α : Type} {a : α} {S : Store} {P : α → Store → Prop} : Ok (.ok a S) P ↔ P a S := ⟨fun ⟨_, _, e, h⟩ => by cases e; exact h, fun h => ⟨_, _, rfl, h⟩⟩
theorem Ok.imp {α : Type} {r : Res α} {P Q : α → Store → Prop} (h : Ok r P) (k : ∀ a S, P a S → Q a S) : Ok r Q := let ⟨a, S, e, p⟩ := h; ⟨a, S, e, k a S p⟩
theorem Ok.bind {α β : Type} {r : Res α} {f : α → Store → Res β} {P : α → Store → Prop} {Q : β → Store → Prop} (h : Ok r P) (k : ∀ a S, P a S → Ok (f a S) Q) : Ok (r.bind f) Q := by
  obtain ⟨a, S, rfl, p⟩ := h; exact k a S p
theorem Ok.bindG {α β : Type} {r : Res α} {f : α → Store → Res β} {P : α → Store → Prop} {Q : β → Store → Prop} (h : Ok r P) (k : ∀ a S, P a S → Ok (f a S) Q) : Ok (L3.bindG r f) Q := by
  obtain ⟨a, S, rfl, p⟩ := h; exact k a S p
theorem Ok.liftE {α : Type} {r : Res α} {σ : DSt} {f : α → Store → Res Fl} {P : α → Store → Prop} {Q : Fl → Store → Prop} (h : Ok r P) (k : ∀ a S, P a S → Ok (f a S) Q) : Ok (L3.liftE r σ f) Q := by
  obtain ⟨a, S, rfl, p⟩ := h; exact k a S p
theorem Ok.noX {r : Res D} {P : D → Store → Prop} (h : Ok r P) : Ok (L3.noX r) P := by
  obtain ⟨a, S, rfl, p⟩ := h; exact ⟨a, S, rfl, p⟩
/-! ### loops -/
/-- what a turn of a loop leads to -/
def Turn (N : DSt → Store → Prop) (B : DSt → Store → Prop) (R : D → Store → Prop) : Fl → Store → Prop
  | .nx σ, S => N σ S
  | .ct σ, S => N σ S
  | .bk σ, S => B σ S
  | .rt d, S => R d S
  | _, _ => False
/-- what a loop leads to -/
def Done (N : DSt → Store → Prop) (R : D → Store → Prop) : Fl → Store → Prop
  | .nx σ, S => N σ S
  | .rt d, S => R d S
  | _, _ => False
@[simp] theorem Turn_nx {N B : DSt → Store → Prop} {R : D → Store → Prop} {σ : DSt} {S : Store} : Turn N B R (.nx σ) S ↔ N σ S := (Iff.rfl)
@[simp] theorem Turn_ct {N B : DSt → Store → Prop} {R : D → Store → Prop} {σ : DSt} {S : Store} : Turn N B R (.ct σ) S ↔ N σ S := (Iff.rfl)
@[simp] theorem Turn_bk {N B : DSt → Store → Prop} {R : D → Store → Prop} {σ : DSt} {S : Store} : Turn N B R (.bk σ) S ↔ B σ S := (Iff.rfl)
@[simp] theorem Turn_rt {N B : DSt → Store → Prop} {R : D → Store → Prop} {d : D} {S : Store} : Turn N B R (.rt d) S ↔ R d S := (Iff.rfl)
@[simp] theorem Done_nx {N : DSt → Store → Prop} {R : D → Store → Prop} {σ : DSt} {S : Store} : Done N R (.nx σ) S ↔ N σ S := (Iff.rfl)
@[simp] theorem Done_rt {N : DSt → Store → Prop} {R : D → Store → Prop} {d : D} {S : Store} : Done N R (.rt d) S ↔ R d S := (Iff.rfl)
theorem forGo_ok {gd : List (Nat × Ob)} {g : D → DSt → Store → Res DSt} {b : DSt → Store → Res Fl} (I : Nat → DSt → Store → Prop) (N : DSt → Store → Prop) (R : D → Store → Prop) : ∀ (ds : List D) (k : Nat) {σ : DSt} {S : Store}, I k σ S →
    (∀ j σ S, I j σ S → gOk gd S) →
    (∀ j d σ S, ds[j]? = some d → I (k + j) σ S → Ok (bindG (g d σ S) b) (Turn (I (k + j + 1)) N R)) →
    (∀ σ S, I (k + ds.length) σ S → N σ S) → Ok (forGo gd g b ds σ S) (Done N R)
  | [], k, σ, S, h, hg, _, he => by
    simp only [forGo, if_pos (hg _ _ _ h), Ok_ok]
    exact he _ _ h
  | d :: ds, k, σ, S, h, hg, hs, he => by
    simp only [forGo, if_pos (hg _ _ _ h)]
    have h1 := hs 0 d σ S rfl h
    cases hgd : g d σ S with
    | ok σ1 S1 =>
      rw [hgd] at h1
      simp only [bindG_ok] at h1 ⊢
      obtain ⟨fl, S2, e, t⟩ := h1
      rw [e]
      have hrec : ∀ σ2 : DSt, I (k + 1) σ2 S2 → Ok (forGo gd g b ds σ2 S2) (Done N R) := fun σ2 t => forGo_ok I N R ds (k + 1) t hg
        (fun j d σ S hd hi => by
          have := hs (j + 1) d σ S (by simpa using hd) (by rw [show k + (j + 1) = k + 1 + j by omega]; exact hi)
          rwa [show k + (j + 1) + 1 = k + 1 + j + 1 by omega] at this)
        (fun σ S hi => he σ S (by rw [List.length_cons, show k + (ds.length + 1) = k + 1 + ds.length by omega]; exact hi))
      cases fl with
      | nx σ2 => exact hrec σ2 t
      | ct σ2 => exact hrec σ2 t
      | bk σ2 => exact ⟨_, _, rfl, t⟩
      | rt d => exact ⟨_, _, rfl, t⟩
      | ex c fs σ2 => exact t.elim
    | exc c fs S1 => rw [hgd] at h1; obtain ⟨_, _, e, _⟩ := h1; cases e
    | stuck => rw [hgd] at h1; obtain ⟨_, _, e, _⟩ := h1; cases e
theorem lcGo_ok {gd : List (Nat × Ob)} {g : D → DSt → Store → Res DSt} {t : DSt → Store → Res Bool} {e : DSt → Store → Res D} {σ : DSt} (I : Nat → Store → List D → Prop) : ∀ (ds : List D) (k : Nat) {S : Store} (acc : List D), I k S acc →
    (∀ j S acc, I j S acc → gOk gd S) →
    (∀ j d S acc, ds[j]? = some d → I (k + j) S acc → Ok (bindG (g d σ S) fun σ1 S1 => bindG (t σ1 S1) fun c S2 => if c = true then bindG (e σ1 S2) fun y S3 => .ok (some y) S3 else .ok none S2)
      fun y S3 => I (k + j + 1) S3 (acc ++ y.toList)) →
    Ok (lcGo gd g t e σ ds S) fun ys S' => I (k + ds.length) S' (acc ++ ys)
  | [], k, S, acc, h, hg, _ => by
    simp only [lcGo, if_pos (hg _ _ _ h), Ok_ok, List.append_nil]
    exact h
  | d :: ds, k, S, acc, h, hg, hs => by
    simp only [lcGo, if_pos (hg _ _ _ h)]
    have h1 := hs 0 d S acc rfl h
    have hrec : ∀ (y : List D) (S2 : Store), I (k + 1) S2 (acc ++ y) → Ok (lcGo gd g t e σ ds S2) fun ys S' => I (k + (ds.length + 1)) S' (acc ++ y ++ ys) := fun y S2 hi => by
      have := lcGo_ok I ds (k + 1) (acc ++ y) hi hg (fun j d S acc hd hi => by
        have := hs (j + 1) d S acc (by simpa using hd) (by rw [show k + (j + 1) = k + 1 + j by omega]; exact hi)
        rwa [show k + (j + 1) + 1 = k + 1 + j + 1 by omega] at this)
      rwa [show k + 1 + ds.length = k + (ds.length + 1) by omega] at this
    cases hgd : g d σ S with
    | ok σ1 S1 =>
      rw [hgd] at h1
      simp only [bindG_ok] at h1 ⊢
      cases ht : t σ1 S1 with
      | ok c S2 =>
        rw [ht] at h1
        simp only [bindG_ok] at h1 ⊢
        by_cases hc : c = true
        · rw [if_pos hc] at h1 ⊢
          cases he : e σ1 S2 with
          | ok y S3 =>
            rw [he] at h1
            simp only [bindG_ok, Ok_ok, Option.toList_some] at h1 ⊢
            exact Ok.bindG (hrec [y] S3 h1) fun ys S4 h4 => ⟨_, _, rfl, by simpa using h4⟩
          | exc c fs S1 => rw [he] at h1; obtain ⟨_, _, e, _⟩ := h1; cases e
          | stuck => rw [he] at h1; obtain ⟨_, _, e, _⟩ := h1; cases e
        · rw [if_neg hc] at h1 ⊢
          simp only [Ok_ok, Option.toList_none] at h1
          have := hrec [] S2 h1
          rw [List.append_nil] at this
          exact this
      | exc c fs S1 => rw [ht] at h1; obtain ⟨_, _, e, _⟩ := h1; cases e
      | stuck => rw [ht] at h1; obtain ⟨_, _, e, _⟩ := h1; cases e
    | exc c fs S1 => rw [hgd] at h1; obtain ⟨_, _, e, _⟩ := h1; cases e
    | stuck => rw [hgd] at h1; obtain ⟨_, _, e, _⟩ := h1; cases e
/-- one turn of while -/
theorem mWhile_false {c : DSt → Store → Res Bool} {b : DSt → Store → Res Fl} {σ : DSt} {S S1 : Store} (h : c σ S = .ok false S1) : mWhile c b σ S = .ok (.nx σ) S1 := mWhile_of (n := 1) (by simp only [whileN, h])
theorem mWhile_true {c : DSt → Store → Res Bool} {b : DSt → Store → Res Fl} {σ σ2 : DSt} {S S1 S2 : Store} (h : c σ S = .ok true S1) (hb : b σ S1 = .ok (.nx σ2) S2) : mWhile c b σ S = mWhile c b σ2 S2 := by
  by_cases hx : ∃ n r, whileN c b n σ2 S2 = some r
  · obtain ⟨n, r, hn⟩ := hx
    rw [mWhile_of hn]
    exact mWhile_of (n := n + 1) (by simp only [whileN, h, hb]; exact hn)
  · have hy : ¬ ∃ n r, whileN c b n σ S = some r := by
      rintro ⟨n, r, hn⟩
      cases n with
      | zero => simp [whileN] at hn
      | succ n =>
        simp only [whileN, h, hb] at hn
        exact hx ⟨n, r, hn⟩
    unfold mWhile
    rw [dif_neg hx, dif_neg hy]
/-- after a loop: where it ended well, what comes next -/
theorem Ok.then {r : Res Fl} {f : DSt → Store → Res Fl} {N N2 : DSt → Store → Prop} {R : D → Store → Prop} (h : Ok r (Done N R)) (k : ∀ σ S, N σ S → Ok (f σ S) (Done N2 R)) : Ok (thenS r f) (Done N2 R) := by
  obtain ⟨fl, S, rfl, h⟩ := h
  cases fl with
  | rt d => exact ⟨_, S, rfl, h⟩
  | nx σ => exact k σ S h
  | _ => exact h.elim
/-- a loop over things that stay (no break) and what comes next -/
theorem Ok.loop {g : D → DSt → Store → Res DSt} {b : DSt → Store → Res Fl} {ds : List D} {σ : DSt} {S : Store} {f : DSt → Store → Res Fl} {N2 : DSt → Store → Prop} {R : D → Store → Prop} (I : Nat → DSt → Store → Prop) (h0 : I 0 σ S)
    (hs : ∀ j d σ S, ds[j]? = some d → I j σ S → Ok (L3.bindG (g d σ S) b) (Turn (I (j + 1)) (fun _ _ => False) R)) (k : ∀ σ S, I ds.length σ S → Ok (f σ S) (Done N2 R)) : Ok (thenS (forGo [] g b ds σ S) f) (Done N2 R) := by
  refine Ok.then (N := I ds.length) (R := R) (forGo_ok (gd := []) (fun j σ S => I j σ S) (fun σ S => I ds.length σ S) R ds 0 h0 (fun _ _ _ _ => fun _ h => (List.not_mem_nil h).elim) (fun j d σ S hd hi => ?_) (fun σ S hi => by rwa [Nat.zero_add] at hi)) k
  rw [Nat.zero_add] at hi ⊢
  refine (hs j d σ S hd hi).imp fun fl S' t => ?_
  cases fl with
  | bk σ => exact t.elim
  | _ => exact t
theorem Ok.ret {r : Res Fl} {P : D → Store → Prop} {N : DSt → Store → Prop} (h : Ok r (Done N P)) (hn : ∀ σ S, N σ S → P .non S) : Ok (retK r) P := by
  obtain ⟨fl, S, rfl, h⟩ := h
  cases fl with
  | rt d => exact ⟨d, S, rfl, h⟩
  | nx σ => exact ⟨_, S, rfl, hn σ S h⟩
  | _ => exact h.elim
end L3
namespace L3
open PySem PySem.Spec L2
/-! ### texts by their signs -/
def tx (l : List Nat) : Str := ⟨l.toArray⟩
section
variable {a b l : List Nat} {c : Nat}
@[simp] theorem tx_cps : (tx l).cps.toList = l := (rfl)
@[simp] theorem tx_len : (tx l).length = l.length := by simp [tx, Str.length]
theorem tx_cat : tx a ++ tx b = tx (a ++ b) := SX.S_cat a b
theorem tx_inj (h : tx a = tx b) : a = b := SX.S_inj h
theorem tx_one : (⟨#[c]⟩ : Str) = tx [c] := rfl
@[simp] theorem signsOf_tx : signsOf (tx l) = l.map chr := (rfl)
@[simp] theorem revS_tx : revS (tx l) = tx l.reverse := (rfl)
theorem repS_one (n : Nat) : repS (tx [c]) n = tx (List.replicate n c) := by
  unfold repS tx
  congr 1
  congr 1
  show (List.replicate n [c]).flatten = _
  simp
theorem mulSK {S : Store} {n : Nat} (h : l.length * n ≤ 16777216) (h2 : n < 2 ^ 62) : mulX (.str (tx l)) (.int n) S = .ok (.str (repS (tx l) n)) S := by
  have : -(2 ^ 63 : Int) ≤ (n : Int) ∧ (n : Int) < 2 ^ 63 ∧ (tx l).length * (n : Int).toNat ≤ 16777216 := ⟨by omega, by omega, by rw [tx_len, Int.toNat_natCast]; exact h⟩
  rw [e_mulS, if_pos this]
  rfl
theorem mulCK {S : Store} {n : Nat} (h : n ≤ 16777216) : mulX (chr c) (.int n) S = .ok (.str (tx (List.replicate n c))) S := by
  rw [← repS_one]
  exact mulSK (l := [c]) (by simpa using h) (by omega)
theorem addTK {S : Store} (h : a.length + b.length ≤ 16777216) : addD (.str (tx a)) (.str (tx b)) S = .ok (.str (tx (a ++ b))) S := by
  have : (tx a).length + (tx b).length ≤ sizeLine := by simpa using h
  rw [e_addS, if_pos this, tx_cat]
theorem joinL_one : ∀ l : List Nat, TL.joinL [] (l.map fun c => [c]) = l
  | [] => rfl
  | [c] => rfl
  | c :: d :: l => by
    show [c] ++ ([] ++ TL.joinL [] (([d] : List Nat) :: l.map fun c => [c])) = _
    have := joinL_one (d :: l)
    rw [List.map_cons] at this
    rw [this]
    rfl
theorem strsOf_chr : ∀ l : List Nat, strsOf (l.map chr) = some (l.map fun c => tx [c])
  | [] => rfl
  | c :: l => by simp [strsOf, strsOf_chr l, chr, tx_one]
theorem sum_ones : ∀ l : List Nat, ((l.map fun c => tx [c]).map (·.length)).sum = l.length
  | [] => rfl
  | c :: l => by
    have := sum_ones l
    simp only [List.map_cons, List.sum_cons, this, tx_len, List.length_cons, List.length_nil]
    omega
theorem joinK {S : Store} (h : l.length ≤ 16777216) : joinD (.str (tx [])) [.lst (l.map chr)] S = .ok (.str (tx l)) S := by
  have h1 : seqOf S (.lst (l.map chr)) = some (l.map chr) := rfl
  simp only [joinD, h1, strsOf_chr]
  rw [sum_ones l]
  simp only [tx_len, List.length_nil, Nat.mul_zero, Nat.add_zero]
  rw [if_pos h]
  have h3 : (l.map fun c => tx [c]) = (l.map fun c => [c]).map SX.S := by simp [Function.comp_def, tx, SX.S]
  rw [h3, show tx ([] : List Nat) = SX.S [] from rfl, SX.join_S, joinL_one]
  rfl
end
/-! ### isinstance with a built-in class -/
section
variable {S : Store} {ds : List D} {x : Str} {i : Int} {b : Bool}
@[simp] theorem isi_tuple_tup : isiD "tuple" (.tup ds) S = .ok (.bl true) S := by
  have h : kitB "tuple" "tuple" = some true := by decide +kernel
  simp only [isiD, tyName, h]
@[simp] theorem isi_tuple_ktp : isiD "tuple" (.ktp ds) S = .ok (.bl true) S := by
  have h : kitB "tuple" "tuple" = some true := by decide +kernel
  simp [isiD, tyName, h]
@[simp] theorem isi_tuple_str : isiD "tuple" (.str x) S = .ok (.bl false) S := by
  have h : kitB "str" "tuple" = some false := by decide +kernel
  simp only [isiD, tyName, h]
@[simp] theorem isi_tuple_int : isiD "tuple" (.int i) S = .ok (.bl false) S := by
  have h : kitB "int" "tuple" = some false := by decide +kernel
  simp only [isiD, tyName, h]
@[simp] theorem isi_tuple_bl : isiD "tuple" (.bl b) S = .ok (.bl false) S := by
  have h : kitB "bool" "tuple" = some false := by decide +kernel
  simp only [isiD, tyName, h]
@[simp] theorem isi_tuple_lst : isiD "tuple" (.lst ds) S = .ok (.bl false) S := by
  have h : kitB "list" "tuple" = some false := by decide +kernel
  simp only [isiD, tyName, h]
@[simp] theorem isi_tuple_non : isiD "tuple" .non S = .ok (.bl false) S := by
  have h : kitB "NoneType" "tuple" = some false := by decide +kernel
  simp only [isiD, tyName, h]
@[simp] theorem isi_str_tup : isiD "str" (.tup ds) S = .ok (.bl false) S := by
  have h : kitB "tuple" "str" = some false := by decide +kernel
  simp only [isiD, tyName, h]
@[simp] theorem isi_str_str : isiD "str" (.str x) S = .ok (.bl true) S := by
  have h : kitB "str" "str" = some true := by decide +kernel
  simp only [isiD, tyName, h]
@[simp] theorem isi_str_int : isiD "str" (.int i) S = .ok (.bl false) S := by
  have h : kitB "int" "str" = some false := by decide +kernel
  simp only [isiD, tyName, h]
@[simp] theorem isi_str_bl : isiD "str" (.bl b) S = .ok (.bl false) S := by
  have h : kitB "bool" "str" = some false := by decide +kernel
  simp only [isiD, tyName, h]
@[simp] theorem isi_str_lst : isiD "str" (.lst ds) S = .ok (.bl false) S := by
  have h : kitB "list" "str" = some false := by decide +kernel
  simp only [isiD, tyName, h]
@[simp] theorem isi_str_non : isiD "str" .non S = .ok (.bl false) S := by
  have h : kitB "NoneType" "str" = some false := by decide +kernel
  simp only [isiD, tyName, h]
@[simp] theorem isi_int_tup : isiD "int" (.tup ds) S = .ok (.bl false) S := by
  have h : kitB "tuple" "int" = some false := by decide +kernel
  simp only [isiD, tyName, h]
@[simp] theorem isi_int_str : isiD "int" (.str x) S = .ok (.bl false) S := by
  have h : kitB "str" "int" = some false := by decide +kernel
  simp only [isiD, tyName, h]
@[simp] theorem isi_int_int : isiD "int" (.int i) S = .ok (.bl true) S := by
  have h : kitB "int" "int" = some true := by decide +kernel
  simp only [isiD, tyName, h]
@[simp] theorem isi_int_bl : isiD "int" (.bl b) S = .ok (.bl true) S := by
  have h : kitB "bool" "int" = some true := by decide +kernel
  simp only [isiD, tyName, h]
@[simp] theorem isi_int_lst : isiD "int" (.lst ds) S = .ok (.bl false) S := by
  have h : kitB "list" "int" = some false := by decide +kernel
  simp only [isiD, tyName, h]
@[simp] theorem isi_int_non : isiD "int" .non S = .ok (.bl false) S := by
  have h : kitB "NoneType" "int" = some false := by decide +kernel
  simp only [isiD, tyName, h]
@[simp] theorem isi_bool_tup : isiD "bool" (.tup ds) S = .ok (.bl false) S := by
  have h : kitB "tuple" "bool" = some false := by decide +kernel
  simp only [isiD, tyName, h]
@[simp] theorem isi_bool_str : isiD "bool" (.str x) S = .ok (.bl false) S := by
  have h : kitB "str" "bool" = some false := by decide +kernel
  simp only [isiD, tyName, h]
@[simp] theorem isi_bool_int : isiD "bool" (.int i) S = .ok (.bl false) S := by
  have h : kitB "int" "bool" = some false := by decide +kernel
  simp only [isiD, tyName, h]
@[simp] theorem isi_bool_bl : isiD "bool" (.bl b) S = .ok (.bl true) S := by
  have h : kitB "bool" "bool" = some true := by decide +kernel
  simp only [isiD, tyName, h]
@[simp] theorem isi_bool_lst : isiD "bool" (.lst ds) S = .ok (.bl false) S := by
  have h : kitB "list" "bool" = some false := by decide +kernel
  simp only [isiD, tyName, h]
@[simp] theorem isi_bool_non : isiD "bool" .non S = .ok (.bl false) S := by
  have h : kitB "NoneType" "bool" = some false := by decide +kernel
  simp only [isiD, tyName, h]
@[simp] theorem isi_list_tup : isiD "list" (.tup ds) S = .ok (.bl false) S := by
  have h : kitB "tuple" "list" = some false := by decide +kernel
  simp only [isiD, tyName, h]
@[simp] theorem isi_list_str : isiD "list" (.str x) S = .ok (.bl false) S := by
  have h : kitB "str" "list" = some false := by decide +kernel
  simp only [isiD, tyName, h]
@[simp] theorem isi_list_int : isiD "list" (.int i) S = .ok (.bl false) S := by
  have h : kitB "int" "list" = some false := by decide +kernel
  simp only [isiD, tyName, h]
@[simp] theorem isi_list_bl : isiD "list" (.bl b) S = .ok (.bl false) S := by
  have h : kitB "bool" "list" = some false := by decide +kernel
  simp only [isiD, tyName, h]
@[simp] theorem isi_list_lst : isiD "list" (.lst ds) S = .ok (.bl true) S := by
  have h : kitB "list" "list" = some true := by decide +kernel
  simp only [isiD, tyName, h]
@[simp] theorem isi_list_non : isiD "list" .non S = .ok (.bl false) S := by
  have h : kitB "NoneType" "list" = some false := by decide +kernel
  simp only [isiD, tyName, h]
@[simp] theorem isi_dict_tup : isiD "dict" (.tup ds) S = .ok (.bl false) S := by
  have h : kitB "tuple" "dict" = some false := by decide +kernel
  simp only [isiD, tyName, h]
@[simp] theorem isi_dict_str : isiD "dict" (.str x) S = .ok (.bl false) S := by
  have h : kitB "str" "dict" = some false := by decide +kernel
  simp only [isiD, tyName, h]
@[simp] theorem isi_dict_int : isiD "dict" (.int i) S = .ok (.bl false) S := by
  have h : kitB "int" "dict" = some false := by decide +kernel
  simp only [isiD, tyName, h]
@[simp] theorem isi_dict_bl : isiD "dict" (.bl b) S = .ok (.bl false) S := by
  have h : kitB "bool" "dict" = some false := by decide +kernel
  simp only [isiD, tyName, h]
@[simp] theorem isi_dict_lst : isiD "dict" (.lst ds) S = .ok (.bl false) S := by
  have h : kitB "list" "dict" = some false := by decide +kernel
  simp only [isiD, tyName, h]
@[simp] theorem isi_dict_non : isiD "dict" .non S = .ok (.bl false) S := by
  have h : kitB "NoneType" "dict" = some false := by decide +kernel
  simp only [isiD, tyName, h]
end
@[simp] theorem set_last (r : Store) (x y : Ob) : (r ++ [x]).set r.length y = r ++ [y] := by
  rw [List.set_append_right _ _ (Nat.le_refl _), Nat.sub_self]
  rfl
/-! ### the draws' state: the great cells, the seed -/
def drw (g : List Int) (s : Int) (r : Store) : Store := .lst (g.map D.int) :: .lst [.loc 0, .int s] :: r
section
variable {g : List Int} {s : Int} {r q : Store}
@[simp high] theorem drw0 (g : List Int) (s : Int) (r : Store) : (drw g s r)[0]? = some (.lst (g.map D.int)) := rfl
@[simp high] theorem drw1 (g : List Int) (s : Int) (r : Store) : (drw g s r)[1]? = some (.lst [.loc 0, .int s]) := rfl
@[simp] theorem drw_len : (drw g s r).length = r.length + 2 := (rfl)
@[simp high] theorem drw_get (n : Nat) : (drw g s r)[n + 2]? = r[n]? := (rfl)
@[simp] theorem drw_set (n : Nat) (o : Ob) : (drw g s r).set (n + 2) o = drw g s (r.set n o) := (rfl)
@[simp] theorem drw_app : drw g s r ++ q = drw g s (r ++ q) := (rfl)
end
theorem perm_erase {α : Type} {a l b : List α} {x : α} {k : Nat} (h : (a ++ l).Perm b) (hx : l[k]? = some x) : ((a ++ [x]) ++ l.eraseIdx k).Perm b := by
  refine List.Perm.trans ?_ h
  rw [List.append_assoc]
  refine List.Perm.append_left a ?_
  obtain ⟨hk, e⟩ := List.getElem?_eq_some_iff.mp hx
  rw [← e]
  clear hx h e
  induction l generalizing k with
  | nil => simp at hk
  | cons y l ih => cases k with
    | zero => exact List.Perm.refl _
    | succ k =>
      have := ih (k := k) (by simpa using hk)
      refine (List.Perm.swap _ _ _).trans (List.Perm.cons y ?_)
      simpa using this
end L3
namespace L3
open PySem PySem.Spec L2
/-! ### plain data: texts, whole numbers, none, tuples and lists of such; comparing them -/
mutual
def D.pl (k : Nat) : D → Bool
  | .non => true
  | .int _ => true
  | .str x => x.cps.all (· < 1114112)
  | .tup ds => match k with
    | 0 => false
    | k + 1 => D.pls k ds
  | .lst ds => match k with
    | 0 => false
    | k + 1 => D.pls k ds
  | _ => false
def D.pls (k : Nat) : List D → Bool
  | [] => true
  | d :: ds => D.pl k d && D.pls k ds
end
theorem pls_iff {k : Nat} : ∀ {ds : List D}, D.pls k ds = true ↔ ∀ d ∈ ds, D.pl k d = true
  | [] => by simp [D.pls]
  | d :: ds => by simp [D.pls, pls_iff (ds := ds)]
mutual
theorem pl_py : ∀ (k : Nat) (d : D), D.pl k d = true → ∃ p, toPy d = some p ∧ p.canLay0 = true ∧ p.depth ≤ k
  | k, .non, _ => ⟨_, rfl, rfl, by simp [PyData.depth]⟩
  | k, .int i, _ => ⟨_, rfl, rfl, by simp [PyData.depth]⟩
  | k, .str x, h => ⟨_, rfl, by simp only [PyData.canLay0, PyData.strOk]; simp only [D.pl] at h; exact h, by simp [PyData.depth]⟩
  | 0, .tup ds, h => by simp [D.pl] at h
  | k + 1, .tup ds, h => by
    simp only [D.pl] at h
    obtain ⟨ps, e, h1, h2⟩ := pls_py k ds h
    exact ⟨.tuple ps, by simp [toPy, e], by simpa [PyData.canLay0] using h1, by simp [PyData.depth]; omega⟩
  | 0, .lst ds, h => by simp [D.pl] at h
  | k + 1, .lst ds, h => by
    simp only [D.pl] at h
    obtain ⟨ps, e, h1, h2⟩ := pls_py k ds h
    exact ⟨.list ps, by simp [toPy, e], by simpa [PyData.canLay0] using h1, by simp [PyData.depth]; omega⟩
  | _, .bl _, h => by simp [D.pl] at h
  | _, .ktp _, h => by simp [D.pl] at h
  | _, .frz _, h => by simp [D.pl] at h
  | _, .loc _, h => by simp [D.pl] at h
theorem pls_py : ∀ (k : Nat) (ds : List D), D.pls k ds = true → ∃ ps, toPys ds = some ps ∧ PyData.canLayAll0 ps = true ∧ PyData.depthAll ps ≤ k
  | k, [], _ => ⟨[], rfl, rfl, by simp [PyData.depthAll]⟩
  | k, d :: ds, h => by
    simp only [D.pls, Bool.and_eq_true] at h
    obtain ⟨p, e1, a1, b1⟩ := pl_py k d h.1
    obtain ⟨ps, e2, a2, b2⟩ := pls_py k ds h.2
    exact ⟨p :: ps, by simp [toPys, e1, e2], by simp [PyData.canLayAll0, a1, a2], by simp [PyData.depthAll]; omega⟩
end
mutual
theorem eqv_pl : ∀ (k m : Nat) (d e : D) (p q : PyData), D.pl k d = true → D.pl m e = true → toPy d = some p → toPy e = some q → (PyData.eqv p q = true ↔ d = e)
  | k, m, d, e, p, q, h1, h2, e1, e2 => by
    cases d with
    | tup ds => cases e with
      | tup es => cases k with
        | zero => simp [D.pl] at h1
        | succ k => cases m with
          | zero => simp [D.pl] at h2
          | succ m =>
            simp only [D.pl] at h1 h2
            simp only [toPy, Option.map_eq_some_iff] at e1 e2
            obtain ⟨ps, e1, rfl⟩ := e1
            obtain ⟨qs, e2, rfl⟩ := e2
            have := eqv_pls k m ds es ps qs h1 h2 e1 e2
            simp [PyData.eqv, this]
      | _ => simp [toPy, Option.map_eq_some_iff] at e1 e2 <;> (try obtain ⟨ps, _, rfl⟩ := e1) <;> (try obtain ⟨qs, _, rfl⟩ := e2) <;> (try subst e2) <;> simp_all [PyData.eqv, D.pl]
    | lst ds => cases e with
      | lst es => cases k with
        | zero => simp [D.pl] at h1
        | succ k => cases m with
          | zero => simp [D.pl] at h2
          | succ m =>
            simp only [D.pl] at h1 h2
            simp only [toPy, Option.map_eq_some_iff] at e1 e2
            obtain ⟨ps, e1, rfl⟩ := e1
            obtain ⟨qs, e2, rfl⟩ := e2
            have := eqv_pls k m ds es ps qs h1 h2 e1 e2
            simp [PyData.eqv, this]
      | _ => simp [toPy, Option.map_eq_some_iff] at e1 e2 <;> (try obtain ⟨ps, _, rfl⟩ := e1) <;> (try obtain ⟨qs, _, rfl⟩ := e2) <;> (try subst e2) <;> simp_all [PyData.eqv, D.pl]
    | int i => cases e <;> simp [toPy, Option.map_eq_some_iff] at e1 e2 <;> subst e1 <;> (try obtain ⟨qs, _, rfl⟩ := e2) <;> (try subst e2) <;> simp_all [PyData.eqv, D.pl]
    | str i => cases e <;> simp [toPy, Option.map_eq_some_iff] at e1 e2 <;> subst e1 <;> (try obtain ⟨qs, _, rfl⟩ := e2) <;> (try subst e2) <;> simp_all [PyData.eqv, D.pl]
    | non => cases e <;> simp [toPy, Option.map_eq_some_iff] at e1 e2 <;> subst e1 <;> (try obtain ⟨qs, _, rfl⟩ := e2) <;> (try subst e2) <;> simp_all [PyData.eqv, D.pl]
    | _ => simp [D.pl] at h1
theorem eqv_pls : ∀ (k m : Nat) (ds es : List D) (ps qs : List PyData), D.pls k ds = true → D.pls m es = true → toPys ds = some ps → toPys es = some qs → (PyData.eqvAll ps qs = true ↔ ds = es)
  | k, m, [], [], ps, qs, _, _, e1, e2 => by
    simp [toPys] at e1 e2; subst e1 e2; simp [PyData.eqvAll]
  | k, m, [], e :: es, ps, qs, _, h2, e1, e2 => by
    obtain ⟨qs', e3, _⟩ := pls_py m (e :: es) h2
    simp only [D.pls, Bool.and_eq_true] at h2
    obtain ⟨q, f1, _⟩ := pl_py m e h2.1
    obtain ⟨qs2, f2, _⟩ := pls_py m es h2.2
    simp [toPys, f1, f2] at e1 e2
    subst e1 e2
    simp [PyData.eqvAll]
  | k, m, d :: ds, [], ps, qs, h1, _, e1, e2 => by
    simp only [D.pls, Bool.and_eq_true] at h1
    obtain ⟨q, f1, _⟩ := pl_py k d h1.1
    obtain ⟨qs2, f2, _⟩ := pls_py k ds h1.2
    simp [toPys, f1, f2] at e1 e2
    subst e1 e2
    simp [PyData.eqvAll]
  | k, m, d :: ds, e :: es, ps, qs, h1, h2, e1, e2 => by
    simp only [D.pls, Bool.and_eq_true] at h1 h2
    obtain ⟨p, f1, _⟩ := pl_py k d h1.1
    obtain ⟨ps2, f2, _⟩ := pls_py k ds h1.2
    obtain ⟨q, g1, _⟩ := pl_py m e h2.1
    obtain ⟨qs2, g2, _⟩ := pls_py m es h2.2
    simp [toPys, f1, f2, g1, g2] at e1 e2
    subst e1 e2
    have i1 := eqv_pl k m d e p q h1.1 h2.1 f1 g1
    have i2 := eqv_pls k m ds es ps2 qs2 h1.2 h2.2 f2 g2
    simp [PyData.eqvAll, i1, i2]
end
theorem pyS_pl {k : Nat} {d : D} (S : Store) (h : D.pl k d = true) : pyS S d = toPy d := by
  cases d <;> first | rfl | simp [D.pl] at h
open Classical in
/-- comparing plain data -/
theorem eqP {n : Bool} {d e : D} {S : Store} (h1 : D.pl 64 d = true) (h2 : D.pl 64 e = true) : eqD n d e S = .ok (.bl (xor n (decide (d = e)))) S := by
  obtain ⟨p, e1, a1, b1⟩ := pl_py 64 d h1
  obtain ⟨q, e2, a2, b2⟩ := pl_py 64 e h2
  rw [e_eqO, pyS_pl S h1, pyS_pl S h2, e1, e2]
  rw [eqO_some (by simp [SeqAt.shaped, a1, b1]) (by simp [SeqAt.shaped, a2, b2])]
  have := eqv_pl 64 64 d e p q h1 h2 e1 e2
  have h3 : PyData.eqv p q = decide (d = e) := by
    rw [Bool.eq_iff_iff, this, decide_eq_true_eq]
  rw [h3]
@[simp] theorem pl_int (k : Nat) (i : Int) : D.pl k (.int i) = true := by cases k <;> rfl
@[simp] theorem pl_tup (k : Nat) (ds : List D) : D.pl (k + 1) (.tup ds) = D.pls k ds := by simp [D.pl]
@[simp] theorem pl_lst (k : Nat) (ds : List D) : D.pl (k + 1) (.lst ds) = D.pls k ds := by simp [D.pl]
@[simp] theorem pls_nil (k : Nat) : D.pls k [] = true := by simp [D.pls]
@[simp] theorem pls_cons (k : Nat) (d : D) (ds : List D) : D.pls k (d :: ds) = (D.pl k d && D.pls k ds) := by simp [D.pls]
theorem pls_map {α : Type} {f : α → D} {k : Nat} {xs : List α} (h : ∀ x ∈ xs, D.pl k (f x) = true) : D.pls k (xs.map f) = true := by
  rw [pls_iff]
  intro d hd
  obtain ⟨x, hx, rfl⟩ := List.mem_map.mp hd
  exact h x hx
theorem pl_tx {k : Nat} {l : List Nat} (h : ∀ c ∈ l, c < 1114112) : D.pl k (.str (tx l)) = true := by
  have : (tx l).cps.all (· < 1114112) = true := by
    rw [← Array.all_toList, tx_cps, List.all_eq_true]
    exact fun c hc => decide_eq_true (h c hc)
  simpa [D.pl] using this
/-! ### more readings -/
section
variable {σ : DSt} {S : Store} {ds es : List D} {d e : D}
def zipK (ds : List D) (S : Store) : Res Src := match ds with
  | [d, e] => match lstSrc d S, lstSrc e S with
    | some s1, some s2 => .ok ⟨zipD s1.items s2.items, s1.guard ++ s2.guard⟩ S
    | _, _ => match rdT d, rdT e with
      | some a, some b => .ok ⟨zipD a b, []⟩ S
      | _, _ => .stuck
  | _ => .stuck
@[simp] theorem e_zip (ms : DSt → Store → Res (List D)) : mZip ms σ S = (ms σ S).bind fun ds S1 => zipK ds S1 := (rfl)
@[simp] theorem zipK_tup : zipK [.tup ds, .tup es] S = .ok ⟨zipD ds es, []⟩ S := (rfl)
@[simp] theorem zipK_lst : zipK [.lst ds, .lst es] S = .ok ⟨zipD ds es, []⟩ S := (rfl)
theorem blsOf_map : ∀ bs : List Bool, blsOf (bs.map D.bl) = some bs
  | [] => rfl
  | b :: bs => by simp [blsOf, blsOf_map bs]
theorem blsK (f : List Bool → D) (bs : List Bool) : onBls f [.lst (bs.map D.bl)] S = .ok (f bs) S := by
  have h : rdL S (.lst (bs.map D.bl)) = some (bs.map D.bl) := rfl
  simp only [onBls, h, blsOf_map]
@[simp] theorem blsK_rep (f : List Bool → D) (n : Nat) (b : Bool) : onBls f [.lst (List.replicate n (.bl b))] S = .ok (f (List.replicate n b)) S := by
  rw [← blsK f (List.replicate n b), List.map_replicate]
theorem cut_to (l : List Nat) (k : Nat) : cutS (tx l) none (some (k : Int)) = tx (l.take k) := by
  unfold cutS
  simp only [tx_cps, tx_len, HT.sIx_none, HT.sIx_nat, List.drop_zero, Nat.sub_zero]
  unfold tx
  congr 2
  rcases Nat.le_total k l.length with h | h
  · rw [Nat.min_eq_left h]
  · rw [Nat.min_eq_right h, List.take_length, List.take_of_length_le h]
end
/-! ### more of texts; sorted texts -/
theorem cut_from (l : List Nat) (k : Nat) : cutS (tx l) (some (k : Int)) none = tx (l.drop k) := by
  unfold cutS
  simp only [tx_cps, tx_len, HT.sIx_none, HT.sIx_nat]
  unfold tx
  congr 2
  rcases Nat.le_total k l.length with h | h
  · rw [Nat.min_eq_left h, List.take_of_length_le (by rw [List.length_drop]; omega)]
  · rw [Nat.min_eq_right h, List.drop_eq_nil_of_le h, List.drop_length]
    simp
def sd (l : List Nat) : D := .str (tx l)
theorem enc_sd (l : List Nat) : encD (sd l) = .str (tx l) := rfl
theorem toPys_map {α : Type} {f : α → D} {g : α → PyData} (h : ∀ x, toPy (f x) = some (g x)) : ∀ xs : List α, toPys (xs.map f) = some (xs.map g)
  | [] => rfl
  | x :: xs => by simp [toPys, h, toPys_map h xs]
theorem srt_sd (xs : List (List Nat)) : Srt (xs.map sd) := by
  refine ⟨⟨_, toPys_map (f := sd) (g := fun l => PyData.str (tx l)) (fun _ => rfl) xs⟩, ?_, ?_, fun d hd => ?_⟩
  · rw [List.map_map]
    exact PySem.W.AllAlike.of (enc := encD ∘ sd) fun _ _ => by simp [enc_sd, PySem.W.alike]
  · rw [List.map_map]
    exact PySem.W.Sortable.others (enc := encD ∘ sd) fun b => ⟨by simp [enc_sd], fun ys => by simp [enc_sd]⟩
  · obtain ⟨l, _, rfl⟩ := List.mem_map.mp hd
    simp [enc_sd, PyData.depth]
theorem sortedK {es : List D} {S : Store} (h : Srt es) (hl : es.length ≤ 16777216) : sortedD [.lst es] S = .ok (.lst (es.mergeSort dLe)) S := by
  have h1 : rdL S (.lst es) = some es := rfl
  simp only [sortedD, h1]
  rw [if_pos ⟨h, by rw [size_eq]; exact hl⟩]
/-! ### what is to be shown, kept out of simp's reach -/
def Unk (_ : Prop) : Type := Unit
def Hide (p : Prop) (_ : Unk p) : Prop := p
theorem Hide.mk {p : Prop} {x : Unk p} (h : p) : Hide p x := h
section
variable {κ : Type} [DecidableEq κ]
end
section
variable {S : Store} {l : Nat} {kvs : List (List Key × D)} {x y : Int}
def ixE (S : Store) : Option D → Res D
  | some e => .ok e S
  | none => .stuck
@[simp] theorem ixE_some (e : D) : ixE S (some e) = .ok e S := (rfl)
end
/-! ### mutable lists of plain data: empty or not, is it in -/
theorem eqNilL {S : Store} {l : Nat} {ds : List D} (n : Bool) (h : S[l]? = some (.lst ds)) (hp : D.pls 63 ds = true) : eqD n (.loc l) (.lst []) S = .ok (.bl (xor n (ds.isEmpty))) S := by
  obtain ⟨ps, q1, q2, q3⟩ := pls_py 63 ds hp
  rw [e_eqO, e_pyO, h, pyO_lst, q1]
  simp only [pyS_lst, toPys, Option.map_some]
  rw [eqO_some (by simp [SeqAt.shaped, PyData.canLay0, q2, PyData.depth]; omega) rfl]
  cases ds with
  | nil =>
    simp only [toPys, Option.some.injEq] at q1
    subst q1
    rfl
  | cons d ds =>
    cases ps with
    | nil =>
      simp only [toPys] at q1
      split at q1 <;> simp at q1
    | cons _ _ => rfl
end L3
namespace L3
open PySem PySem.Spec L2
/-! ### what is wanted, read from the front: one rule for each reading -/
abbrev XEv := Str → List (Str × D) → Store → Prop
def WfX (E : XEv) (r : Res Fl) (N : DSt → Store → Prop) (R : D → Store → Prop) (B C : DSt → Store → Prop) : Prop := match r with
  | .ok (.nx σ) S => N σ S
  | .ok (.rt d) S => R d S
  | .ok (.bk σ) S => B σ S
  | .ok (.ct σ) S => C σ S
  | .ok (.ex c fs _) S => E c fs S
  | _ => False
abbrev noE : XEv := fun _ _ _ => False
abbrev Wf (r : Res Fl) (N : DSt → Store → Prop) (R : D → Store → Prop) (B C : DSt → Store → Prop) : Prop := WfX noE r N R B C
/-- two ways -/
def Br (b : Bool) (p q : Prop) : Prop := if b = true then p else q
theorem br_t {p q : Prop} (h : p) : Br true p q := h
theorem br_f {p q : Prop} (h : q) : Br false p q := h
theorem br_T {b : Bool} {p q : Prop} (e : b = true) (h : p) : Br b p q := by subst e; exact h
theorem br_if {b : Bool} {p q : Prop} (h : b = true → p) (h' : b = false → q) : Br b p q := by cases b <;> simp_all [Br]
theorem br_dec {c : Prop} [i : Decidable c] {p q : Prop} (h : c → p) (h' : ¬ c → q) : Br (decide c) p q := by
  by_cases hc : c <;> simp_all [Br]
theorem br_not {b : Bool} {p q : Prop} (h : Br b q p) : Br (!b) p q := by cases b <;> simpa [Br] using h
theorem br_xt {b : Bool} {p q : Prop} (h : Br b q p) : Br (xor true b) p q := by cases b <;> simpa [Br] using h
theorem br_xf {b : Bool} {p q : Prop} (h : Br b p q) : Br (xor false b) p q := by cases b <;> simpa [Br] using h
section
variable {α β : Type} {σ σ' : DSt} {S : Store} {E : XEv} {N B C : DSt → Store → Prop} {R : D → Store → Prop} {a b c : DSt → Store → Res D} {ta tb : DSt → Store → Res Bool} {ms : DSt → Store → Res (List D)} {Q : D → Store → Prop} {QB : Bool → Store → Prop} {QL : List D → Store → Prop} {QS : Src → Store → Prop} {QG : DSt → Store → Prop}
theorem WfX.imp {r : Res Fl} {N' B' C' : DSt → Store → Prop} {R' : D → Store → Prop} (h : WfX E r N R B C) (h1 : ∀ σ S, N σ S → N' σ S) (h2 : ∀ d S, R d S → R' d S) (h3 : ∀ σ S, B σ S → B' σ S) (h4 : ∀ σ S, C σ S → C' σ S) : WfX E r N' R' B' C' := by
  cases r with
  | ok fl S => cases fl with
    | nx σ => exact h1 _ _ h
    | rt d => exact h2 _ _ h
    | bk σ => exact h3 _ _ h
    | ct σ => exact h4 _ _ h
    | ex _ _ _ => exact h
  | _ => exact h
/-! statements -/
theorem w_seq {a b : DSt → Store → Res Fl} (h : WfX E (a σ S) (fun σ S => WfX E (b σ S) N R B C) R B C) : WfX E (mSeq a b σ S) N R B C := by
  unfold mSeq thenS
  revert h
  cases a σ S with
  | ok fl S1 => cases fl <;> exact fun h => h
  | _ => exact fun h => h
theorem w_skip (h : N σ S) : WfX E (mSkip σ S) N R B C := h
theorem w_nx (h : N σ S) : WfX E (.ok (.nx σ) S) N R B C := h
theorem w_rt {d : D} (h : R d S) : WfX E (.ok (.rt d) S) N R B C := h
theorem w_bk (h : B σ S) : WfX E (.ok (.bk σ) S) N R B C := h
theorem w_ct (h : C σ S) : WfX E (.ok (.ct σ) S) N R B C := h
theorem w_lift {r : Res α} {f : α → Store → Res Fl} (h : Ok r fun x S => WfX E (f x S) N R B C) : WfX E (liftE r σ f) N R B C := by
  obtain ⟨x, S1, rfl, h⟩ := h; exact h
theorem w_do (h : Ok (a σ S) fun _ S => N σ S) : WfX E (mDo a σ S) N R B C := w_lift h
theorem w_ret (h : Ok (a σ S) R) : WfX E (mRet a σ S) N R B C := w_lift h
theorem w_ifs {x y : DSt → Store → Res Fl} (h : Ok (ta σ S) fun t S => Br t (WfX E (x σ S) N R B C) (WfX E (y σ S) N R B C)) : WfX E (mIfS ta x y σ S) N R B C :=
  w_lift (h.imp fun t S1 h => by cases t <;> exact h)
theorem w_set {i : Nat} (h : Ok (a σ S) fun d S => ∀ σ', σ.set i (some d) = σ' → N σ' S) : WfX E (mSet i a σ S) N R B C := w_lift (h.imp fun t S1 h => h _ rfl)
theorem w_asg {g : D → DSt → Store → Res DSt} (h : Ok (a σ S) fun d S => Ok (g d σ S) N) : WfX E (mAsg a g σ S) N R B C := w_lift (h.imp fun t S1 h => by
  obtain ⟨x, S2, e, h⟩ := h
  rw [e]; exact h)
theorem w_par {i j : Nat} (h : Ok (ms σ S) fun ds S => ∃ x y, ds = [x, y] ∧ ∀ σ', (σ.set i (some x)).set j (some y) = σ' → N σ' S) : WfX E (mPar i j ms σ S) N R B C := w_lift (h.imp fun t S1 h => by
  obtain ⟨x, y, rfl, h⟩ := h
  exact h _ rfl)
theorem w_for {mi : DSt → Store → Res Src} {g : D → DSt → Store → Res DSt} {b : DSt → Store → Res Fl} (h : Ok (mi σ S) fun src S => WfX E (forGo src.guard g b src.items σ S) N R B C) : WfX E (mFor mi g b σ S) N R B C := w_lift h
/-! expressions -/
theorem k_ok {x : α} {Q : α → Store → Prop} (h : Q x S) : Ok (.ok x S) Q := ⟨_, _, rfl, h⟩
theorem k_eq {r : Res α} {x : α} {Q : α → Store → Prop} (e : r = .ok x S) (h : Q x S) : Ok r Q := ⟨_, _, e, h⟩
theorem k_bind {r : Res α} {f : α → Store → Res β} {Q : β → Store → Prop} (h : Ok r fun x S => Ok (f x S) Q) : Ok (r.bind f) Q := h.bind fun _ _ h => h
theorem k_bindG {r : Res α} {f : α → Store → Res β} {Q : β → Store → Prop} (h : Ok r fun x S => Ok (f x S) Q) : Ok (bindG r f) Q := h.bindG fun _ _ h => h
theorem k_if {p : Prop} [Decidable p] {r : Res α} {Q : α → Store → Prop} (hp : p) (h : Ok r Q) : Ok (if p then r else .stuck) Q := by rw [if_pos hp]; exact h
theorem k_var {i : Nat} {d : D} (e : σ[i]? = some (some d)) (h : Q d S) : Ok (mVar i σ S) Q := ⟨d, S, e_var' i e, h⟩
theorem k_C {d : D} (h : Q d S) : Ok (mC d σ S) Q := ⟨_, _, rfl, h⟩
theorem k_m2 {f : D → D → Store → Res D} (h : Ok (a σ S) fun x S => Ok (b σ S) fun y S => Ok (f x y S) Q) : Ok (m2 a b f σ S) Q := k_bind (h.imp fun _ _ h => k_bind h)
theorem k_m1 {f : D → Store → Res D} (h : Ok (a σ S) fun x S => Ok (f x S) Q) : Ok (m1 a f σ S) Q := k_bind h
theorem k_nil (h : QL [] S) : Ok (mNil σ S) QL := ⟨_, _, rfl, h⟩
theorem k_cons (h : Ok (a σ S) fun x S => Ok (ms σ S) fun xs S => QL (x :: xs) S) : Ok (mCons a ms σ S) QL := k_bind (h.imp fun _ _ h => k_bind (h.imp fun _ _ h => k_ok h))
theorem k_tup (h : Ok (ms σ S) fun ds S => ds.length ≤ 16777216 ∧ Q (.tup ds) S) : Ok (mTup ms σ S) Q := k_bind (h.imp fun ds S h => k_if (by rw [size_eq]; exact h.1) (k_ok h.2))
theorem k_lst (h : Ok (ms σ S) fun ds S => ds.length ≤ 16777216 ∧ Q (.lst ds) S) : Ok (mLst ms σ S) Q := k_bind (h.imp fun ds S h => k_if (by rw [size_eq]; exact h.1) (k_ok h.2))
theorem k_lstM (h : Ok (ms σ S) fun ds S => ds.length ≤ 16777216 ∧ Q (.loc S.length) (S ++ [.lst ds])) : Ok (mLstM ms σ S) Q := k_bind (h.imp fun ds S h => k_if (by rw [size_eq]; exact h.1) (k_ok h.2))
theorem k_andV (h : Ok (a σ S) fun x S => ∃ t, x = .bl t ∧ Br t (Ok (b σ S) Q) (Q (.bl false) S)) : Ok (mAndV a b σ S) Q := k_bind (h.imp fun x S h => by
  obtain ⟨t, rfl, h⟩ := h
  cases t
  · exact k_ok h
  · exact h)
theorem k_orV (h : Ok (a σ S) fun x S => ∃ t, x = .bl t ∧ Br t (Q (.bl true) S) (Ok (b σ S) Q)) : Ok (mOrV a b σ S) Q := k_bind (h.imp fun x S h => by
  obtain ⟨t, rfl, h⟩ := h
  cases t
  · exact h
  · exact k_ok h)
theorem k_notV (h : Ok (a σ S) fun x S => ∃ t, x = .bl t ∧ Q (.bl (!t)) S) : Ok (mNotV a σ S) Q := k_bind (h.imp fun x S h => by
  obtain ⟨t, rfl, h⟩ := h
  exact k_ok h)
theorem k_ifx (h : Ok (ta σ S) fun t S => Br t (Ok (a σ S) Q) (Ok (b σ S) Q)) : Ok (mIf ta a b σ S) Q := k_bind (h.imp fun t S h => by cases t <;> exact h)
theorem k_neg (h : Ok (a σ S) fun x S => ∃ i, x = .int i ∧ Q (.int (-i)) S) : Ok (mNeg a σ S) Q := k_bind (h.imp fun x S h => by
  obtain ⟨t, rfl, h⟩ := h
  exact k_ok h)
theorem k_ch {f g : D → D → Store → Res D} (h : Ok (a σ S) fun x S => Ok (b σ S) fun y S => Ok (f x y S) fun z S => ∃ t, z = .bl t ∧ Br t (Ok (c σ S) fun w S => Ok (g y w S) Q) (Q (.bl false) S)) : Ok (mCh a b c f g σ S) Q :=
  k_bind (h.imp fun x S h => k_bind (h.imp fun y S h => k_bind (h.imp fun z S h => by
    obtain ⟨t, rfl, h⟩ := h
    cases t
    · exact k_ok h
    · exact k_bind h)))
/-! tests -/
theorem k_mT (h : Ok (a σ S) fun x S => ∃ t, x = .bl t ∧ QB t S) : Ok (mT a σ S) QB := k_bind (h.imp fun x S h => by
  obtain ⟨t, rfl, h⟩ := h
  exact k_ok h)
theorem k_andT (h : Ok (ta σ S) fun t S => Br t (Ok (tb σ S) QB) (QB false S)) : Ok (mAndT ta tb σ S) QB := k_bind (h.imp fun t S h => by
  cases t
  · exact k_ok h
  · exact h)
theorem k_orT (h : Ok (ta σ S) fun t S => Br t (QB true S) (Ok (tb σ S) QB)) : Ok (mOrT ta tb σ S) QB := k_bind (h.imp fun t S h => by
  cases t
  · exact h
  · exact k_ok h)
theorem k_notT (h : Ok (ta σ S) fun t S => QB (!t) S) : Ok (mNotT ta σ S) QB := k_bind (h.imp fun t S h => k_ok h)
theorem bl_of {t : Bool} {p : Bool → Prop} (h : p t) : ∃ u, D.bl t = .bl u ∧ p u := ⟨t, rfl, h⟩
theorem int_of {t : Int} {p : Int → Prop} (h : p t) : ∃ u, D.int t = .int u ∧ p u := ⟨t, rfl, h⟩
/-! calls -/
theorem k_cb {g : List D → Store → Res D} (h : Ok (ms σ S) fun ds S => Ok (g ds S) Q) : Ok (mCB g ms σ S) Q := k_bind h
theorem k_call {n : Nat} {den : List D → Store → Res D} (h : Ok (ms σ S) fun ds S => ds.length = n ∧ Ok (den ds S) Q) : Ok (mCall n den ms σ S) Q := k_bind (h.imp fun ds S h => k_if h.1 (by
  obtain ⟨x, S1, e, q⟩ := h.2
  exact ⟨x, S1, by rw [e]; rfl, q⟩))
theorem k_bm {T : String} {g : D → List D → Store → Res D} (h : Ok (a σ S) fun d S => tyOk T S d = true ∧ Ok (ms σ S) fun ds S => Ok (g d ds S) Q) : Ok (mBM T g a ms σ S) Q := k_bind (h.imp fun d S h => k_if h.1 (k_bind h.2))
theorem k_get1 (h : Ok (a σ S) fun d S => isDl S d = true ∧ Ok (b σ S) fun k S => ∃ o, dlook S d k = some o ∧ Q (o.getD .non) S) : Ok (mGet1 a b σ S) Q := k_bind (h.imp fun d S h => k_if h.1 (k_bind (h.2.imp fun k S h => by
  obtain ⟨o, e, h⟩ := h
  rw [e]
  cases o <;> exact k_ok h)))
theorem k_get2 (h : Ok (a σ S) fun d S => isDl S d = true ∧ Ok (b σ S) fun k S => Ok (c σ S) fun x S => ∃ o, dlook S d k = some o ∧ Q (o.getD x) S) : Ok (mGet2 a b c σ S) Q := k_bind (h.imp fun d S h => k_if h.1 (k_bind (h.2.imp fun k S h => k_bind (h.imp fun x S h => by
  obtain ⟨o, e, h⟩ := h
  rw [e]
  cases o <;> exact k_ok h))))
theorem k_lc {mi : DSt → Store → Res Src} {g : D → DSt → Store → Res DSt} {vs : List Nat} (h : Ok (mi σ S) fun src S => ∀ σ', dwipe σ vs = σ' → Ok (lcGo src.guard g ta a σ' src.items S) fun ys S => Q (.lst ys) S) : Ok (mLc mi g ta a vs σ S) Q := by
  rw [e_lc]
  exact k_bind (h.imp fun src S h => k_bindG ((h _ rfl).imp fun ys S h => k_ok h))
theorem k_lcM {mi : DSt → Store → Res Src} {g : D → DSt → Store → Res DSt} {vs : List Nat} (h : Ok (mi σ S) fun src S => ∀ σ', dwipe σ vs = σ' → Ok (lcGo src.guard g ta a σ' src.items S) fun ys S => Q (.loc S.length) (S ++ [.lst ys])) : Ok (mLcM mi g ta a vs σ S) Q := by
  rw [e_lcM]
  exact k_bind (h.imp fun src S h => k_bindG ((h _ rfl).imp fun ys S h => k_ok h))
theorem k_sl {ml mh : DSt → Store → Res (Option Int)} (h : Ok (a σ S) fun d S => Ok (ml σ S) fun lo S => Ok (mh σ S) fun hi S => Ok (sliceD d lo hi S) Q) : Ok (mSl a ml mh σ S) Q := by
  rw [e_sl]
  exact k_bind (h.imp fun d S h => k_bind (h.imp fun l S h => k_bind h))
theorem k_nopart {QO : Option Int → Store → Prop} (h : QO none S) : Ok (mNoPart σ S) QO := k_ok h
theorem k_part {QO : Option Int → Store → Prop} (h : Ok (a σ S) fun d S => ∃ i, d = .int i ∧ QO (some i) S) : Ok (mPart a σ S) QO := k_bind (h.imp fun d S h => by
  obtain ⟨i, rfl, h⟩ := h
  exact k_ok h)
/-! targets -/
theorem k_gname {i : Nat} {d : D} (h : ∀ σ', σ.set i (some d) = σ' → QG σ' S) : Ok (gtName i d σ S) QG := ⟨_, _, rfl, h _ rfl⟩
theorem k_gnil (h : QG σ S) : Ok (gtNil [] σ S) QG := ⟨_, _, rfl, h⟩
theorem k_gcons {f : D → DSt → Store → Res DSt} {g : List D → DSt → Store → Res DSt} {d : D} {ds : List D} (h : Ok (f d σ S) fun σ S => Ok (g ds σ S) QG) : Ok (gtCons f g (d :: ds) σ S) QG := by
  rw [e_gcons]
  exact k_bindG h
theorem k_gtup {n : Nat} {g : List D → DSt → Store → Res DSt} {ds : List D} (hn : ds.length = n) (h : Ok (g ds σ S) QG) : Ok (gtTup n g (.tup ds) σ S) QG := by
  rw [e_gtup]
  exact k_if hn h
theorem k_gktp {n : Nat} {g : List D → DSt → Store → Res DSt} {ds : List D} (hn : ds.length = n) (h : Ok (g ds σ S) QG) : Ok (gtTup n g (.ktp ds) σ S) QG := by
  rw [e_gktp]
  exact k_if hn h
theorem k_gsub {f : D → D → D → Store → Res Unit} {d : D} (h : Ok (a σ S) fun o S => Ok (b σ S) fun i S => Ok (f o i d S) fun _ S => QG σ S) : Ok (gtSub a b f d σ S) QG := by
  rw [e_gsub]
  exact k_bindG (h.imp fun o S h => k_bindG (h.imp fun i S h => k_bindG (h.imp fun _ S h => k_ok h)))
/-! what is walked over -/
theorem k_seqi (h : Ok (a σ S) fun d S => ∃ s, seqSrc d S = some s ∧ QS s S) : Ok (mSeqI a σ S) QS := by
  rw [e_seqi]
  exact k_bind (h.imp fun d S h => by
    obtain ⟨s, e, h⟩ := h
    rw [e]; exact k_ok h)
theorem k_rng1 (h : Ok (ms σ S) fun ds S => ∃ (i : Int) (n : Nat), ds = [.int i] ∧ i = (n : Int) ∧ n ≤ 16777216 ∧ QS ⟨(List.range n).map fun k : Nat => D.int k, []⟩ S) : Ok (mRng1 ms σ S) QS := by
  rw [e_rng1]
  refine k_bind (h.imp fun ds S h => ?_)
  obtain ⟨i, n, rfl, rfl, h1, h2⟩ := h
  refine k_eq (rng1K_nat (by rw [size_eq]; exact h1)) ?_
  simpa [rangeD] using h2
theorem enumD_eq : ∀ (k : Nat) (ds : List D), enumD k ds = (ds.zipIdx k).map fun p : D × Nat => D.tup [.int p.2, p.1]
  | _, [] => rfl
  | k, d :: ds => by simp [enumD, enumD_eq (k + 1) ds]
theorem k_enum (h : Ok (ms σ S) fun ds S => ∃ d s, ds = [d] ∧ lstSrc d S = some s ∧ QS ⟨(s.items.zipIdx).map fun p : D × Nat => D.tup [.int p.2, p.1], s.guard⟩ S) : Ok (mEnum ms σ S) QS := by
  rw [e_enum]
  refine k_bind (h.imp fun ds S h => ?_)
  obtain ⟨d, s, rfl, e, h⟩ := h
  refine k_eq (x := ⟨enumD 0 s.items, s.guard⟩) (S := S) (by simp only [enumK, e]) ?_
  rw [enumD_eq]
  exact h
/-! loops -/
theorem den_ok {n : Nat} {m : DSt → Store → Res Fl} {ds : List D} {P : D → Store → Prop} (e : ds.map some ++ List.replicate (n - ds.length) none = σ) (h : Wf (m σ S) (fun _ S => P .non S) P (fun _ _ => False) (fun _ _ => False)) : Ok (denOf n m ds S) P := by
  subst e
  rw [den_eq]
  revert h
  cases m (ds.map some ++ List.replicate (n - ds.length) none) S with
  | ok fl S1 => cases fl with
    | nx σ => exact fun h => ⟨_, _, rfl, h⟩
    | rt d => exact fun h => ⟨_, _, rfl, h⟩
    | ex _ _ _ => exact fun h => h.elim
    | _ => exact fun h => h.elim
  | _ => exact fun h => h.elim
/-- a loop by what holds between its turns -/
theorem w_loop {gd : List (Nat × Ob)} {g : D → DSt → Store → Res DSt} {b : DSt → Store → Res Fl} {ds : List D} (I : Nat → DSt → Store → Prop) (h0 : I 0 σ S) (hg : ∀ j σ S, I j σ S → gOk gd S)
    (hs : ∀ j d σ S, ds[j]? = some d → I j σ S → Ok (g d σ S) fun σ S => Wf (b σ S) (I (j + 1)) R N (I (j + 1))) (he : ∀ σ S, I ds.length σ S → N σ S) : WfX E (forGo gd g b ds σ S) N R B C := by
  have h := forGo_ok (gd := gd) (g := g) (b := b) I N R ds 0 h0 hg (fun j d σ S hd hi => by
    rw [Nat.zero_add] at hi ⊢
    obtain ⟨σ1, S1, e, q⟩ := hs j d σ S hd hi
    rw [e, bindG_ok]
    revert q
    cases b σ1 S1 with
    | ok fl S2 => cases fl with
      | ex _ _ _ => exact fun q => q.elim
      | _ => exact fun q => ⟨_, _, rfl, q⟩
    | _ => exact fun q => q.elim) (fun σ S hi => he σ S (by rwa [Nat.zero_add] at hi))
  obtain ⟨fl, S1, e, q⟩ := h
  rw [e]
  cases fl with
  | nx _ => exact q
  | rt _ => exact q
  | _ => exact q.elim
/-- the same, the things one by one -/
theorem w_each {gd : List (Nat × Ob)} {γ : Type} {xs : List γ} {f : γ → D} {g : D → DSt → Store → Res DSt} {b : DSt → Store → Res Fl} (I : List γ → DSt → Store → Prop) (h0 : I [] σ S) (hg : ∀ l σ S, I l σ S → gOk gd S)
    (hs : ∀ l x r σ S, xs = l ++ x :: r → I l σ S → Ok (g (f x) σ S) fun σ S => Wf (b σ S) (I (l ++ [x])) R N (I (l ++ [x]))) (he : ∀ σ S, I xs σ S → N σ S) : WfX E (forGo gd g b (xs.map f) σ S) N R B C := by
  refine w_loop (fun j σ S => I (xs.take j) σ S) h0 (fun j => hg _) (fun j d σ S hd hi => ?_) (fun σ S h => he σ S (by simpa using h))
  obtain ⟨hj, e⟩ := List.getElem?_eq_some_iff.mp hd
  rw [List.length_map] at hj
  rw [List.getElem_map] at e
  subst e
  have e2 : xs.take (j + 1) = xs.take j ++ [xs[j]] := by rw [List.take_succ, List.getElem?_eq_getElem hj]; rfl
  rw [e2]
  refine hs (xs.take j) xs[j] (xs.drop (j + 1)) σ S ?_ hi
  rw [← List.drop_eq_getElem_cons hj, List.take_append_drop]
/-- a comprehension by what holds between its turns -/
theorem k_lcI {gd : List (Nat × Ob)} {g : D → DSt → Store → Res DSt} {ds : List D} (I : Nat → Store → List D → Prop) (h0 : I 0 S []) (hg : ∀ j S acc, I j S acc → gOk gd S)
    (hs : ∀ j d S acc, ds[j]? = some d → I j S acc → Ok (g d σ S) fun σ S => Ok (ta σ S) fun t S => Br t (Ok (a σ S) fun y S => I (j + 1) S (acc ++ [y])) (I (j + 1) S acc)) (he : ∀ ys S, I ds.length S ys → QL ys S) : Ok (lcGo gd g ta a σ ds S) QL := by
  refine (lcGo_ok (gd := gd) I ds 0 [] h0 hg (fun j d S acc hd hi => ?_)).imp fun ys S' h => he ys S' (by simpa using h)
  rw [Nat.zero_add] at hi ⊢
  refine k_bindG ((hs j d S acc hd hi).imp fun σ1 S1 h => k_bindG (h.imp fun t S2 h => ?_))
  cases t with
  | true => exact k_bindG (Ok.imp (show Ok (a σ1 S2) _ from h) fun y S3 h => k_ok h)
  | false =>
    have h : I (j + 1) S2 acc := h
    exact k_ok (by simpa using h)
/-- one that leaves all as it was -/
theorem k_lcP {gd : List (Nat × Ob)} {γ : Type} {xs : List γ} {f : γ → D} {g : D → DSt → Store → Res DSt} (p : γ → Bool) (h : γ → D) (hg : gOk gd S)
    (hs : ∀ x ∈ xs, Ok (g (f x) σ S) fun σ S' => Ok (ta σ S') fun t S' => t = p x ∧ Br (p x) (Ok (a σ S') fun y S' => y = h x ∧ S' = S) (S' = S)) (he : QL ((xs.filter p).map h) S) : Ok (lcGo gd g ta a σ (xs.map f) S) QL := by
  refine k_lcI (fun j S' acc => S' = S ∧ acc = ((xs.take j).filter p).map h) ⟨rfl, rfl⟩ (fun _ _ _ h => by rw [h.1]; exact hg) (fun j d S' acc hd hi => ?_) (fun ys S' h => by
    obtain ⟨rfl, rfl⟩ := h
    simpa using he)
  obtain ⟨rfl, rfl⟩ := hi
  obtain ⟨hj, e⟩ := List.getElem?_eq_some_iff.mp hd
  rw [List.length_map] at hj
  rw [List.getElem_map] at e
  subst e
  have e2 : xs.take (j + 1) = xs.take j ++ [xs[j]] := by rw [List.take_succ, List.getElem?_eq_getElem hj]; rfl
  refine (hs xs[j] (List.getElem_mem hj)).imp fun σ1 S1 h1 => h1.imp fun t S2 h2 => ?_
  obtain ⟨rfl, h2⟩ := h2
  cases hp : p xs[j] with
  | true =>
    rw [hp] at h2
    refine Ok.imp (show Ok (a σ1 S2) _ from h2) fun y S3 h3 => ?_
    obtain ⟨rfl, rfl⟩ := h3
    refine ⟨rfl, ?_⟩
    rw [e2, List.filter_append, List.map_append, List.filter_cons_of_pos hp]
    rfl
  | false =>
    rw [hp] at h2
    have : S2 = S' := h2
    refine ⟨this, ?_⟩
    rw [e2, List.filter_append, List.filter_cons_of_neg (by rw [hp]; exact Bool.false_ne_true), List.filter_nil, List.append_nil]
/-- without an if -/
theorem k_lcM1 {gd : List (Nat × Ob)} {γ : Type} {xs : List γ} {f : γ → D} {g : D → DSt → Store → Res DSt} (h : γ → D) (hg : gOk gd S)
    (hs : ∀ x ∈ xs, Ok (g (f x) σ S) fun σ S' => Ok (a σ S') fun y S' => y = h x ∧ S' = S) (he : QL (xs.map h) S) : Ok (lcGo gd g (fun _ S => .ok true S) a σ (xs.map f) S) QL := by
  refine k_lcP (fun _ => true) h hg (fun x hx => (hs x hx).imp fun σ1 S1 h1 => k_ok ⟨rfl, h1⟩) ?_
  rw [List.filter_eq_self.mpr (by simp)]
  exact he
end
/-! ### single steps at values -/
section
variable {S : Store} {Q : D → Store → Prop} {i j : Int} {ds es : List D} {d e : D} {x y : Str} {l k n : Nat} {la lb : List Nat}
theorem p_add (h : Q (.int (i + j)) S) : Ok (addD (.int i) (.int j) S) Q := k_eq e_add h
theorem p_addS (hl : la.length + lb.length ≤ 16777216) (h : Q (.str (tx (la ++ lb))) S) : Ok (addD (.str (tx la)) (.str (tx lb)) S) Q := k_eq (addTK hl) h
theorem p_addT (hl : ds.length + es.length ≤ 16777216) (h : Q (.tup (ds ++ es)) S) : Ok (addD (.tup ds) (.tup es) S) Q := by rw [e_addT]; exact k_if (by rw [size_eq]; exact hl) (k_ok h)
theorem p_addL (hl : ds.length + es.length ≤ 16777216) (h : Q (.lst (ds ++ es)) S) : Ok (addD (.lst ds) (.lst es) S) Q := by rw [e_addL]; exact k_if (by rw [size_eq]; exact hl) (k_ok h)
theorem p_addM (hl : ds.length + es.length ≤ 16777216) (h : Q (.loc S.length) (S ++ [.lst (ds ++ es)])) : Ok (addMD (.lst ds) (.lst es) S) Q := by
  have e : addMD (.lst ds) (.lst es) S = if ds.length + es.length ≤ sizeLine then .ok (.loc S.length) (S ++ [.lst (ds ++ es)]) else .stuck := rfl
  rw [e]; exact k_if (by rw [size_eq]; exact hl) (k_ok h)
theorem p_addLO (e1 : S[l]? = some (.lst ds)) (hl : ds.length + es.length ≤ 16777216) (h : Q (.lst (ds ++ es)) S) : Ok (addD (.loc l) (.lst es) S) Q := by
  have e : addD (.loc l) (.lst es) S = match exL S (.loc l), exL S (.lst es) with
    | some a, some b => if a.length + b.length ≤ sizeLine then .ok (.lst (a ++ b)) S else .stuck
    | _, _ => .stuck := rfl
  have h1 : exL S (.loc l) = some ds := by simp [exL, e1]
  have h2 : exL S (.lst es) = some es := rfl
  rw [e, h1, h2]
  exact k_if (by rw [size_eq]; exact hl) (k_ok h)
theorem p_sub (h : Q (.int (i - j)) S) : Ok (subD (.int i) (.int j) S) Q := k_eq e_sub h
theorem p_mulR (h1 : -(2 ^ 64) < j) (h2 : j < 2 ^ 64) (h : Q (.int (i * j)) S) : Ok (mulX (.int i) (.int j) S) Q := by rw [e_mul]; exact k_if (.inl (.inr ⟨h1, h2⟩)) (k_ok h)
theorem p_mulL (h1 : -(2 ^ 64) < i) (h2 : i < 2 ^ 64) (h : Q (.int (i * j)) S) : Ok (mulX (.int i) (.int j) S) Q := by rw [e_mul]; exact k_if (.inl (.inl ⟨h1, h2⟩)) (k_ok h)
theorem p_fdiv (h1 : 0 < j) (h2 : j < 18446744073709551616) (h : Q (.int (i / j)) S) : Ok (fdivD (.int i) (.int j) S) Q := by rw [e_fdiv]; exact k_if (divOk h1 h2) (k_ok h)
theorem p_mod (h1 : 0 < j) (h : Q (.int (i % j)) S) : Ok (modD (.int i) (.int j) S) Q := by rw [e_mod]; exact k_if h1 (k_ok h)
theorem p_lt (h : Q (.bl (decide (i < j))) S) : Ok (ltD (.int i) (.int j) S) Q := k_eq e_lt h
theorem p_ltS (h : Q (.bl (decide (la < lb))) S) : Ok (ltD (.str (tx la)) (.str (tx lb)) S) Q := ⟨_, _, rfl, h⟩
theorem p_cmp {p : Int → Int → Bool} (h : Q (.bl (p i j)) S) : Ok (cmpI p (.int i) (.int j) S) Q := ⟨_, _, rfl, h⟩
theorem p_eqI {b : Bool} (h : Q (.bl (xor b (decide (i = j)))) S) : Ok (eqD b (.int i) (.int j) S) Q := k_eq (e_eqI b) h
theorem p_isN {b : Bool} (h : Q (.bl (!b)) S) : Ok (isND b .non .non S) Q := by cases b <;> exact ⟨_, _, rfl, h⟩
theorem p_ixT (e : atI ds i = some d) (h : Q d S) : Ok (ixD (.tup ds) (.int i) S) Q := by rw [e_ix_tup, e]; exact k_ok h
theorem p_ixL (e : atI ds i = some d) (h : Q d S) : Ok (ixD (.lst ds) (.int i) S) Q := by rw [e_ix_lst, e]; exact k_ok h
theorem p_ixF (e : atI ds i = some d) (h : Q d S) : Ok (ixD (.frz ds) (.int i) S) Q := by rw [e_ix_frz, e]; exact k_ok h
theorem p_ixO (e1 : S[l]? = some (.lst ds)) (e : atI ds i = some d) (h : Q d S) : Ok (ixD (.loc l) (.int i) S) Q := by rw [e_ix_loc e1, e]; exact k_ok h
theorem p_ixTm {α : Type} {xs : List α} {f : α → D} {x : α} (e : xs[k]? = some x) (h : Q (f x) S) : Ok (ixD (.tup (xs.map f)) (.int (k : Nat)) S) Q := p_ixT (by rw [atI_nat, List.getElem?_map, e]; rfl) h
theorem p_ixLm {α : Type} {xs : List α} {f : α → D} {x : α} (e : xs[k]? = some x) (h : Q (f x) S) : Ok (ixD (.lst (xs.map f)) (.int (k : Nat)) S) Q := p_ixL (by rw [atI_nat, List.getElem?_map, e]; rfl) h
theorem p_ixFm {α : Type} {xs : List α} {f : α → D} {x : α} (e : xs[k]? = some x) (h : Q (f x) S) : Ok (ixD (.frz (xs.map f)) (.int (k : Nat)) S) Q := p_ixF (by rw [atI_nat, List.getElem?_map, e]; rfl) h
theorem p_ixS {c : Nat} (hl : la.length ≤ 16777216) (e : atI la i = some c) (h : Q (.str (tx [c])) S) : Ok (ixD (.str (tx la)) (.int i) S) Q := by
  rw [e_ix_str, if_pos (by rw [tx_len, size_eq]; exact hl), tx_cps, e]
  exact k_ok h
theorem p_slT {lo hi : Option Int} (h : Q (.tup (L3.cut ds lo hi)) S) : Ok (sliceD (.tup ds) lo hi S) Q := k_eq (e_sl_tup lo hi) h
theorem p_slL {lo hi : Option Int} (h : Q (.lst (L3.cut ds lo hi)) S) : Ok (sliceD (.lst ds) lo hi S) Q := k_eq (e_sl_lst lo hi) h
theorem p_slF {lo hi : Option Int} (h : Q (.lst (L3.cut ds lo hi)) S) : Ok (sliceD (.frz ds) lo hi S) Q := k_eq (e_sl_frz lo hi) h
theorem p_slS {lo hi : Option Int} (hl : la.length ≤ 16777216) (h : Q (.str (cutS (tx la) lo hi)) S) : Ok (sliceD (.str (tx la)) lo hi S) Q := by
  rw [e_sl_str]; exact k_if (by rw [tx_len, size_eq]; exact hl) (k_ok h)
theorem p_lenT (h : Q (.int ds.length) S) : Ok (lenD [.tup ds] S) Q := ⟨_, _, rfl, h⟩
theorem p_lenL (h : Q (.int ds.length) S) : Ok (lenD [.lst ds] S) Q := ⟨_, _, rfl, h⟩
theorem p_lenF (h : Q (.int ds.length) S) : Ok (lenD [.frz ds] S) Q := ⟨_, _, rfl, h⟩
theorem p_lenK (h : Q (.int ds.length) S) : Ok (lenD [.ktp ds] S) Q := ⟨_, _, rfl, h⟩
theorem p_lenS (hl : la.length ≤ 16777216) (h : Q (.int la.length) S) : Ok (lenD [.str (tx la)] S) Q := by
  rw [e_len_str]; exact k_if (by rw [tx_len, size_eq]; exact hl) (k_ok (by rw [tx_len]; exact h))
theorem p_lenO (e : S[l]? = some (.lst ds)) (h : Q (.int ds.length) S) : Ok (lenD [.loc l] S) Q := k_eq (e_len_loc e) h
theorem p_abs (h : Q (.int (if i < 0 then -i else i)) S) : Ok (absD [.int i] S) Q := ⟨_, _, rfl, h⟩
theorem p_max2 (h : Q (.int (if j > i then j else i)) S) : Ok (max2D [.int i, .int j] S) Q := ⟨_, _, rfl, h⟩
theorem p_min2 (h : Q (.int (if j < i then j else i)) S) : Ok (min2D [.int i, .int j] S) Q := ⟨_, _, rfl, h⟩
theorem p_int (h : Q (.int i) S) : Ok (intD [.int i] S) Q := ⟨_, _, rfl, h⟩
theorem p_intB {b : Bool} (h : Q (.int (if b = true then 1 else 0)) S) : Ok (intD [.bl b] S) Q := ⟨_, _, rfl, h⟩
theorem p_tupL (h : Q (.tup ds) S) : Ok (tupleD [.lst ds] S) Q := ⟨_, _, rfl, h⟩
theorem p_tupT (h : Q (.tup ds) S) : Ok (tupleD [.tup ds] S) Q := ⟨_, _, rfl, h⟩
theorem p_tupF (h : Q (.tup ds) S) : Ok (tupleD [.frz ds] S) Q := ⟨_, _, rfl, h⟩
theorem p_tupO (e : S[l]? = some (.lst ds)) (h : Q (.tup ds) S) : Ok (tupleD [.loc l] S) Q := k_eq (e_tuple_loc e) h
theorem p_listL (h : Q (.lst ds) S) : Ok (listD false [.lst ds] S) Q := ⟨_, _, rfl, h⟩
theorem p_listT (h : Q (.lst ds) S) : Ok (listD false [.tup ds] S) Q := ⟨_, _, rfl, h⟩
theorem p_listF (h : Q (.lst ds) S) : Ok (listD false [.frz ds] S) Q := ⟨_, _, rfl, h⟩
theorem p_app (e1 : S[l]? = some (.lst ds)) (hl : ds.length < 16777216) (h : ∀ S', S.set l (.lst (ds ++ [d])) = S' → Q .non S') : Ok (appendD (.loc l) [d] S) Q := k_eq (e_append e1 (by rw [size_eq]; exact hl)) (h _ rfl)
theorem p_extL (e1 : S[l]? = some (.lst ds)) (hl : ds.length + es.length ≤ 16777216) (h : ∀ S', S.set l (.lst (ds ++ es)) = S' → Q .non S') : Ok (extendD (.loc l) [.lst es] S) Q := by
  have : extendD (.loc l) [.lst es] S = if ds.length + es.length ≤ sizeLine then .ok .non (S.set l (.lst (ds ++ es))) else .stuck := by simp only [extendD, mutL, e1, exL]
  rw [this]
  exact k_if (by rw [size_eq]; exact hl) (k_ok (h _ rfl))
theorem p_setL (e1 : S[l]? = some (.lst ds)) (hk : ixN ds.length i = some k) {Q : Unit → Store → Prop} (h : ∀ S', S.set l (.lst (ds.set k d)) = S' → Q () S') : Ok (setD (.loc l) (.int i) d S) Q := k_eq (set_loc e1 hk) (h _ rfl)
end
/-! ### stores and slots: what is seen of them -/
theorem st_get {S t : Store} {n k : Nat} (h : S.length = n) : (S ++ t)[n + k]? = t[k]? := by
  subst h
  rw [List.getElem?_append_right (by omega)]
  congr 1
  omega
theorem st_get0 {S t : Store} {n : Nat} (h : S.length = n) : (S ++ t)[n]? = t[0]? := st_get (k := 0) h
theorem st_set {S t : Store} {n k : Nat} {o : Ob} (h : S.length = n) : (S ++ t).set (n + k) o = S ++ t.set k o := by
  subst h
  rw [List.set_append_right _ _ (by omega)]
  congr 2
  omega
/-! ### texts by their signs -/
theorem pm_strT {X : Cx} {W : XW} {i : Str} {l : List Nat} {j pos} (e : i = tx l) : PM X W (.Constant (.str i) j pos) (mC (.str (tx l))) := e ▸ pm_str
end L3
namespace L3
open PySem PySem.Spec L2
/-! ### rows of whole numbers in order -/
def it (l : List Int) : D := .tup (l.map D.int)
def ile (a b : List Int) : Bool := decide (a ≤ b)
theorem ile_trans (a b c : List Int) (h : ile a b = true) (h' : ile b c = true) : ile a c = true := by
  simp only [ile, decide_eq_true_eq] at *
  exact List.le_trans h h'
theorem ile_total (a b : List Int) : (ile a b || ile b a) = true := by
  simp only [ile, Bool.or_eq_true, decide_eq_true_eq]
  exact List.le_total a b
section
variable {β : Type} (f : β → List Int)
def sortBy (xs : List β) : List β := xs.mergeSort fun a b => ile (f a) (f b)
theorem sortBy_perm (xs : List β) : (sortBy f xs).Perm xs := List.mergeSort_perm _ _
theorem sortBy_le (xs : List β) : (sortBy f xs).Pairwise fun a b => ile (f a) (f b) = true :=
  List.pairwise_mergeSort (le := fun a b => ile (f a) (f b)) (fun a b c => ile_trans (f a) (f b) (f c)) (fun a b => ile_total (f a) (f b)) xs
theorem sortBy_mem {xs : List β} {x : β} : x ∈ sortBy f xs ↔ x ∈ xs := (sortBy_perm f xs).mem_iff
end
theorem toks_ints (xs ys : List Int) : PySem.W.rowLt (xs.map PyData.int) (ys.map PyData.int) = decide (xs < ys) := PySem.W.dataLt_ints xs ys
theorem enc_it (l : List Int) : encD (it l) = .tuple (l.map PyData.int) := by
  simp only [encD, it, toPy, toPys_ints]
  rfl
theorem dLe_it (a b : List Int) : dLe (it a) (it b) = ile a b := by
  have e : dLe (it a) (it b) = !PySem.W.dataLt (encD (it b)) (encD (it a)) := by
    unfold dLe
    rw [PySem.W.dataLe_eq]
    rfl
  rw [e, enc_it, enc_it, PySem.W.dataLt_tuple]
  show (!PySem.W.rowLt (b.map PyData.int) (a.map PyData.int)) = _
  rw [toks_ints]
  unfold ile
  by_cases h : b < a
  · have h' : ¬ a ≤ b := fun r => List.not_lt.mpr r h
    simp [h, h']
  · have h' : a ≤ b := List.not_lt.mp h
    simp [h, h']
theorem alike_ints : ∀ xs ys : List Int, PySem.W.alikeAll (xs.map PyData.int) (ys.map PyData.int) = true
  | [], _ => by simp [PySem.W.alikeAll]
  | _ :: _, [] => by simp [PySem.W.alikeAll]
  | x :: xs, y :: ys => by simp [PySem.W.alikeAll, PySem.W.alike, alike_ints xs ys]
theorem srt_it {xs : List (List Int)} (h : ∀ x ∈ xs, x ≠ []) : Srt (xs.map it) := by
  have hp : ∀ l : List Int, toPy (it l) = some (.tuple (l.map PyData.int)) := fun l => by simp only [it, toPy, toPys_ints]; rfl
  refine ⟨⟨_, toPys_map hp xs⟩, ?_, .inl fun d hd => ?_, fun d hd => ?_⟩
  · rw [List.map_map]
    exact PySem.W.AllAlike.of (enc := encD ∘ it) fun a b => by
      simp only [Function.comp, enc_it, PySem.W.alike]
      exact alike_ints a b
  · rw [List.map_map] at hd
    obtain ⟨l, hl, rfl⟩ := List.mem_map.mp hd
    simp only [Function.comp, enc_it]
    cases l with
    | nil => exact absurd rfl (h _ hl)
    | cons a r => exact ⟨_, _, rfl⟩
  · obtain ⟨l, hl, rfl⟩ := List.mem_map.mp hd
    rw [enc_it]
    simp [PyData.depth, depth_ints]
theorem sorted_it {β : Type} (f : β → List Int) {xs : List β} {S : Store} (h : ∀ x ∈ xs, f x ≠ []) (hl : xs.length ≤ 16777216) : sortedD [.lst (xs.map fun x => it (f x))] S = .ok (.lst ((sortBy f xs).map fun x => it (f x))) S := by
  have e : (xs.map fun x => it (f x)) = (xs.map f).map it := by rw [List.map_map]; rfl
  rw [sortedK (by rw [e]; exact srt_it fun x hx => by obtain ⟨y, hy, rfl⟩ := List.mem_map.mp hx; exact h y hy) (by simpa using hl)]
  unfold sortBy
  rw [List.map_mergeSort (f := fun x => it (f x)) (r := fun a b => ile (f a) (f b)) (s := dLe) (fun a _ b _ => (dLe_it (f a) (f b)).symm)]
/-! ### tiles, and dicts from places to numbers -/
abbrev Tl := Int × Int × Int
def tk (t : Tl) : List Int := [t.1, t.2.1, t.2.2]
abbrev tl (t : Tl) : D := .tup [.int t.1, .int t.2.1, .int t.2.2]
def sortT (xs : List Tl) : List Tl := sortBy tk xs
theorem sorted_tl {xs : List Tl} {S : Store} (hl : xs.length ≤ 16777216) : sortedD [.lst (xs.map tl)] S = .ok (.lst ((sortT xs).map tl)) S := sorted_it tk (fun _ _ => by simp [tk]) hl
theorem sortT_mem {xs : List Tl} {t : Tl} : t ∈ sortT xs ↔ t ∈ xs := sortBy_mem tk
abbrev Pl := Int × Int
abbrev pl (q : Pl) : D := .tup [.int q.1, .int q.2]
/-- a dict from places to whole numbers -/
abbrev Mp := List (Pl × Int)
def Mp.get (m : Mp) (q : Pl) : Option Int := (m.find? fun e => decide (e.1 = q)).map (·.2)
def Mp.put (m : Mp) (q : Pl) (k : Int) : Mp := if m.any (fun e => decide (e.1 = q)) = true then m.map (fun e => if e.1 = q then (e.1, k) else e) else m ++ [(q, k)]
/-! ### texts -/
section
variable {S : Store} {Q : D → Store → Prop} {l : List Nat} {ls : List (List Nat)}
theorem p_join1 (hl : l.length ≤ 16777216) (h : Q (.str (tx l)) S) : Ok (joinD (.str (tx [])) [.lst (l.map fun c => D.str (tx [c]))] S) Q := k_eq (joinK hl) h
theorem p_mulS {n : Nat} (hl : n ≤ 16777216) {c : Nat} (h : Q (.str (tx (List.replicate n c))) S) : Ok (mulX (.str (tx [c])) (.int (n : Nat)) S) Q := k_eq (mulCK hl) h
theorem p_eqNil {b : Bool} {i : Nat} {ds : List D} (e : S[i]? = some (.lst ds)) (hp : D.pls 63 ds = true) (h : Q (.bl (xor b ds.isEmpty)) S) : Ok (eqD b (.loc i) (.lst []) S) Q := k_eq (eqNilL b e hp) h
open Classical in
theorem p_eqP {b : Bool} {d e : D} (h1 : D.pl 64 d = true) (h2 : D.pl 64 e = true) (h : Q (.bl (xor b (decide (d = e)))) S) : Ok (eqD b d e S) Q := k_eq (eqP h1 h2) h
end
theorem p_eqB {S : Store} {Q : D → Store → Prop} {b x y : Bool} (h : Q (.bl (xor b (decide (x = y)))) S) : Ok (eqD b (.bl x) (.bl y) S) Q := by
  refine k_eq (S := S) (x := .bl (xor b (decide (x = y)))) ?_ h
  rw [e_eqO, pyS_bl, pyS_bl, eqO_some (by simp [SeqAt.shaped, PyData.canLay0, PyData.depth]) (by simp [SeqAt.shaped, PyData.canLay0, PyData.depth])]

  cases x <;> cases y <;> simp [PyData.eqv]
theorem sorted_loc {S : Store} {l : Nat} {es : List D} (h : S[l]? = some (.lst es)) : sortedD [.loc l] S = sortedD [.lst es] S := by
  have h1 : rdL S (.loc l) = some es := by simp [rdL, exL, h]
  have h2 : rdL S (.lst es) = some es := rfl
  simp only [sortedD, h1, h2]
theorem p_sortL {S : Store} {Q : D → Store → Prop} {l : Nat} {es : List D} (h : S[l]? = some (.lst es)) (k : Ok (sortedD [.lst es] S) Q) : Ok (sortedD [.loc l] S) Q := by rw [sorted_loc h]; exact k
theorem p_isi {S : Store} {Q : D → Store → Prop} {T : String} {d : D} {b : Bool} (e : isiD T d S = .ok (.bl b) S) (h : Q (.bl b) S) : Ok (isiD T d S) Q := k_eq e h
theorem pl_tl (k : Nat) (t : Tl) : D.pl (k + 1) (tl t) = true := by simp [tl]
theorem sc_map {α : Type} {f : α → D} {n : Nat} {xs : List α} (h : ∀ x, (f x).sc n = true) : D.scs n (xs.map f) = true := by
  induction xs with
  | nil => rfl
  | cons x xs ih => rw [List.map_cons]; simp only [D.scs, h x, ih]; rfl
end L3
namespace L3
open PySem PySem.Spec L2
/-! ### objects and their methods; repr -/
section
variable {σ : DSt} {S : Store} {E : XEv} {N B C : DSt → Store → Prop} {R Q : D → Store → Prop} {mo mv : DSt → Store → Res D} {ms : DSt → Store → Res (List D)} {cs : List Str} {f c m : Str} {n : Nat} {den : List D → Store → Res D}
end
mutual
/-- data to be shown: small numbers, texts, tuples -/
def D.rp (k : Nat) : D → Bool
  | .non => true
  | .bl _ => true
  | .int i => decide (0 ≤ i ∧ i < 1000)
  | .str x => x.cps.all (· < 1114112)
  | .tup ds => match k with
    | 0 => false
    | k + 1 => D.rps k ds
  | .ktp ds => match k with
    | 0 => false
    | k + 1 => D.rps k ds
  | _ => false
def D.rps (k : Nat) : List D → Bool
  | [] => true
  | d :: ds => D.rp k d && D.rps k ds
end
section
variable {S : Store} {Q : D → Store → Prop} {ds : List D} {d : D} {i : Int} {k : Nat}
theorem p_tupX (h : Q (.ktp ds) S) : Ok (tupleXD [.lst ds] S) Q := ⟨_, _, rfl, h⟩
theorem p_ixP (e : atI ds i = some d) (h : Q d S) : Ok (ixD (.ktp ds) (.int i) S) Q := by
  have h1 : seqOf S (.ktp ds) = some ds := rfl
  exact k_eq (by simp only [ixD, h1, e] <;> rfl) h
theorem p_ixPm {α : Type} {xs : List α} {f : α → D} {x : α} (e : xs[k]? = some x) (h : Q (f x) S) : Ok (ixD (.ktp (xs.map f)) (.int (k : Nat)) S) Q := p_ixP (by rw [atI_nat, List.getElem?_map, e]; rfl) h
end
end L3
namespace L3
open PySem PySem.Spec L2
theorem k_enumA {σ : DSt} {S : Store} {ms : DSt → Store → Res (List D)} {QS : Src → Store → Prop} (h : Ok (ms σ S) fun ds S => ∃ d s, ds = [d] ∧ enumSrc d S = some s ∧ QS ⟨(s.items.zipIdx).map fun p : D × Nat => D.tup [.int p.2, p.1], s.guard⟩ S) : Ok (mEnumA ms σ S) QS := by
  unfold mEnumA
  refine k_bind (h.imp fun ds S h => ?_)
  obtain ⟨d, s, rfl, e, h⟩ := h
  refine k_eq (x := ⟨enumD 0 s.items, s.guard⟩) (S := S) (by simp only [e]) ?_
  rw [enumD_eq]
  exact h
theorem p_isB {S : Store} {Q : D → Store → Prop} {n a b : Bool} (h : Q (.bl (xor n (decide (a = b)))) S) : Ok (isBD n (.bl a) (.bl b) S) Q := ⟨_, _, rfl, h⟩
theorem p_isNl {S : Store} {Q : D → Store → Prop} {b : Bool} {i : Nat} (h : Q (.bl b) S) : Ok (isND b (.loc i) .non S) Q := ⟨_, _, rfl, h⟩
theorem p_isNt {S : Store} {Q : D → Store → Prop} {b : Bool} {ds : List D} (h : Q (.bl b) S) : Ok (isND b (.tup ds) .non S) Q := ⟨_, _, rfl, h⟩
theorem k_en {S : Store} {d : D} {s : Src} {P : Src → Prop} (e : enumSrc d S = some s) (h : P s) : ∃ d' s', [d] = [d'] ∧ enumSrc d' S = some s' ∧ P s' := ⟨_, _, rfl, e, h⟩
theorem wf_id {r : Res Fl} {E : XEv} {N B C : DSt → Store → Prop} {R : D → Store → Prop} (h : WfX E r N R B C) : WfX E r N R B C := h
theorem w_raise {c : Str} {σ : DSt} {S : Store} {E : XEv} {N B C : DSt → Store → Prop} {R : D → Store → Prop} (h : E c [] S) : WfX E (mRaise c σ S) N R B C := h
theorem br_id {b : Bool} {p q : Prop} (h : Br b p q) : Br b p q := h
theorem mWhile_eqv {c : DSt → Store → Res Bool} {b : DSt → Store → Res Fl} {σ σ2 : DSt} {S S1 S2 : Store} (h : c σ S = .ok true S1) (hb : b σ S1 = .ok (.ct σ2) S2) : mWhile c b σ S = mWhile c b σ2 S2 := by
  by_cases hx : ∃ n r, whileN c b n σ2 S2 = some r
  · obtain ⟨n, r, hn⟩ := hx
    rw [mWhile_of hn]
    exact mWhile_of (n := n + 1) (by simp only [whileN, h, hb]; exact hn)
  · have hy : ¬ ∃ n r, whileN c b n σ S = some r := by
      rintro ⟨n, r, hn⟩
      cases n with
      | zero => simp [whileN] at hn
      | succ n =>
        simp only [whileN, h, hb] at hn
        exact hx ⟨n, r, hn⟩
    unfold mWhile
    rw [dif_neg hx, dif_neg hy]
/-- while, with a measure -/
theorem w_while {c : DSt → Store → Res Bool} {b : DSt → Store → Res Fl} {σ : DSt} {S : Store} {N B C : DSt → Store → Prop} {R : D → Store → Prop} (I : Nat → DSt → Store → Prop) (n : Nat) (h0 : I n σ S)
    (hs : ∀ n σ S, I n σ S → Ok (c σ S) fun t S => Br t (Wf (b σ S) (fun σ S => ∃ m, m < n ∧ I m σ S) R N (fun σ S => ∃ m, m < n ∧ I m σ S)) (N σ S)) : Wf (mWhile c b σ S) N R B C := by
  induction n using Nat.strongRecOn generalizing σ S with
  | ind n ih =>
    obtain ⟨t, S1, e, h⟩ := hs n σ S h0
    cases t with
    | false => rw [mWhile_false e]; exact h
    | true =>
      have h : Wf (b σ S1) _ _ _ _ := h
      cases eb : b σ S1 with
      | stuck => rw [eb] at h; exact h.elim
      | exc _ _ _ => rw [eb] at h; exact h.elim
      | ok fl S2 =>
        rw [eb] at h
        cases fl with
        | nx σ2 =>
          obtain ⟨m, hm, hi⟩ := h
          rw [mWhile_true e eb]
          exact ih m hm hi
        | ct σ2 =>
          obtain ⟨m, hm, hi⟩ := h
          rw [mWhile_eqv e eb]
          exact ih m hm hi
        | bk σ2 =>
          rw [mWhile_of (n := 1) (r := .ok (.nx σ2) S2) (by simp only [whileN, e, eb])]
          exact h
        | rt d =>
          rw [mWhile_of (n := 1) (r := .ok (.rt d) S2) (by simp only [whileN, e, eb])]
          exact h
        | ex _ _ _ => exact h.elim
end L3
namespace L3
open PySem PySem.Spec L2
theorem w_par3 {σ : DSt} {S : Store} {E : XEv} {N B C : DSt → Store → Prop} {R : D → Store → Prop} {ms : DSt → Store → Res (List D)} {i j l : Nat} (h : Ok (ms σ S) fun ds S => ∃ x y z, ds = [x, y, z] ∧ ∀ σ', ((σ.set i (some x)).set j (some y)).set l (some z) = σ' → N σ' S) : WfX E (mPar3 i j l ms σ S) N R B C := w_lift (h.imp fun t S1 h => by
  obtain ⟨x, y, z, rfl, h⟩ := h
  exact h _ rfl)
theorem par3_of {σ : DSt} {i j l : Nat} {x y z : D} {P : DSt → Prop} (h : ∀ σ', ((σ.set i (some x)).set j (some y)).set l (some z) = σ' → P σ') : ∃ x' y' z', [x, y, z] = [x', y', z'] ∧ ∀ σ', ((σ.set i (some x')).set j (some y')).set l (some z') = σ' → P σ' := ⟨x, y, z, rfl, h⟩
end L3

namespace L3
open PySem PySem.Spec L2
/-! ### rules for exceptions that are kept -/
section
variable {l : List Str} {lf : List (Str × Str)} {i j : Nat} {mb : DSt → Store → Res Fl} {σ : DSt} {S : Store} {E : XEv} {N B C : DSt → Store → Prop} {R : D → Store → Prop} {Q : D → Store → Prop}
end
end L3
namespace L3
open PySem PySem.Spec L2
end L3
namespace L3
open PySem PySem.Spec L2
/-! ### the text -/
def topS (i : Nat) : Stmt := PySem.Challenge.pw_stickytiles_k64_what_is_framed.main.body.getD i (.Pass ⟨0, 0, 0, 0⟩)
abbrev s_frame_of : Stmt := topS 2
abbrev N_frame_of : List Str := ["wide", "high", "found", "x", "y"]
theorem sc_frame_of : FnScope ["wide", "high", "found", "x", "y"] ["wide", "high"] (defScope s_frame_of) := ⟨rfl, rfl, rfl, by decide +kernel, rfl, by decide +kernel, by decide +kernel⟩
abbrev s_law_start : Stmt := topS 5
abbrev N_law_start : List Str := ["_law_script", "_law_seed", "_law_k", "_law_cell"]
theorem sc_law_start : FnScope ["_law_script", "_law_seed", "_law_k", "_law_cell"] ["_law_script"] (defScope s_law_start) := ⟨rfl, rfl, rfl, by decide +kernel, rfl, by decide +kernel, by decide +kernel⟩
abbrev s_law_next : Stmt := topS 6
theorem sc_law_next : FnScope ["_law_state", "_law_many", "_law_digit"] ["_law_state", "_law_many"] (defScope s_law_next) := ⟨rfl, rfl, rfl, by decide +kernel, rfl, by decide +kernel, by decide +kernel⟩
abbrev s_law_look : Stmt := topS 9
abbrev N_law_look : List Str := ["_law_bed", "_law_enough", "_law_sticks", "_law_kinds", "_law_wide", "_law_high", "_law_seed", "_law_at", "_law_kind", "_law_places", "_law_x", "_law_y", "_law_name", "_law_strength", "_law_other", "_law_tile"]
theorem sc_law_look : FnScope ["_law_bed", "_law_enough", "_law_sticks", "_law_kinds", "_law_wide", "_law_high", "_law_seed", "_law_at", "_law_kind", "_law_places", "_law_x", "_law_y", "_law_name", "_law_strength", "_law_other", "_law_tile"] ["_law_bed"] (defScope s_law_look) := ⟨rfl, rfl, rfl, by decide +kernel, rfl, by decide +kernel, by decide +kernel⟩
abbrev s_law_with : Stmt := topS 10
theorem sc_law_with : FnScope ["_law_things", "_law_at", "_law_thing"] ["_law_things", "_law_at", "_law_thing"] (defScope s_law_with) := ⟨rfl, rfl, rfl, by decide +kernel, rfl, by decide +kernel, by decide +kernel⟩
abbrev s_is_framed : Stmt := topS 3
abbrev N_is_framed : List Str := ["bed", "enough", "sticks", "kinds", "wide", "high", "seed", "told", "name", "strength", "kind", "face", "north", "east", "south", "west", "x", "y"]
theorem sc_is_framed : FnScope ["bed", "enough", "sticks", "kinds", "wide", "high", "seed", "told", "name", "strength", "kind", "face", "north", "east", "south", "west", "x", "y"] ["bed"] (defScope s_is_framed) := ⟨rfl, rfl, rfl, by decide +kernel, rfl, by decide +kernel, by decide +kernel⟩
abbrev s_law_names : Stmt := topS 7
abbrev N_law_names : List Str := ["_law_state", "_law_many", "_law_letters", "_law_first", "_law_step", "_law_size", "_law_stem", "_law_at", "_law_k"]
theorem sc_law_names : FnScope ["_law_state", "_law_many", "_law_letters", "_law_first", "_law_step", "_law_size", "_law_stem", "_law_at", "_law_k"] ["_law_state", "_law_many"] (defScope s_law_names) := ⟨rfl, rfl, rfl, by decide +kernel, rfl, by decide +kernel, by decide +kernel⟩
abbrev s_law_house_otherwise : Stmt := topS 11
abbrev N_law_house_otherwise : List Str := ["_law_state", "_law_house", "_law_enough", "_law_sticks", "_law_kinds", "_law_way", "_law_at", "_law_stick", "_law_name", "_law_other", "_law_one", "_law_strength"]
theorem sc_law_house_otherwise : FnScope ["_law_state", "_law_house", "_law_enough", "_law_sticks", "_law_kinds", "_law_way", "_law_at", "_law_stick", "_law_name", "_law_other", "_law_one", "_law_strength"] ["_law_state", "_law_house"] (defScope s_law_house_otherwise) := ⟨rfl, rfl, rfl, by decide +kernel, rfl, by decide +kernel, by decide +kernel⟩
abbrev s_law_framed : Stmt := topS 8
abbrev N_law_framed : List Str := ["_law_state", "_law_most", "_law_kinds_most", "_law_names_here", "_law_many", "_law_twos", "_law_south", "_law_signs", "_law_kinds", "_law_turn", "_law_east", "_law_face", "_law_wide", "_law_high", "_law_seed", "_law_x", "_law_y", "_law_name"]
theorem sc_law_framed : FnScope ["_law_state", "_law_most", "_law_kinds_most", "_law_names_here", "_law_many", "_law_twos", "_law_south", "_law_signs", "_law_kinds", "_law_turn", "_law_east", "_law_face", "_law_wide", "_law_high", "_law_seed", "_law_x", "_law_y", "_law_name"] ["_law_state", "_law_most", "_law_kinds_most"] (defScope s_law_framed) := ⟨rfl, rfl, rfl, by decide +kernel, rfl, by decide +kernel, by decide +kernel⟩
abbrev s_law_otherwise : Stmt := topS 12
abbrev N_law_otherwise : List Str := ["_law_state", "_law_bed", "_law_house", "_law_wide", "_law_high", "_law_seed", "_law_way", "_law_at", "_law_lies", "_law_free", "_law_x", "_law_some", "_law_tile", "_law_y"]
theorem sc_law_otherwise : FnScope ["_law_state", "_law_bed", "_law_house", "_law_wide", "_law_high", "_law_seed", "_law_way", "_law_at", "_law_lies", "_law_free", "_law_x", "_law_some", "_law_tile", "_law_y"] ["_law_state", "_law_bed"] (defScope s_law_otherwise) := ⟨rfl, rfl, rfl, by decide +kernel, rfl, by decide +kernel, by decide +kernel⟩
abbrev s_law : Stmt := topS 13
theorem sc_law : FnScope ["_law_script", "_law_state", "_law_turn", "_law_bed", "_law_k", "_law_other", "_law_found"] ["_law_script"] (defScope s_law) := ⟨rfl, rfl, rfl, by decide +kernel, rfl, by decide +kernel, by decide +kernel⟩
set_option genInjectivity false in
set_option genSizeOf false in
set_option genSizeOfSpec false in
/-- what the top has written -/
structure Txt (K : PySem.W.Frag) (mg : Str → Option Value) where
  f_frame_of : Addr
  e_frame_of : FuncData
  F_frame_of : Fun K "frame_of" "frame_of" s_frame_of f_frame_of e_frame_of
  g_frame_of : mg "frame_of" = some (.ref f_frame_of)
  b_frame_of : Binds K e_frame_of ["wide", "high"] []
  f_law_start : Addr
  e_law_start : FuncData
  F_law_start : Fun K "_law_start" "_law_start" s_law_start f_law_start e_law_start
  g_law_start : mg "_law_start" = some (.ref f_law_start)
  b_law_start : Binds K e_law_start ["_law_script"] []
  f_law_next : Addr
  e_law_next : FuncData
  F_law_next : Fun K "_law_next" "_law_next" s_law_next f_law_next e_law_next
  g_law_next : mg "_law_next" = some (.ref f_law_next)
  b_law_next : Binds K e_law_next ["_law_state", "_law_many"] []
  f_law_look : Addr
  e_law_look : FuncData
  F_law_look : Fun K "_law_look" "_law_look" s_law_look f_law_look e_law_look
  g_law_look : mg "_law_look" = some (.ref f_law_look)
  b_law_look : Binds K e_law_look ["_law_bed"] []
  f_law_with : Addr
  e_law_with : FuncData
  F_law_with : Fun K "_law_with" "_law_with" s_law_with f_law_with e_law_with
  g_law_with : mg "_law_with" = some (.ref f_law_with)
  b_law_with : Binds K e_law_with ["_law_things", "_law_at", "_law_thing"] []
  f_is_framed : Addr
  e_is_framed : FuncData
  F_is_framed : Fun K "is_framed" "is_framed" s_is_framed f_is_framed e_is_framed
  g_is_framed : mg "is_framed" = some (.ref f_is_framed)
  b_is_framed : Binds K e_is_framed ["bed"] []
  f_law_names : Addr
  e_law_names : FuncData
  F_law_names : Fun K "_law_names" "_law_names" s_law_names f_law_names e_law_names
  g_law_names : mg "_law_names" = some (.ref f_law_names)
  b_law_names : Binds K e_law_names ["_law_state", "_law_many"] []
  f_law_house_otherwise : Addr
  e_law_house_otherwise : FuncData
  F_law_house_otherwise : Fun K "_law_house_otherwise" "_law_house_otherwise" s_law_house_otherwise f_law_house_otherwise e_law_house_otherwise
  g_law_house_otherwise : mg "_law_house_otherwise" = some (.ref f_law_house_otherwise)
  b_law_house_otherwise : Binds K e_law_house_otherwise ["_law_state", "_law_house"] []
  f_law_framed : Addr
  e_law_framed : FuncData
  F_law_framed : Fun K "_law_framed" "_law_framed" s_law_framed f_law_framed e_law_framed
  g_law_framed : mg "_law_framed" = some (.ref f_law_framed)
  b_law_framed : Binds K e_law_framed ["_law_state", "_law_most", "_law_kinds_most"] []
  f_law_otherwise : Addr
  e_law_otherwise : FuncData
  F_law_otherwise : Fun K "_law_otherwise" "_law_otherwise" s_law_otherwise f_law_otherwise e_law_otherwise
  g_law_otherwise : mg "_law_otherwise" = some (.ref f_law_otherwise)
  b_law_otherwise : Binds K e_law_otherwise ["_law_state", "_law_bed"] []
  f_law : Addr
  e_law : FuncData
  F_law : Fun K "law" "law" s_law f_law e_law
  g_law : mg "law" = some (.ref f_law)
  b_law : Binds K e_law ["_law_script"] []
  n_abs : mg "abs" = none
  n_any : mg "any" = none
  n_bool : mg "bool" = none
  n_enumerate : mg "enumerate" = none
  n_int : mg "int" = none
  n_isinstance : mg "isinstance" = none
  n_len : mg "len" = none
  n_list : mg "list" = none
  n_min : mg "min" = none
  n_range : mg "range" = none
  n_set : mg "set" = none
  n_sorted : mg "sorted" = none
  n_tuple : mg "tuple" = none
  c_FRAMED_ENOUGH : ∃ t, mg "FRAMED_ENOUGH" = some (.int 2 t)
section
variable {P : Program} {w : World} {K : PySem.W.Frag} {mg : Str → Option Value} {base : Heap}
theorem lt_0 : Str.ofString "" = tx [] := by decide +kernel
def lc_az : List Nat := [97, 98, 99, 100, 101, 102, 103, 104, 105, 106, 107, 108, 109, 110, 111, 112, 113, 114, 115, 116, 117, 118, 119, 120, 121, 122]
theorem lt_1 : Str.ofString "abcdefghijklmnopqrstuvwxyz" = tx lc_az := by decide +kernel
def lc_azd : List Nat := [97, 98, 99, 100, 101, 102, 103, 104, 105, 106, 107, 108, 109, 110, 111, 112, 113, 114, 115, 116, 117, 118, 119, 120, 121, 122, 48, 49, 50, 51, 52, 53, 54, 55, 56, 57]
theorem lt_2 : Str.ofString "abcdefghijklmnopqrstuvwxyz0123456789" = tx lc_azd := by decide +kernel
noncomputable def t1_frame_of : DSt → Store → Res Bool :=
  (mOrT (mT (m2 (mVar 4) (mC (.int 0)) (eqD false))) (mT (m2 (mVar 3) (m2 (mVar 0) (mC (.int 1)) subD) (eqD false))))
noncomputable def e1_frame_of : DSt → Store → Res D :=
  (mTup (mCons (mVar 3) (mCons (mVar 4) mNil)))
noncomputable def b1_frame_of : DSt → Store → Res Fl :=
  (mDo (mBM "list" extendD (mVar 2) (mCons (mLc (mRng1 (mCons (mVar 1) mNil)) (gtName 4) t1_frame_of
  e1_frame_of [4]) mNil)))
noncomputable def m_frame_of : DSt → Store → Res Fl :=
  (mSeq (mSet 2 (mLstM mNil))
  (mSeq (mFor (mRng1 (mCons (mVar 0) mNil)) (gtName 3)
  b1_frame_of)
  (mRet (mVar 2))))
noncomputable def d_frame_of : List D → Store → Res D := gcF (denOf 5 m_frame_of)
theorem ok_frame_of (T : Txt K mg) : FnOk P w K mg base CX0 1 T.f_frame_of T.e_frame_of ["wide", "high"] (spD K mg 2 d_frame_of) :=
  fn_gcF (fn_den T.F_frame_of sc_frame_of fun cdv A outer s H E hr =>
   ((pms_cons (pms_set (i := 2) sc_frame_of.nd rfl (Or.inl rfl) (pm_lstM pma_nil))
  (pms_cons (pms_for PassesOwn.never rfl (pmi_range1 (by rfl) T.n_range (pma_cons (pm_var 0) pma_nil)) (pmg_name (i := 3) sc_frame_of.nd rfl (Or.inr rfl))
  (pms_one (pms_expr (pm_bm md_extend PySem.F.plainAttrs_list PySem.F.slot_list_extend PySem.F.type_list_extend (pm_var 2) (pma_cons (pm_lc (own := [("y", 4)]) (is := [4]) rfl sc_frame_of.nd (pmi_range1 (by rfl) T.n_range (pma_cons (pm_var 1) pma_nil)) (blkOk_by (by show blkC N_frame_of (defScope s_frame_of) _ _ = true; decide +kernel)) (fun _ _ _ _ _ => (pmx_name (i := 4) sc_frame_of.nd rfl (Or.inl rfl))) (fun _ _ _ _ _ => pmt_one (PMW.pt (pmw_or (pmt_cmp (od_eq hr.units) (pm_var 4) pm_int (nomark _)) (pmw_or1 (pmt_cmp (od_eq hr.units) (pm_var 3) (pm_op od_sub (pm_var 0) pm_int) (nomark _)))))) (fun _ _ _ _ _ => (pm_tup (pma_cons (pm_var 3) (pma_cons (pm_var 4) pma_nil)))) (by decide)) pma_nil)))))
  (pms_one (pms_ret (pm_var 2)))))))
noncomputable def b1_law_start : DSt → Store → Res Fl :=
  (mSet 1 (m2 (m2 (m2 (m2 (m2 (mVar 1) (mC (.int 1000003)) mulX) (m2 (mVar 3) (mC (.int 2305843009213693951)) modD) addD) (m2 (mC (.int 31)) (mVar 2) mulX) addD) (mC (.int 7)) addD) (mC (.int 2305843009213693951)) modD))
noncomputable def t1_law_start : DSt → Store → Res Bool :=
  (mT (m2 (mCB absD (mCons (mVar 3) mNil)) (m2 (mC (.int 10)) (mC (.int 18)) powD) (cmpI fun i j => decide (j ≤ i))))
noncomputable def e1_law_start : DSt → Store → Res D :=
  (mCB absD (mCons (mVar 3) mNil))
noncomputable def m_law_start : DSt → Store → Res Fl :=
  (mSeq (mSet 1 (mC (.int 17)))
  (mSeq (mFor (mEnumA (mCons (mSl (mVar 0) mNoPart (mPart (mC (.int 63)))) mNil)) (gtTup 2 (gtCons (gtName 2) (gtCons (gtName 3) gtNil)))
  b1_law_start)
  (mRet (mLstM (mCons (mLcM (mSeqI (mSl (mVar 0) mNoPart (mPart (mC (.int 63))))) (gtName 3) t1_law_start
  e1_law_start [3]) (mCons (mVar 1) mNil))))))
noncomputable def d_law_start : List D → Store → Res D := denOf 4 m_law_start
theorem ok_law_start (T : Txt K mg) : FnOk P w K mg base CX0 1 T.f_law_start T.e_law_start ["_law_script"] (spD K mg 1 d_law_start) :=
  fn_den T.F_law_start sc_law_start fun cdv A outer s H E hr =>
   ((pms_cons (pms_set (i := 1) sc_law_start.nd rfl (Or.inl rfl) pm_int)
  (pms_cons (pms_for PassesOwn.never rfl (pmi_enumA (by rfl) T.n_enumerate (pma_cons (pm_slice (pm_var 0) pmo_none (pmo_some pm_int)) pma_nil)) (pmg_tup rfl (pmgs_cons (pmg_name (i := 2) sc_law_start.nd rfl (Or.inl rfl)) (pmgs_cons (pmg_name (i := 3) sc_law_start.nd rfl (Or.inl rfl)) pmgs_nil)))
  (pms_one (pms_set (i := 1) sc_law_start.nd rfl (Or.inl rfl) (pm_op od_mod (pm_op od_add (pm_op od_add (pm_op od_add (pm_op od_mulX (pm_var 1) pm_int) (pm_op od_mod (pm_var 3) pm_int)) (pm_op od_mulX pm_int (pm_var 2))) pm_int) pm_int))))
  (pms_one (pms_ret (pm_lstM (pma_cons (pm_lcM (own := [("_law_cell", 3)]) (is := [3]) rfl sc_law_start.nd (pmi_seq (pm_slice (pm_var 0) pmo_none (pmo_some pm_int))) (blkOk_by (by show blkC N_law_start (defScope s_law_start) _ _ = true; decide +kernel)) (fun _ _ _ _ _ => (pmx_name (i := 3) sc_law_start.nd rfl (Or.inl rfl))) (fun _ _ _ _ _ => pmt_one (pmt_cmp od_ge (pm_callB cd_abs (by rfl) T.n_abs bb_abs (pma_cons (pm_var 3) pma_nil)) (pm_op od_pow pm_int pm_int) (nomark _))) (fun _ _ _ _ _ => (pm_callB cd_abs (by rfl) T.n_abs bb_abs (pma_cons (pm_var 3) pma_nil))) (by decide)) (pma_cons (pm_var 1) pma_nil))))))))
noncomputable def t1_law_next : DSt → Store → Res Bool :=
  (mAndT (mT (m2 (m2 (mVar 0) (mC (.int 0)) ixD) (mLst mNil) (eqD true))) (mT (m2 (m2 (m2 (mVar 0) (mC (.int 0)) ixD) (mC (.int 0)) ixD) (mC (.int 0)) (eqD false))))
noncomputable def b1_law_next : DSt → Store → Res Fl :=
  (mDo (mBM "list" popD (m2 (mVar 0) (mC (.int 0)) ixD) (mCons (mC (.int 0)) mNil)))
noncomputable def m_law_next : DSt → Store → Res Fl :=
  (mSeq (mWhile t1_law_next
  b1_law_next)
  (mSeq (mIfS (mT (m2 (m2 (mVar 0) (mC (.int 0)) ixD) (mLst mNil) (eqD true)))
  (mSeq (mSet 2 (m2 (m2 (m2 (mVar 0) (mC (.int 0)) ixD) (mC (.int 0)) ixD) (mVar 1) modD))
  (mSeq (mAsg (m2 (m2 (m2 (mVar 0) (mC (.int 0)) ixD) (mC (.int 0)) ixD) (mVar 1) fdivD) (gtSub (m2 (mVar 0) (mC (.int 0)) ixD) (mC (.int 0)) setD))
  (mRet (mVar 2))))
  mSkip)
  (mSeq (mAsg (m2 (m2 (m2 (m2 (mVar 0) (mC (.int 1)) ixD) (mC (.int 6364136223846793005)) mulX) (mC (.int 1442695040888963407)) addD) (mC (.int 2305843009213693951)) modD) (gtSub (mVar 0) (mC (.int 1)) setD))
  (mRet (m2 (m2 (m2 (m2 (m2 (mVar 0) (mC (.int 1)) ixD) (m2 (m2 (m2 (mVar 0) (mC (.int 1)) ixD) (mC (.int 1000003)) modD) (mC (.int 48271)) addD) mulX) (mC (.int 2305843009213693951)) modD) (mC (.int 4099)) fdivD) (mVar 1) modD)))))
noncomputable def d_law_next : List D → Store → Res D := gcD (denOf 3 m_law_next)
theorem ok_law_next (T : Txt K mg) : FnOk P w K mg base CX0 1 T.f_law_next T.e_law_next ["_law_state", "_law_many"] (spD K mg 2 d_law_next) :=
  fn_gc (fn_den T.F_law_next sc_law_next fun cdv A outer s H E hr =>
   ((pms_cons (pms_while PassesOwn.never (PMW.pt (pmw_and (pmt_cmp (od_ne hr.units) (pm_ix (hu_of hr) (pm_var 0) pm_int (fun _ _ => rfl)) (pm_lst pma_nil) (nomark _)) (pmw_and1 (pmt_cmp (od_eq hr.units) (pm_ix (hu_of hr) (pm_ix (hu_of hr) (pm_var 0) pm_int (fun _ _ => rfl)) pm_int (fun _ _ => rfl)) pm_int (nomark _)))))
  (pms_one (pms_expr (pm_bm md_pop PySem.F.plainAttrs_list PySem.F.slot_list_pop PySem.F.type_list_pop (pm_ix (hu_of hr) (pm_var 0) pm_int (fun _ _ => rfl)) (pma_cons pm_int pma_nil)))))
  (pms_cons (pms_if (pmt_cmp (od_ne hr.units) (pm_ix (hu_of hr) (pm_var 0) pm_int (fun _ _ => rfl)) (pm_lst pma_nil) (nomark _))
  (pms_cons (pms_set (i := 2) sc_law_next.nd rfl (Or.inl rfl) (pm_op od_mod (pm_ix (hu_of hr) (pm_ix (hu_of hr) (pm_var 0) pm_int (fun _ _ => rfl)) pm_int (fun _ _ => rfl)) (pm_var 1)))
  (pms_cons (pms_asg (pm_op od_fdiv (pm_ix (hu_of hr) (pm_ix (hu_of hr) (pm_var 0) pm_int (fun _ _ => rfl)) pm_int (fun _ _ => rfl)) (pm_var 1)) (pmg_sub (W := W0) (pm_ix (hu_of hr) (pm_var 0) pm_int (fun _ _ => rfl)) pm_int (os_set (hu_of hr))))
  (pms_one (pms_ret (pm_var 2)))))
  pms_nil)
  (pms_cons (pms_asg (pm_op od_mod (pm_op od_add (pm_op od_mulX (pm_ix (hu_of hr) (pm_var 0) pm_int (fun _ _ => rfl)) pm_int) pm_int) pm_int) (pmg_sub (W := W0) (pm_var 0) pm_int (os_set (hu_of hr))))
  (pms_one (pms_ret (pm_op od_mod (pm_op od_fdiv (pm_op od_mod (pm_op od_mulX (pm_ix (hu_of hr) (pm_var 0) pm_int (fun _ _ => rfl)) (pm_op od_add (pm_op od_mod (pm_ix (hu_of hr) (pm_var 0) pm_int (fun _ _ => rfl)) pm_int) pm_int)) pm_int) pm_int) (pm_var 1)))))))))
noncomputable def t1_law_look : DSt → Store → Res Bool :=
  (mT (m2 (mVar 13) (mC (.int 1)) (eqD true)))
noncomputable def e1_law_look : DSt → Store → Res D :=
  (mVar 12)
noncomputable def e2_law_look : DSt → Store → Res D :=
  (mSl (mVar 14) (mPart (mC (.int 2))) (mPart (mC (.int 4))))
noncomputable def b1_law_look : DSt → Store → Res Fl :=
  (mIfS (mOrT (mT (m2 (mC (.str (tx []))) (mSl (mVar 8) (mPart (mC (.int 1))) mNoPart) (inD false))) (mT (m2 (mSl (mVar 8) (mPart (mC (.int 2))) (mPart (mC (.int 4)))) (mLc (mSeqI (mSl (mVar 3) mNoPart (mPart (mVar 7)))) (gtName 14) (fun _ S => .ok true S)
  e2_law_look [14]) (inD false))))
  (mRet (mC (.bl false)))
  mSkip)
noncomputable def e3_law_look : DSt → Store → Res D :=
  (mSl (mVar 15) mNoPart (mPart (mC (.int 2))))
noncomputable def b2_law_look : DSt → Store → Res Fl :=
  (mIfS (mT (m2 (m2 (mTup (mCons (mVar 10) (mCons (mVar 11) mNil))) (mVar 9) (inD false)) (mOrV (m2 (mVar 11) (mC (.int 0)) (eqD false)) (m2 (mVar 10) (m2 (mVar 4) (mC (.int 1)) subD) (eqD false))) (eqD true)))
  (mRet (mC (.bl false)))
  mSkip)
noncomputable def b3_law_look : DSt → Store → Res Fl :=
  (mFor (mRng1 (mCons (mVar 5) mNil)) (gtName 11)
  b2_law_look)
noncomputable def m_law_look : DSt → Store → Res Fl :=
  (mSeq (mAsg (mVar 0) (gtTup 3 (gtCons (gtTup 3 (gtCons (gtName 1) (gtCons (gtName 2) (gtCons (gtName 3) gtNil)))) (gtCons (gtTup 2 (gtCons (gtName 4) (gtCons (gtName 5) gtNil))) (gtCons (gtName 6) gtNil)))))
  (mSeq (mIfS (mOrT (mT (m2 (mVar 1) (mC (.int 2)) (eqD true))) (mT (m2 (mLc (mSeqI (mVar 2)) (gtTup 2 (gtCons (gtName 12) (gtCons (gtName 13) gtNil))) t1_law_look
  e1_law_look [12, 13]) (mLst mNil) (eqD true))))
  (mRet (mC (.bl false)))
  mSkip)
  (mSeq (mFor (mEnumA (mCons (mVar 3) mNil)) (gtTup 2 (gtCons (gtName 7) (gtCons (gtName 8) gtNil)))
  b1_law_look)
  (mSeq (mSet 9 (mLc (mSeqI (mVar 6)) (gtName 15) (fun _ S => .ok true S)
  e3_law_look [15]))
  (mSeq (mFor (mRng1 (mCons (mVar 4) mNil)) (gtName 10)
  b3_law_look)
  (mRet (mC (.bl true))))))))
noncomputable def d_law_look : List D → Store → Res D := gcD (denOf 16 m_law_look)
theorem ok_law_look (T : Txt K mg) : FnOk P w K mg base CX0 1 T.f_law_look T.e_law_look ["_law_bed"] (spD K mg 1 d_law_look) :=
  fn_gc (fn_den T.F_law_look sc_law_look fun cdv A outer s H E hr =>
   ((pms_cons (pms_asg (pm_var 0) (pmg_tup rfl (pmgs_cons (pmg_tup rfl (pmgs_cons (pmg_name (i := 1) sc_law_look.nd rfl (Or.inl rfl)) (pmgs_cons (pmg_name (i := 2) sc_law_look.nd rfl (Or.inl rfl)) (pmgs_cons (pmg_name (i := 3) sc_law_look.nd rfl (Or.inl rfl)) pmgs_nil)))) (pmgs_cons (pmg_tup rfl (pmgs_cons (pmg_name (i := 4) sc_law_look.nd rfl (Or.inl rfl)) (pmgs_cons (pmg_name (i := 5) sc_law_look.nd rfl (Or.inl rfl)) pmgs_nil))) (pmgs_cons (pmg_name (i := 6) sc_law_look.nd rfl (Or.inl rfl)) pmgs_nil)))))
  (pms_cons (pms_if (PMW.pt (pmw_or (pmt_cmp (od_ne hr.units) (pm_var 1) pm_int (nomark _)) (pmw_or1 (pmt_cmp (od_ne hr.units) (pm_lc (own := [("_law_name", 12), ("_law_strength", 13)]) (is := [12, 13]) rfl sc_law_look.nd (pmi_seq (pm_var 2)) (blkOk_by (by show blkC N_law_look (defScope s_law_look) _ _ = true; decide +kernel)) (fun _ _ _ _ _ => (pmx_tup rfl (pmxs_cons (pmx_name (i := 12) sc_law_look.nd rfl (Or.inl rfl)) (pmxs_cons (pmx_name (i := 13) sc_law_look.nd rfl (Or.inl rfl)) pmxs_nil)))) (fun _ _ _ _ _ => pmt_one (pmt_cmp (od_ne hr.units) (pm_var 13) pm_int (nomark _))) (fun _ _ _ _ _ => (pm_var 12)) (by decide)) (pm_lst pma_nil) (nomark _)))))
  (pms_one (pms_ret pm_bl))
  pms_nil)
  (pms_cons (pms_for PassesOwn.never rfl (pmi_enumA (by rfl) T.n_enumerate (pma_cons (pm_var 3) pma_nil)) (pmg_tup rfl (pmgs_cons (pmg_name (i := 7) sc_law_look.nd rfl (Or.inl rfl)) (pmgs_cons (pmg_name (i := 8) sc_law_look.nd rfl (Or.inl rfl)) pmgs_nil)))
  (pms_one (pms_if (PMW.pt (pmw_or (pmt_cmp (od_in (u65 hr)) (pm_strT lt_0) (pm_slice (pm_var 8) (pmo_some pm_int) pmo_none) (by with_unfolding_all rfl)) (pmw_or1 (pmt_cmp (od_in (u65 hr)) (pm_slice (pm_var 8) (pmo_some pm_int) (pmo_some pm_int)) (pm_lc (own := [("_law_other", 14)]) (is := [14]) rfl sc_law_look.nd (pmi_seq (pm_slice (pm_var 3) pmo_none (pmo_some (pm_var 7)))) (blkOk_by (by show blkC N_law_look (defScope s_law_look) _ _ = true; decide +kernel)) (fun _ _ _ _ _ => (pmx_name (i := 14) sc_law_look.nd rfl (Or.inl rfl))) (fun _ _ _ _ _ => pmt_nil) (fun _ _ _ _ _ => (pm_slice (pm_var 14) (pmo_some pm_int) (pmo_some pm_int))) (by decide)) (by with_unfolding_all rfl)))))
  (pms_one (pms_ret pm_bl))
  pms_nil)))
  (pms_cons (pms_setLc (i := 9) (own := [("_law_tile", 15)]) (is := [15]) rfl sc_law_look.nd rfl rfl (sw_true rfl rfl rfl (by decide +kernel)) (pmi_seq (pm_var 6)) (blkOk_by (by show blkC N_law_look (defScope s_law_look) _ _ = true; decide +kernel)) (fun _ _ _ _ _ => (pmx_name (i := 15) sc_law_look.nd rfl (Or.inl rfl))) (fun _ _ _ _ _ => pmt_nil) (fun _ _ _ _ _ => (pm_slice (pm_var 15) pmo_none (pmo_some pm_int))) (by decide))
  (pms_cons (pms_for PassesOwn.never rfl (pmi_range1 (by rfl) T.n_range (pma_cons (pm_var 4) pma_nil)) (pmg_name (i := 10) sc_law_look.nd rfl (Or.inl rfl))
  (pms_one (pms_for PassesOwn.never rfl (pmi_range1 (by rfl) T.n_range (pma_cons (pm_var 5) pma_nil)) (pmg_name (i := 11) sc_law_look.nd rfl (Or.inl rfl))
  (pms_one (pms_if (pmt_cmp (od_ne hr.units) (pm_cmp (od_in (u65 hr)) (pm_tup (pma_cons (pm_var 10) (pma_cons (pm_var 11) pma_nil))) (pm_var 9) (by with_unfolding_all rfl)) (pm_or (pm_cmp (od_eq hr.units) (pm_var 11) pm_int (nomark _)) (pm_one (pm_cmp (od_eq hr.units) (pm_var 10) (pm_op od_sub (pm_var 4) pm_int) (nomark _)))) (nomark _))
  (pms_one (pms_ret pm_bl))
  pms_nil)))))
  (pms_one (pms_ret pm_bl)))))))))
noncomputable def m_law_with : DSt → Store → Res Fl :=
  (mRet (m2 (m2 (mSl (mVar 0) mNoPart (mPart (mVar 1))) (mTup (mCons (mVar 2) mNil)) addD) (mSl (mVar 0) (mPart (m2 (mVar 1) (mC (.int 1)) addD)) mNoPart) addD))
noncomputable def d_law_with : List D → Store → Res D := gcD (denOf 3 m_law_with)
theorem ok_law_with (T : Txt K mg) : FnOk P w K mg base CX0 1 T.f_law_with T.e_law_with ["_law_things", "_law_at", "_law_thing"] (spD K mg 3 d_law_with) :=
  fn_gc (fn_den T.F_law_with sc_law_with fun cdv A outer s H E hr =>
   ((pms_one (pms_ret (pm_op od_add (pm_op od_add (pm_slice (pm_var 0) pmo_none (pmo_some (pm_var 1))) (pm_tup (pma_cons (pm_var 2) pma_nil))) (pm_slice (pm_var 0) (pmo_some (pm_op od_add (pm_var 1) pm_int)) pmo_none))))))
noncomputable def e1_is_framed : DSt → Store → Res D :=
  (m2 (mVar 9) (mC (.int 1)) (eqD true))
noncomputable def e2_is_framed : DSt → Store → Res D :=
  (m2 (mC (.str (tx []))) (mSl (mVar 10) (mPart (mC (.int 1))) mNoPart) (inD false))
noncomputable def e3_is_framed : DSt → Store → Res D :=
  (mTup (mCons (mVar 14) (mCons (mVar 13) mNil)))
noncomputable def e4_is_framed : DSt → Store → Res D :=
  (mTup (mCons (mVar 16) (mCons (mVar 17) mNil)))
noncomputable def m_is_framed : DSt → Store → Res Fl :=
  (mSeq (mAsg (mVar 0) (gtTup 3 (gtCons (gtTup 3 (gtCons (gtName 1) (gtCons (gtName 2) (gtCons (gtName 3) gtNil)))) (gtCons (gtTup 2 (gtCons (gtName 4) (gtCons (gtName 5) gtNil))) (gtCons (gtName 6) gtNil)))))
  (mSeq (mIfS (mOrT (mT (m2 (mVar 1) (mC (.int 2)) (eqD true))) (mT (mCB (onBls fun bs => .bl (bs.any id)) (mCons (mLc (mSeqI (mVar 2)) (gtTup 2 (gtCons (gtName 8) (gtCons (gtName 9) gtNil))) (fun _ S => .ok true S)
  e1_is_framed [8, 9]) mNil))))
  (mRet (mC (.bl false)))
  mSkip)
  (mSeq (mIfS (mT (mCB (onBls fun bs => .bl (bs.any id)) (mCons (mLc (mSeqI (mVar 3)) (gtName 10) (fun _ S => .ok true S)
  e2_is_framed [10]) mNil)))
  (mRet (mC (.bl false)))
  mSkip)
  (mSeq (mSet 7 (mLc (mSeqI (mVar 3)) (gtTup 5 (gtCons (gtName 11) (gtCons (gtName 12) (gtCons (gtName 13) (gtCons (gtName 14) (gtCons (gtName 15) gtNil)))))) (fun _ S => .ok true S)
  e3_is_framed [11, 12, 13, 14, 15]))
  (mRet (mAndV (m2 (m1 (mVar 7) lenSetW) (mCB lenD (mCons (mVar 7) mNil)) (eqD false)) (m2 (mLc (mSeqI (mVar 6)) (gtTup 3 (gtCons (gtName 16) (gtCons (gtName 17) (gtCons (gtName 10) gtNil)))) (fun _ S => .ok true S)
  e4_is_framed [16, 17, 10]) (mCall 2 d_frame_of (mCons (mVar 4) (mCons (mVar 5) mNil))) (eqD false))))))))
noncomputable def d_is_framed : List D → Store → Res D := gcD (denOf 18 m_is_framed)
theorem ok_is_framed (T : Txt K mg) : FnOk P w K mg base CX0 2 T.f_is_framed T.e_is_framed ["bed"] (spD K mg 1 d_is_framed) :=
  fn_gc (fn_den T.F_is_framed sc_is_framed fun cdv A outer s H E hr =>
   ((pms_cons (pms_asg (pm_var 0) (pmg_tup rfl (pmgs_cons (pmg_tup rfl (pmgs_cons (pmg_name (i := 1) sc_is_framed.nd rfl (Or.inl rfl)) (pmgs_cons (pmg_name (i := 2) sc_is_framed.nd rfl (Or.inl rfl)) (pmgs_cons (pmg_name (i := 3) sc_is_framed.nd rfl (Or.inl rfl)) pmgs_nil)))) (pmgs_cons (pmg_tup rfl (pmgs_cons (pmg_name (i := 4) sc_is_framed.nd rfl (Or.inl rfl)) (pmgs_cons (pmg_name (i := 5) sc_is_framed.nd rfl (Or.inl rfl)) pmgs_nil))) (pmgs_cons (pmg_name (i := 6) sc_is_framed.nd rfl (Or.inl rfl)) pmgs_nil)))))
  (pms_cons (pms_if (PMW.pt (pmw_or (pmt_cmp (od_ne hr.units) (pm_var 1) (pm_gint (by rfl) T.c_FRAMED_ENOUGH) (nomark _)) (pmw_or1 (pmt_val (pm_callB (cd_any rfl) (by rfl) T.n_any bb_any (pma_cons (pm_lc (own := [("name", 8), ("strength", 9)]) (is := [8, 9]) rfl sc_is_framed.nd (pmi_seq (pm_var 2)) (blkOk_by (by show blkC N_is_framed (defScope s_is_framed) _ _ = true; decide +kernel)) (fun _ _ _ _ _ => (pmx_tup rfl (pmxs_cons (pmx_name (i := 8) sc_is_framed.nd rfl (Or.inl rfl)) (pmxs_cons (pmx_name (i := 9) sc_is_framed.nd rfl (Or.inl rfl)) pmxs_nil)))) (fun _ _ _ _ _ => pmt_nil) (fun _ _ _ _ _ => (pm_cmp (od_ne hr.units) (pm_var 9) pm_int (nomark _))) (by decide)) pma_nil))))))
  (pms_one (pms_ret pm_bl))
  pms_nil)
  (pms_cons (pms_if (pmt_val (pm_callB (cd_any rfl) (by rfl) T.n_any bb_any (pma_cons (pm_lc (own := [("kind", 10)]) (is := [10]) rfl sc_is_framed.nd (pmi_seq (pm_var 3)) (blkOk_by (by show blkC N_is_framed (defScope s_is_framed) _ _ = true; decide +kernel)) (fun _ _ _ _ _ => (pmx_name (i := 10) sc_is_framed.nd rfl (Or.inl rfl))) (fun _ _ _ _ _ => pmt_nil) (fun _ _ _ _ _ => (pm_cmp (od_in (u65 hr)) (pm_strT lt_0) (pm_slice (pm_var 10) (pmo_some pm_int) pmo_none) (by with_unfolding_all rfl))) (by decide)) pma_nil)))
  (pms_one (pms_ret pm_bl))
  pms_nil)
  (pms_cons (pms_setLc (i := 7) (own := [("face", 11), ("north", 12), ("east", 13), ("south", 14), ("west", 15)]) (is := [11, 12, 13, 14, 15]) rfl sc_is_framed.nd rfl rfl (sw_true rfl rfl rfl (by decide +kernel)) (pmi_seq (pm_var 3)) (blkOk_by (by show blkC N_is_framed (defScope s_is_framed) _ _ = true; decide +kernel)) (fun _ _ _ _ _ => (pmx_tup rfl (pmxs_cons (pmx_name (i := 11) sc_is_framed.nd rfl (Or.inl rfl)) (pmxs_cons (pmx_name (i := 12) sc_is_framed.nd rfl (Or.inl rfl)) (pmxs_cons (pmx_name (i := 13) sc_is_framed.nd rfl (Or.inl rfl)) (pmxs_cons (pmx_name (i := 14) sc_is_framed.nd rfl (Or.inl rfl)) (pmxs_cons (pmx_name (i := 15) sc_is_framed.nd rfl (Or.inl rfl)) pmxs_nil))))))) (fun _ _ _ _ _ => pmt_nil) (fun _ _ _ _ _ => (pm_tup (pma_cons (pm_var 14) (pma_cons (pm_var 13) pma_nil)))) (by decide))
  (pms_one (pms_ret (pm_and (pm_cmp (od_eq hr.units) (pm_lenSetW rfl (u8 hr) (by rfl) T.n_len (by rfl) T.n_set (pm_var 7)) (pm_callB cd_len (by rfl) T.n_len bb_len (pma_cons (pm_var 7) pma_nil)) (nomark _)) (pm_one (pm_cmp (od_eq hr.units) (pm_lc (own := [("x", 16), ("y", 17), ("kind", 10)]) (is := [16, 17, 10]) rfl sc_is_framed.nd (pmi_seq (pm_var 6)) (blkOk_by (by show blkC N_is_framed (defScope s_is_framed) _ _ = true; decide +kernel)) (fun _ _ _ _ _ => (pmx_tup rfl (pmxs_cons (pmx_name (i := 16) sc_is_framed.nd rfl (Or.inl rfl)) (pmxs_cons (pmx_name (i := 17) sc_is_framed.nd rfl (Or.inl rfl)) (pmxs_cons (pmx_name (i := 10) sc_is_framed.nd rfl (Or.inl rfl)) pmxs_nil))))) (fun _ _ _ _ _ => pmt_nil) (fun _ _ _ _ _ => (pm_tup (pma_cons (pm_var 16) (pma_cons (pm_var 17) pma_nil)))) (by decide)) (pm_call (ok_frame_of T) (hr.mono (by decide)) (by rfl) T.g_frame_of T.F_frame_of.kp T.b_frame_of (pma_cons (pm_var 4) (pma_cons (pm_var 5) pma_nil))) (nomark _))))))))))))
noncomputable def e1_law_names : DSt → Store → Res D :=
  (m2 (mVar 2) (mCall 2 d_law_next (mCons (mVar 0) (mCons (mC (.int 26)) mNil))) ixD)
noncomputable def e2_law_names : DSt → Store → Res D :=
  (m2 (m2 (mVar 2) (mVar 3) ixD) (m2 (mVar 8) (mC (.int 1)) addD) mulX)
noncomputable def e3_law_names : DSt → Store → Res D :=
  (m2 (m2 (mSl (mVar 6) mNoPart (mPart (mVar 7))) (m2 (mVar 2) (m2 (m2 (mVar 3) (m2 (mVar 4) (mVar 8) mulX) addD) (mC (.int 26)) modD) ixD) addD) (mSl (mVar 6) (mPart (mVar 7)) mNoPart) addD)
noncomputable def m_law_names : DSt → Store → Res Fl :=
  (mSeq (mSet 2 (mC (.str (tx lc_az))))
  (mSeq (mAsg (mTup (mCons (mCall 2 d_law_next (mCons (mVar 0) (mCons (mC (.int 26)) mNil))) (mCons (m2 (mLst (mCons (mC (.int 1)) (mCons (mC (.int 3)) (mCons (mC (.int 5)) (mCons (mC (.int 7)) (mCons (mC (.int 9)) (mCons (mC (.int 11)) mNil))))))) (mCall 2 d_law_next (mCons (mVar 0) (mCons (mC (.int 6)) mNil))) ixD) mNil))) (gtTup 2 (gtCons (gtName 3) (gtCons (gtName 4) gtNil))))
  (mSeq (mSet 5 (mCall 2 d_law_next (mCons (mVar 0) (mCons (mC (.int 8)) mNil))))
  (mSeq (mSet 6 (mBM "str" joinD (mC (.str (tx []))) (mCons (mLc (mRng1 (mCons (mVar 5) mNil)) (gtName 8) (fun _ S => .ok true S)
  e1_law_names [8]) mNil)))
  (mSeq (mSet 7 (mCall 2 d_law_next (mCons (mVar 0) (mCons (m2 (mVar 5) (mC (.int 1)) addD) mNil))))
  (mSeq (mIfS (mAndT (mT (m2 (mVar 1) (mC (.int 9)) ltD)) (mT (m2 (mCall 2 d_law_next (mCons (mVar 0) (mCons (mC (.int 4)) mNil))) (mC (.int 0)) (eqD false))))
  (mRet (mCB sortedD (mCons (mLc (mRng1 (mCons (mVar 1) mNil)) (gtName 8) (fun _ S => .ok true S)
  e2_law_names [8]) mNil)))
  mSkip)
  (mRet (mCB sortedD (mCons (mLc (mRng1 (mCons (mVar 1) mNil)) (gtName 8) (fun _ S => .ok true S)
  e3_law_names [8]) mNil)))))))))
noncomputable def d_law_names : List D → Store → Res D := gcD (denOf 9 m_law_names)
theorem ok_law_names (T : Txt K mg) : FnOk P w K mg base CX0 2 T.f_law_names T.e_law_names ["_law_state", "_law_many"] (spD K mg 2 d_law_names) :=
  fn_gc (fn_den T.F_law_names sc_law_names fun cdv A outer s H E hr =>
   ((pms_cons (pms_set (i := 2) sc_law_names.nd rfl (Or.inr rfl) (pm_strT lt_1))
  (pms_cons (pms_asg (pm_tup (pma_cons (pm_call (ok_law_next T) (hr.mono (by decide)) (by rfl) T.g_law_next T.F_law_next.kp T.b_law_next (pma_cons (pm_var 0) (pma_cons pm_int pma_nil))) (pma_cons (pm_ix (hu_of hr) (pm_lst (pma_cons pm_int (pma_cons pm_int (pma_cons pm_int (pma_cons pm_int (pma_cons pm_int (pma_cons pm_int pma_nil))))))) (pm_call (ok_law_next T) (hr.mono (by decide)) (by rfl) T.g_law_next T.F_law_next.kp T.b_law_next (pma_cons (pm_var 0) (pma_cons pm_int pma_nil))) (fun _ _ => rfl)) pma_nil))) (pmg_tup rfl (pmgs_cons (pmg_name (i := 3) sc_law_names.nd rfl (Or.inr rfl)) (pmgs_cons (pmg_name (i := 4) sc_law_names.nd rfl (Or.inr rfl)) pmgs_nil))))
  (pms_cons (pms_set (i := 5) sc_law_names.nd rfl (Or.inl rfl) (pm_call (ok_law_next T) (hr.mono (by decide)) (by rfl) T.g_law_next T.F_law_next.kp T.b_law_next (pma_cons (pm_var 0) (pma_cons pm_int pma_nil))))
  (pms_cons (pms_set (i := 6) sc_law_names.nd rfl (Or.inr rfl) (pm_bm md_join PySem.F.plainAttrs_str PySem.F.slot_str_join PySem.F.type_str_join (pm_strT lt_0) (pma_cons (pm_lc (own := [("_law_k", 8)]) (is := [8]) rfl sc_law_names.nd (pmi_range1 (by rfl) T.n_range (pma_cons (pm_var 5) pma_nil)) (blkOk_by (by show blkC N_law_names (defScope s_law_names) _ _ = true; decide +kernel)) (fun _ _ _ _ _ => (pmx_name (i := 8) sc_law_names.nd rfl (Or.inl rfl))) (fun _ _ _ _ _ => pmt_nil) (fun _ _ _ _ _ => (pm_ix (hu_of hr) (pm_var 2) (pm_call (ok_law_next T) (hr.mono (by decide)) (by rfl) T.g_law_next T.F_law_next.kp T.b_law_next (pma_cons (pm_var 0) (pma_cons pm_int pma_nil))) (fun _ _ => rfl))) (by decide)) pma_nil)))
  (pms_cons (pms_set (i := 7) sc_law_names.nd rfl (Or.inr rfl) (pm_call (ok_law_next T) (hr.mono (by decide)) (by rfl) T.g_law_next T.F_law_next.kp T.b_law_next (pma_cons (pm_var 0) (pma_cons (pm_op od_add (pm_var 5) pm_int) pma_nil))))
  (pms_cons (pms_if (PMW.pt (pmw_and (pmt_cmp (od_lt hr.units0) (pm_var 1) pm_int (nomark _)) (pmw_and1 (pmt_cmp (od_eq hr.units) (pm_call (ok_law_next T) (hr.mono (by decide)) (by rfl) T.g_law_next T.F_law_next.kp T.b_law_next (pma_cons (pm_var 0) (pma_cons pm_int pma_nil))) pm_int (nomark _)))))
  (pms_one (pms_ret (pm_callB (cd_sorted hr.units) (by rfl) T.n_sorted bb_sorted (pma_cons (pm_lc (own := [("_law_k", 8)]) (is := [8]) rfl sc_law_names.nd (pmi_range1 (by rfl) T.n_range (pma_cons (pm_var 1) pma_nil)) (blkOk_by (by show blkC N_law_names (defScope s_law_names) _ _ = true; decide +kernel)) (fun _ _ _ _ _ => (pmx_name (i := 8) sc_law_names.nd rfl (Or.inl rfl))) (fun _ _ _ _ _ => pmt_nil) (fun _ _ _ _ _ => (pm_op od_mulX (pm_ix (hu_of hr) (pm_var 2) (pm_var 3) (fun _ _ => rfl)) (pm_op od_add (pm_var 8) pm_int))) (by decide)) pma_nil))))
  pms_nil)
  (pms_one (pms_ret (pm_callB (cd_sorted hr.units) (by rfl) T.n_sorted bb_sorted (pma_cons (pm_lc (own := [("_law_k", 8)]) (is := [8]) rfl sc_law_names.nd (pmi_range1 (by rfl) T.n_range (pma_cons (pm_var 1) pma_nil)) (blkOk_by (by show blkC N_law_names (defScope s_law_names) _ _ = true; decide +kernel)) (fun _ _ _ _ _ => (pmx_name (i := 8) sc_law_names.nd rfl (Or.inl rfl))) (fun _ _ _ _ _ => pmt_nil) (fun _ _ _ _ _ => (pm_op od_add (pm_op od_add (pm_slice (pm_var 6) pmo_none (pmo_some (pm_var 7))) (pm_ix (hu_of hr) (pm_var 2) (pm_op od_mod (pm_op od_add (pm_var 3) (pm_op od_mulX (pm_var 4) (pm_var 8))) pm_int) (fun _ _ => rfl))) (pm_slice (pm_var 6) (pmo_some (pm_var 7)) pmo_none))) (by decide)) pma_nil))))))))))))
noncomputable def e1_law_house_otherwise : DSt → Store → Res D :=
  (mVar 10)
noncomputable def m_law_house_otherwise : DSt → Store → Res Fl :=
  (mSeq (mAsg (mVar 1) (gtTup 3 (gtCons (gtName 2) (gtCons (gtName 3) (gtCons (gtName 4) gtNil)))))
  (mSeq (mSet 5 (mCall 2 d_law_next (mCons (mVar 0) (mCons (mC (.int 5)) mNil))))
  (mSeq (mSet 6 (mCall 2 d_law_next (mCons (mVar 0) (mCons (mCB lenD (mCons (mVar 4) mNil)) mNil))))
  (mSeq (mIfS (mT (m2 (mVar 5) (mC (.int 0)) (eqD false)))
  (mRet (mTup (mCons (m2 (mLst (mCons (mC (.int 1)) (mCons (mC (.int 3)) (mCons (mC (.int 4)) mNil)))) (mCall 2 d_law_next (mCons (mVar 0) (mCons (mC (.int 3)) mNil))) ixD) (mCons (mVar 3) (mCons (mVar 4) mNil)))))
  mSkip)
  (mSeq (mIfS (mT (m2 (mVar 5) (mC (.int 1)) (eqD false)))
  (mSeq (mSet 7 (mCall 2 d_law_next (mCons (mVar 0) (mCons (mCB lenD (mCons (mVar 3) mNil)) mNil))))
  (mRet (mTup (mCons (mVar 2) (mCons (mCall 3 d_law_with (mCons (mVar 3) (mCons (mVar 7) (mCons (mTup (mCons (m2 (m2 (mVar 3) (mVar 7) ixD) (mC (.int 0)) ixD) (mCons (m2 (mC (.int 1)) (mCall 2 d_law_next (mCons (mVar 0) (mCons (mC (.int 4)) mNil))) addD) mNil))) mNil)))) (mCons (mVar 4) mNil))))))
  mSkip)
  (mSeq (mIfS (mT (m2 (mVar 5) (mC (.int 2)) (eqD false)))
  (mSeq (mSet 8 (m2 (m2 (mTup (mCons (mC (.str (tx []))) mNil)) (mCB tupleD (mCons (mLc (mSeqI (mVar 3)) (gtTup 2 (gtCons (gtName 10) (gtCons (gtName 11) gtNil))) (fun _ S => .ok true S)
  e1_law_house_otherwise [10, 11]) mNil)) addD) (mCall 2 d_law_next (mCons (mVar 0) (mCons (m2 (mCB lenD (mCons (mVar 3) mNil)) (mC (.int 1)) addD) mNil))) ixD))
  (mRet (mTup (mCons (mVar 2) (mCons (mVar 3) (mCons (mCall 3 d_law_with (mCons (mVar 4) (mCons (mVar 6) (mCons (mCall 3 d_law_with (mCons (m2 (mVar 4) (mVar 6) ixD) (mCons (m2 (mC (.int 1)) (mCall 2 d_law_next (mCons (mVar 0) (mCons (mC (.int 4)) mNil))) addD) (mCons (mVar 8) mNil)))) mNil)))) mNil))))))
  mSkip)
  (mSeq (mSet 9 (m2 (mVar 4) (mCall 2 d_law_next (mCons (mVar 0) (mCons (mCB lenD (mCons (mVar 4) mNil)) mNil))) ixD))
  (mSeq (mIfS (mT (m2 (mVar 5) (mC (.int 3)) (eqD false)))
  (mRet (mTup (mCons (mVar 2) (mCons (mVar 3) (mCons (m2 (mVar 4) (mTup (mCons (mVar 9) mNil)) addD) mNil)))))
  mSkip)
  (mRet (mTup (mCons (mVar 2) (mCons (mVar 3) (mCons (mCall 3 d_law_with (mCons (mVar 4) (mCons (mVar 6) (mCons (m2 (m2 (mSl (m2 (mVar 4) (mVar 6) ixD) mNoPart (mPart (mC (.int 2)))) (mSl (mVar 9) (mPart (mC (.int 2))) (mPart (mC (.int 4)))) addD) (mSl (m2 (mVar 4) (mVar 6) ixD) (mPart (mC (.int 4))) mNoPart) addD) mNil)))) mNil)))))))))))))
noncomputable def d_law_house_otherwise : List D → Store → Res D := gcD (denOf 12 m_law_house_otherwise)
theorem ok_law_house_otherwise (T : Txt K mg) : FnOk P w K mg base CX0 2 T.f_law_house_otherwise T.e_law_house_otherwise ["_law_state", "_law_house"] (spD K mg 2 d_law_house_otherwise) :=
  fn_gc (fn_den T.F_law_house_otherwise sc_law_house_otherwise fun cdv A outer s H E hr =>
   ((pms_cons (pms_asg (pm_var 1) (pmg_tup rfl (pmgs_cons (pmg_name (i := 2) sc_law_house_otherwise.nd rfl (Or.inl rfl)) (pmgs_cons (pmg_name (i := 3) sc_law_house_otherwise.nd rfl (Or.inl rfl)) (pmgs_cons (pmg_name (i := 4) sc_law_house_otherwise.nd rfl (Or.inl rfl)) pmgs_nil)))))
  (pms_cons (pms_set (i := 5) sc_law_house_otherwise.nd rfl (Or.inl rfl) (pm_call (ok_law_next T) (hr.mono (by decide)) (by rfl) T.g_law_next T.F_law_next.kp T.b_law_next (pma_cons (pm_var 0) (pma_cons pm_int pma_nil))))
  (pms_cons (pms_set (i := 6) sc_law_house_otherwise.nd rfl (Or.inl rfl) (pm_call (ok_law_next T) (hr.mono (by decide)) (by rfl) T.g_law_next T.F_law_next.kp T.b_law_next (pma_cons (pm_var 0) (pma_cons (pm_callB cd_len (by rfl) T.n_len bb_len (pma_cons (pm_var 4) pma_nil)) pma_nil))))
  (pms_cons (pms_if (pmt_cmp (od_eq hr.units) (pm_var 5) pm_int (nomark _))
  (pms_one (pms_ret (pm_tup (pma_cons (pm_ix (hu_of hr) (pm_lst (pma_cons pm_int (pma_cons pm_int (pma_cons pm_int pma_nil)))) (pm_call (ok_law_next T) (hr.mono (by decide)) (by rfl) T.g_law_next T.F_law_next.kp T.b_law_next (pma_cons (pm_var 0) (pma_cons pm_int pma_nil))) (fun _ _ => rfl)) (pma_cons (pm_var 3) (pma_cons (pm_var 4) pma_nil))))))
  pms_nil)
  (pms_cons (pms_if (pmt_cmp (od_eq hr.units) (pm_var 5) pm_int (nomark _))
  (pms_cons (pms_set (i := 7) sc_law_house_otherwise.nd rfl (Or.inl rfl) (pm_call (ok_law_next T) (hr.mono (by decide)) (by rfl) T.g_law_next T.F_law_next.kp T.b_law_next (pma_cons (pm_var 0) (pma_cons (pm_callB cd_len (by rfl) T.n_len bb_len (pma_cons (pm_var 3) pma_nil)) pma_nil))))
  (pms_one (pms_ret (pm_tup (pma_cons (pm_var 2) (pma_cons (pm_call (ok_law_with T) (hr.mono (by decide)) (by rfl) T.g_law_with T.F_law_with.kp T.b_law_with (pma_cons (pm_var 3) (pma_cons (pm_var 7) (pma_cons (pm_tup (pma_cons (pm_ix (hu_of hr) (pm_ix (hu_of hr) (pm_var 3) (pm_var 7) (fun _ _ => rfl)) pm_int (fun _ _ => rfl)) (pma_cons (pm_op od_add pm_int (pm_call (ok_law_next T) (hr.mono (by decide)) (by rfl) T.g_law_next T.F_law_next.kp T.b_law_next (pma_cons (pm_var 0) (pma_cons pm_int pma_nil)))) pma_nil))) pma_nil)))) (pma_cons (pm_var 4) pma_nil)))))))
  pms_nil)
  (pms_cons (pms_if (pmt_cmp (od_eq hr.units) (pm_var 5) pm_int (nomark _))
  (pms_cons (pms_set (i := 8) sc_law_house_otherwise.nd rfl (Or.inl rfl) (pm_ix (hu_of hr) (pm_op od_add (pm_tup (pma_cons (pm_strT lt_0) pma_nil)) (pm_callTy cd_tuple (by rfl) T.n_tuple bb_tuple (pma_cons (pm_lc (own := [("_law_one", 10), ("_law_strength", 11)]) (is := [10, 11]) rfl sc_law_house_otherwise.nd (pmi_seq (pm_var 3)) (blkOk_by (by show blkC N_law_house_otherwise (defScope s_law_house_otherwise) _ _ = true; decide +kernel)) (fun _ _ _ _ _ => (pmx_tup rfl (pmxs_cons (pmx_name (i := 10) sc_law_house_otherwise.nd rfl (Or.inl rfl)) (pmxs_cons (pmx_name (i := 11) sc_law_house_otherwise.nd rfl (Or.inl rfl)) pmxs_nil)))) (fun _ _ _ _ _ => pmt_nil) (fun _ _ _ _ _ => (pm_var 10)) (by decide)) pma_nil))) (pm_call (ok_law_next T) (hr.mono (by decide)) (by rfl) T.g_law_next T.F_law_next.kp T.b_law_next (pma_cons (pm_var 0) (pma_cons (pm_op od_add (pm_callB cd_len (by rfl) T.n_len bb_len (pma_cons (pm_var 3) pma_nil)) pm_int) pma_nil))) (fun _ _ => rfl)))
  (pms_one (pms_ret (pm_tup (pma_cons (pm_var 2) (pma_cons (pm_var 3) (pma_cons (pm_call (ok_law_with T) (hr.mono (by decide)) (by rfl) T.g_law_with T.F_law_with.kp T.b_law_with (pma_cons (pm_var 4) (pma_cons (pm_var 6) (pma_cons (pm_call (ok_law_with T) (hr.mono (by decide)) (by rfl) T.g_law_with T.F_law_with.kp T.b_law_with (pma_cons (pm_ix (hu_of hr) (pm_var 4) (pm_var 6) (fun _ _ => rfl)) (pma_cons (pm_op od_add pm_int (pm_call (ok_law_next T) (hr.mono (by decide)) (by rfl) T.g_law_next T.F_law_next.kp T.b_law_next (pma_cons (pm_var 0) (pma_cons pm_int pma_nil)))) (pma_cons (pm_var 8) pma_nil)))) pma_nil)))) pma_nil)))))))
  pms_nil)
  (pms_cons (pms_set (i := 9) sc_law_house_otherwise.nd rfl (Or.inl rfl) (pm_ix (hu_of hr) (pm_var 4) (pm_call (ok_law_next T) (hr.mono (by decide)) (by rfl) T.g_law_next T.F_law_next.kp T.b_law_next (pma_cons (pm_var 0) (pma_cons (pm_callB cd_len (by rfl) T.n_len bb_len (pma_cons (pm_var 4) pma_nil)) pma_nil))) (fun _ _ => rfl)))
  (pms_cons (pms_if (pmt_cmp (od_eq hr.units) (pm_var 5) pm_int (nomark _))
  (pms_one (pms_ret (pm_tup (pma_cons (pm_var 2) (pma_cons (pm_var 3) (pma_cons (pm_op od_add (pm_var 4) (pm_tup (pma_cons (pm_var 9) pma_nil))) pma_nil))))))
  pms_nil)
  (pms_one (pms_ret (pm_tup (pma_cons (pm_var 2) (pma_cons (pm_var 3) (pma_cons (pm_call (ok_law_with T) (hr.mono (by decide)) (by rfl) T.g_law_with T.F_law_with.kp T.b_law_with (pma_cons (pm_var 4) (pma_cons (pm_var 6) (pma_cons (pm_op od_add (pm_op od_add (pm_slice (pm_ix (hu_of hr) (pm_var 4) (pm_var 6) (fun _ _ => rfl)) pmo_none (pmo_some pm_int)) (pm_slice (pm_var 9) (pmo_some pm_int) (pmo_some pm_int))) (pm_slice (pm_ix (hu_of hr) (pm_var 4) (pm_var 6) (fun _ _ => rfl)) (pmo_some pm_int) pmo_none)) pma_nil)))) pma_nil))))))))))))))))
noncomputable def e1_law_framed : DSt → Store → Res D :=
  (mTup (mCons (mVar 6) (mCons (mVar 10) mNil)))
noncomputable def b1_law_framed : DSt → Store → Res Fl :=
  (mDo (mBM "list" extendD (mVar 5) (mCons (mLc (mSeqI (mVar 3)) (gtName 10) (fun _ S => .ok true S)
  e1_law_framed [10]) mNil)))
noncomputable def b2_law_framed : DSt → Store → Res Fl :=
  (mSeq (mAsg (mBM "list" popD (mVar 5) (mCons (mCall 2 d_law_next (mCons (mVar 0) (mCons (mCB lenD (mCons (mVar 5) mNil)) mNil))) mNil)) (gtTup 2 (gtCons (gtName 6) (gtCons (gtName 10) gtNil))))
  (mSeq (mSet 11 (m2 (mLst (mCons (mC (.str (tx []))) (mCons (m2 (mVar 7) (mCall 2 d_law_next (mCons (mVar 0) (mCons (mC (.int 36)) mNil))) ixD) mNil))) (mCall 2 d_law_next (mCons (mVar 0) (mCons (mC (.int 2)) mNil))) ixD))
  (mDo (mBM "list" appendD (mVar 8) (mCons (mTup (mCons (mVar 11) (mCons (m2 (mVar 3) (mCall 2 d_law_next (mCons (mVar 0) (mCons (mVar 4) mNil))) ixD) (mCons (mVar 10) (mCons (mVar 6) (mCons (m2 (mVar 3) (mCall 2 d_law_next (mCons (mVar 0) (mCons (mVar 4) mNil))) ixD) mNil)))))) mNil)))))
noncomputable def b3_law_framed : DSt → Store → Res Fl :=
  (mIfS (mOrT (mT (m2 (mVar 16) (mC (.int 0)) (eqD false))) (mT (m2 (mVar 15) (m2 (mVar 12) (mC (.int 1)) subD) (eqD false))))
  (mDo (mBM "list" appendD (mVar 14) (mCons (mTup (mCons (mVar 15) (mCons (mVar 16) (mCons (mCall 2 d_law_next (mCons (mVar 0) (mCons (mCB lenD (mCons (mVar 8) mNil)) mNil))) mNil)))) mNil)))
  mSkip)
noncomputable def b4_law_framed : DSt → Store → Res Fl :=
  (mFor (mRng1 (mCons (mVar 13) mNil)) (gtName 16)
  b3_law_framed)
noncomputable def e2_law_framed : DSt → Store → Res D :=
  (mTup (mCons (mVar 17) (mCons (mC (.int 1)) mNil)))
noncomputable def m_law_framed : DSt → Store → Res Fl :=
  (mSeq (mSet 3 (mCall 2 d_law_names (mCons (mVar 0) (mCons (m2 (mC (.int 1)) (mCall 2 d_law_next (mCons (mVar 0) (mCons (mC (.int 4)) mNil))) addD) mNil))))
  (mSeq (mSet 4 (mCB lenD (mCons (mVar 3) mNil)))
  (mSeq (mSet 5 (mLstM mNil))
  (mSeq (mFor (mSeqI (mVar 3)) (gtName 6)
  b1_law_framed)
  (mSeq (mSet 7 (mC (.str (tx lc_azd))))
  (mSeq (mSet 8 (mLstM mNil))
  (mSeq (mFor (mRng1 (mCons (mCB min2D (mCons (mCB lenD (mCons (mVar 5) mNil)) (mCons (m2 (mC (.int 1)) (mCall 2 d_law_next (mCons (mVar 0) (mCons (mVar 2) mNil))) addD) mNil))) mNil)) (gtName 9)
  b2_law_framed)
  (mSeq (mPar 12 13 (mCons (m2 (mC (.int 1)) (mCall 2 d_law_next (mCons (mVar 0) (mCons (mVar 1) mNil))) addD) (mCons (m2 (mC (.int 1)) (mCall 2 d_law_next (mCons (mVar 0) (mCons (mVar 1) mNil))) addD) mNil)))
  (mSeq (mSet 14 (mLstM mNil))
  (mSeq (mFor (mRng1 (mCons (mVar 12) mNil)) (gtName 15)
  b4_law_framed)
  (mRet (mTup (mCons (mTup (mCons (mC (.int 2)) (mCons (mCB tupleD (mCons (mLc (mSeqI (mVar 3)) (gtName 17) (fun _ S => .ok true S)
  e2_law_framed [17]) mNil)) (mCons (mCB tupleD (mCons (mVar 8) mNil)) mNil)))) (mCons (mTup (mCons (mVar 12) (mCons (mVar 13) mNil))) (mCons (mCB tupleD (mCons (mVar 14) mNil)) mNil)))))))))))))))
noncomputable def d_law_framed : List D → Store → Res D := gcD (denOf 18 m_law_framed)
theorem ok_law_framed (T : Txt K mg) : FnOk P w K mg base CX0 3 T.f_law_framed T.e_law_framed ["_law_state", "_law_most", "_law_kinds_most"] (spD K mg 3 d_law_framed) :=
  fn_gc (fn_den T.F_law_framed sc_law_framed fun cdv A outer s H E hr =>
   ((pms_cons (pms_set (i := 3) sc_law_framed.nd rfl (Or.inl rfl) (pm_call (ok_law_names T) (hr.mono (by decide)) (by rfl) T.g_law_names T.F_law_names.kp T.b_law_names (pma_cons (pm_var 0) (pma_cons (pm_op od_add pm_int (pm_call (ok_law_next T) (hr.mono (by decide)) (by rfl) T.g_law_next T.F_law_next.kp T.b_law_next (pma_cons (pm_var 0) (pma_cons pm_int pma_nil)))) pma_nil))))
  (pms_cons (pms_set (i := 4) sc_law_framed.nd rfl (Or.inl rfl) (pm_callB cd_len (by rfl) T.n_len bb_len (pma_cons (pm_var 3) pma_nil)))
  (pms_cons (pms_set (i := 5) sc_law_framed.nd rfl (Or.inl rfl) (pm_lstM pma_nil))
  (pms_cons (pms_for PassesOwn.never rfl (pmi_seq (pm_var 3)) (pmg_name (i := 6) sc_law_framed.nd rfl (Or.inr rfl))
  (pms_one (pms_expr (pm_bm md_extend PySem.F.plainAttrs_list PySem.F.slot_list_extend PySem.F.type_list_extend (pm_var 5) (pma_cons (pm_lc (own := [("_law_east", 10)]) (is := [10]) rfl sc_law_framed.nd (pmi_seq (pm_var 3)) (blkOk_by (by show blkC N_law_framed (defScope s_law_framed) _ _ = true; decide +kernel)) (fun _ _ _ _ _ => (pmx_name (i := 10) sc_law_framed.nd rfl (Or.inl rfl))) (fun _ _ _ _ _ => pmt_nil) (fun _ _ _ _ _ => (pm_tup (pma_cons (pm_var 6) (pma_cons (pm_var 10) pma_nil)))) (by decide)) pma_nil)))))
  (pms_cons (pms_set (i := 7) sc_law_framed.nd rfl (Or.inl rfl) (pm_strT lt_2))
  (pms_cons (pms_set (i := 8) sc_law_framed.nd rfl (Or.inl rfl) (pm_lstM pma_nil))
  (pms_cons (pms_for PassesOwn.never rfl (pmi_range1 (by rfl) T.n_range (pma_cons (pm_callB (cd_min2 rfl) (by rfl) T.n_min bb_min (pma_cons (pm_callB cd_len (by rfl) T.n_len bb_len (pma_cons (pm_var 5) pma_nil)) (pma_cons (pm_op od_add pm_int (pm_call (ok_law_next T) (hr.mono (by decide)) (by rfl) T.g_law_next T.F_law_next.kp T.b_law_next (pma_cons (pm_var 0) (pma_cons (pm_var 2) pma_nil)))) pma_nil))) pma_nil)) (pmg_name (i := 9) sc_law_framed.nd rfl (Or.inl rfl))
  (pms_cons (pms_asg (pm_bm md_pop PySem.F.plainAttrs_list PySem.F.slot_list_pop PySem.F.type_list_pop (pm_var 5) (pma_cons (pm_call (ok_law_next T) (hr.mono (by decide)) (by rfl) T.g_law_next T.F_law_next.kp T.b_law_next (pma_cons (pm_var 0) (pma_cons (pm_callB cd_len (by rfl) T.n_len bb_len (pma_cons (pm_var 5) pma_nil)) pma_nil))) pma_nil)) (pmg_tup rfl (pmgs_cons (pmg_name (i := 6) sc_law_framed.nd rfl (Or.inr rfl)) (pmgs_cons (pmg_name (i := 10) sc_law_framed.nd rfl (Or.inl rfl)) pmgs_nil))))
  (pms_cons (pms_set (i := 11) sc_law_framed.nd rfl (Or.inl rfl) (pm_ix (hu_of hr) (pm_lst (pma_cons (pm_strT lt_0) (pma_cons (pm_ix (hu_of hr) (pm_var 7) (pm_call (ok_law_next T) (hr.mono (by decide)) (by rfl) T.g_law_next T.F_law_next.kp T.b_law_next (pma_cons (pm_var 0) (pma_cons pm_int pma_nil))) (fun _ _ => rfl)) pma_nil))) (pm_call (ok_law_next T) (hr.mono (by decide)) (by rfl) T.g_law_next T.F_law_next.kp T.b_law_next (pma_cons (pm_var 0) (pma_cons pm_int pma_nil))) (fun _ _ => rfl)))
  (pms_one (pms_expr (pm_bm md_append PySem.F.plainAttrs_list PySem.F.slot_list_append PySem.F.type_list_append (pm_var 8) (pma_cons (pm_tup (pma_cons (pm_var 11) (pma_cons (pm_ix (hu_of hr) (pm_var 3) (pm_call (ok_law_next T) (hr.mono (by decide)) (by rfl) T.g_law_next T.F_law_next.kp T.b_law_next (pma_cons (pm_var 0) (pma_cons (pm_var 4) pma_nil))) (fun _ _ => rfl)) (pma_cons (pm_var 10) (pma_cons (pm_var 6) (pma_cons (pm_ix (hu_of hr) (pm_var 3) (pm_call (ok_law_next T) (hr.mono (by decide)) (by rfl) T.g_law_next T.F_law_next.kp T.b_law_next (pma_cons (pm_var 0) (pma_cons (pm_var 4) pma_nil))) (fun _ _ => rfl)) pma_nil)))))) pma_nil)))))))
  (pms_cons (pms_par (i := 12) (j := 13) rfl sc_law_framed.nd rfl rfl (by decide) rfl rfl (pma_cons (pm_op od_add pm_int (pm_call (ok_law_next T) (hr.mono (by decide)) (by rfl) T.g_law_next T.F_law_next.kp T.b_law_next (pma_cons (pm_var 0) (pma_cons (pm_var 1) pma_nil)))) (pma_cons (pm_op od_add pm_int (pm_call (ok_law_next T) (hr.mono (by decide)) (by rfl) T.g_law_next T.F_law_next.kp T.b_law_next (pma_cons (pm_var 0) (pma_cons (pm_var 1) pma_nil)))) pma_nil)) (by rfl))
  (pms_cons (pms_set (i := 14) sc_law_framed.nd rfl (Or.inl rfl) (pm_lstM pma_nil))
  (pms_cons (pms_for PassesOwn.never rfl (pmi_range1 (by rfl) T.n_range (pma_cons (pm_var 12) pma_nil)) (pmg_name (i := 15) sc_law_framed.nd rfl (Or.inl rfl))
  (pms_one (pms_for PassesOwn.never rfl (pmi_range1 (by rfl) T.n_range (pma_cons (pm_var 13) pma_nil)) (pmg_name (i := 16) sc_law_framed.nd rfl (Or.inl rfl))
  (pms_one (pms_if (PMW.pt (pmw_or (pmt_cmp (od_eq hr.units) (pm_var 16) pm_int (nomark _)) (pmw_or1 (pmt_cmp (od_eq hr.units) (pm_var 15) (pm_op od_sub (pm_var 12) pm_int) (nomark _)))))
  (pms_one (pms_expr (pm_bm md_append PySem.F.plainAttrs_list PySem.F.slot_list_append PySem.F.type_list_append (pm_var 14) (pma_cons (pm_tup (pma_cons (pm_var 15) (pma_cons (pm_var 16) (pma_cons (pm_call (ok_law_next T) (hr.mono (by decide)) (by rfl) T.g_law_next T.F_law_next.kp T.b_law_next (pma_cons (pm_var 0) (pma_cons (pm_callB cd_len (by rfl) T.n_len bb_len (pma_cons (pm_var 8) pma_nil)) pma_nil))) pma_nil)))) pma_nil))))
  pms_nil)))))
  (pms_one (pms_ret (pm_tup (pma_cons (pm_tup (pma_cons pm_int (pma_cons (pm_callTy cd_tuple (by rfl) T.n_tuple bb_tuple (pma_cons (pm_lc (own := [("_law_name", 17)]) (is := [17]) rfl sc_law_framed.nd (pmi_seq (pm_var 3)) (blkOk_by (by show blkC N_law_framed (defScope s_law_framed) _ _ = true; decide +kernel)) (fun _ _ _ _ _ => (pmx_name (i := 17) sc_law_framed.nd rfl (Or.inl rfl))) (fun _ _ _ _ _ => pmt_nil) (fun _ _ _ _ _ => (pm_tup (pma_cons (pm_var 17) (pma_cons pm_int pma_nil)))) (by decide)) pma_nil)) (pma_cons (pm_callTy cd_tuple (by rfl) T.n_tuple bb_tuple (pma_cons (pm_var 8) pma_nil)) pma_nil)))) (pma_cons (pm_tup (pma_cons (pm_var 12) (pma_cons (pm_var 13) pma_nil))) (pma_cons (pm_callTy cd_tuple (by rfl) T.n_tuple bb_tuple (pma_cons (pm_var 14) pma_nil)) pma_nil))))))))))))))))))
noncomputable def e1_law_otherwise : DSt → Store → Res D :=
  (mSl (mVar 12) mNoPart (mPart (mC (.int 2))))
noncomputable def t1_law_otherwise : DSt → Store → Res Bool :=
  (mT (m2 (mTup (mCons (mVar 10) (mCons (mVar 13) mNil))) (mVar 8) (inD true)))
noncomputable def e2_law_otherwise : DSt → Store → Res D :=
  (mTup (mCons (mVar 10) (mCons (mVar 13) mNil)))
noncomputable def b1_law_otherwise : DSt → Store → Res Fl :=
  (mDo (mBM "list" extendD (mVar 9) (mCons (mLc (mRng1 (mCons (mVar 4) mNil)) (gtName 13) t1_law_otherwise
  e2_law_otherwise [13]) mNil)))
noncomputable def m_law_otherwise : DSt → Store → Res Fl :=
  (mSeq (mAsg (mVar 1) (gtTup 3 (gtCons (gtName 2) (gtCons (gtTup 2 (gtCons (gtName 3) (gtCons (gtName 4) gtNil))) (gtCons (gtName 5) gtNil)))))
  (mSeq (mSet 6 (mCall 2 d_law_next (mCons (mVar 0) (mCons (mC (.int 8)) mNil))))
  (mSeq (mIfS (mT (m2 (mVar 6) (mC (.int 4)) ltD))
  (mRet (mTup (mCons (mCall 2 d_law_house_otherwise (mCons (mVar 0) (mCons (mVar 2) mNil))) (mCons (m2 (mVar 1) (mC (.int 1)) ixD) (mCons (mVar 5) mNil)))))
  mSkip)
  (mSeq (mSet 7 (mCall 2 d_law_next (mCons (mVar 0) (mCons (mCB lenD (mCons (mVar 5) mNil)) mNil))))
  (mSeq (mIfS (mT (m2 (mVar 6) (mC (.int 4)) (eqD false)))
  (mRet (mTup (mCons (mVar 2) (mCons (m2 (mVar 1) (mC (.int 1)) ixD) (mCons (m2 (mSl (mVar 5) mNoPart (mPart (mVar 7))) (mSl (mVar 5) (mPart (m2 (mVar 7) (mC (.int 1)) addD)) mNoPart) addD) mNil)))))
  mSkip)
  (mSeq (mIfS (mT (m2 (mVar 6) (mC (.int 5)) (eqD false)))
  (mRet (mTup (mCons (mVar 2) (mCons (m2 (mVar 1) (mC (.int 1)) ixD) (mCons (mCall 3 d_law_with (mCons (mVar 5) (mCons (mVar 7) (mCons (m2 (mSl (m2 (mVar 5) (mVar 7) ixD) mNoPart (mPart (mC (.int 2)))) (mTup (mCons (mCall 2 d_law_next (mCons (mVar 0) (mCons (mCB lenD (mCons (m2 (mVar 2) (mC (.int 2)) ixD) mNil)) mNil))) mNil)) addD) mNil)))) mNil)))))
  mSkip)
  (mSeq (mIfS (mT (m2 (mVar 6) (mC (.int 6)) (eqD false)))
  (mSeq (mSet 8 (mLc (mSeqI (mVar 5)) (gtName 12) (fun _ S => .ok true S)
  e1_law_otherwise [12]))
  (mSeq (mSet 9 (mLstM mNil))
  (mSeq (mFor (mRng1 (mCons (mVar 3) mNil)) (gtName 10)
  b1_law_otherwise)
  (mSeq (mSet 11 (mIf (mT (m2 (mVar 9) (mLst mNil) (eqD true))) (mLst (mCons (m2 (m2 (mVar 9) (mCall 2 d_law_next (mCons (mVar 0) (mCons (mCB lenD (mCons (mVar 9) mNil)) mNil))) ixD) (mTup (mCons (mC (.int 0)) mNil)) addD) mNil)) (mLst mNil)))
  (mRet (mTup (mCons (mVar 2) (mCons (m2 (mVar 1) (mC (.int 1)) ixD) (mCons (mCB tupleD (mCons (mCB sortedD (mCons (m2 (mCB (listD false) (mCons (mVar 5) mNil)) (mVar 11) addD) mNil)) mNil)) mNil)))))))))
  mSkip)
  (mRet (mTup (mCons (mVar 2) (mCons (m2 (mLst (mCons (mTup (mCons (mCB min2D (mCons (mC (.int 12)) (mCons (m2 (mVar 3) (mC (.int 1)) addD) mNil))) (mCons (mVar 4) mNil))) (mCons (mTup (mCons (mVar 3) (mCons (mCB min2D (mCons (mC (.int 12)) (mCons (m2 (mVar 4) (mC (.int 1)) addD) mNil))) mNil))) mNil))) (mCall 2 d_law_next (mCons (mVar 0) (mCons (mC (.int 2)) mNil))) ixD) (mCons (mVar 5) mNil))))))))))))
noncomputable def d_law_otherwise : List D → Store → Res D := gcD (denOf 14 m_law_otherwise)
theorem ok_law_otherwise (T : Txt K mg) : FnOk P w K mg base CX0 3 T.f_law_otherwise T.e_law_otherwise ["_law_state", "_law_bed"] (spD K mg 2 d_law_otherwise) :=
  fn_gc (fn_den T.F_law_otherwise sc_law_otherwise fun cdv A outer s H E hr =>
   ((pms_cons (pms_asg (pm_var 1) (pmg_tup rfl (pmgs_cons (pmg_name (i := 2) sc_law_otherwise.nd rfl (Or.inl rfl)) (pmgs_cons (pmg_tup rfl (pmgs_cons (pmg_name (i := 3) sc_law_otherwise.nd rfl (Or.inl rfl)) (pmgs_cons (pmg_name (i := 4) sc_law_otherwise.nd rfl (Or.inl rfl)) pmgs_nil))) (pmgs_cons (pmg_name (i := 5) sc_law_otherwise.nd rfl (Or.inl rfl)) pmgs_nil)))))
  (pms_cons (pms_set (i := 6) sc_law_otherwise.nd rfl (Or.inl rfl) (pm_call (ok_law_next T) (hr.mono (by decide)) (by rfl) T.g_law_next T.F_law_next.kp T.b_law_next (pma_cons (pm_var 0) (pma_cons pm_int pma_nil))))
  (pms_cons (pms_if (pmt_cmp (od_lt hr.units0) (pm_var 6) pm_int (nomark _))
  (pms_one (pms_ret (pm_tup (pma_cons (pm_call (ok_law_house_otherwise T) (hr.mono (by decide)) (by rfl) T.g_law_house_otherwise T.F_law_house_otherwise.kp T.b_law_house_otherwise (pma_cons (pm_var 0) (pma_cons (pm_var 2) pma_nil))) (pma_cons (pm_ix (hu_of hr) (pm_var 1) pm_int (fun _ _ => rfl)) (pma_cons (pm_var 5) pma_nil))))))
  pms_nil)
  (pms_cons (pms_set (i := 7) sc_law_otherwise.nd rfl (Or.inl rfl) (pm_call (ok_law_next T) (hr.mono (by decide)) (by rfl) T.g_law_next T.F_law_next.kp T.b_law_next (pma_cons (pm_var 0) (pma_cons (pm_callB cd_len (by rfl) T.n_len bb_len (pma_cons (pm_var 5) pma_nil)) pma_nil))))
  (pms_cons (pms_if (pmt_cmp (od_eq hr.units) (pm_var 6) pm_int (nomark _))
  (pms_one (pms_ret (pm_tup (pma_cons (pm_var 2) (pma_cons (pm_ix (hu_of hr) (pm_var 1) pm_int (fun _ _ => rfl)) (pma_cons (pm_op od_add (pm_slice (pm_var 5) pmo_none (pmo_some (pm_var 7))) (pm_slice (pm_var 5) (pmo_some (pm_op od_add (pm_var 7) pm_int)) pmo_none)) pma_nil))))))
  pms_nil)
  (pms_cons (pms_if (pmt_cmp (od_eq hr.units) (pm_var 6) pm_int (nomark _))
  (pms_one (pms_ret (pm_tup (pma_cons (pm_var 2) (pma_cons (pm_ix (hu_of hr) (pm_var 1) pm_int (fun _ _ => rfl)) (pma_cons (pm_call (ok_law_with T) (hr.mono (by decide)) (by rfl) T.g_law_with T.F_law_with.kp T.b_law_with (pma_cons (pm_var 5) (pma_cons (pm_var 7) (pma_cons (pm_op od_add (pm_slice (pm_ix (hu_of hr) (pm_var 5) (pm_var 7) (fun _ _ => rfl)) pmo_none (pmo_some pm_int)) (pm_tup (pma_cons (pm_call (ok_law_next T) (hr.mono (by decide)) (by rfl) T.g_law_next T.F_law_next.kp T.b_law_next (pma_cons (pm_var 0) (pma_cons (pm_callB cd_len (by rfl) T.n_len bb_len (pma_cons (pm_ix (hu_of hr) (pm_var 2) pm_int (fun _ _ => rfl)) pma_nil)) pma_nil))) pma_nil))) pma_nil)))) pma_nil))))))
  pms_nil)
  (pms_cons (pms_if (pmt_cmp (od_eq hr.units) (pm_var 6) pm_int (nomark _))
  (pms_cons (pms_set (i := 8) sc_law_otherwise.nd rfl (Or.inr rfl) (pm_lc (own := [("_law_tile", 12)]) (is := [12]) rfl sc_law_otherwise.nd (pmi_seq (pm_var 5)) (blkOk_by (by show blkC N_law_otherwise (defScope s_law_otherwise) _ _ = true; decide +kernel)) (fun _ _ _ _ _ => (pmx_name (i := 12) sc_law_otherwise.nd rfl (Or.inl rfl))) (fun _ _ _ _ _ => pmt_nil) (fun _ _ _ _ _ => (pm_slice (pm_var 12) pmo_none (pmo_some pm_int))) (by decide)))
  (pms_cons (pms_set (i := 9) sc_law_otherwise.nd rfl (Or.inl rfl) (pm_lstM pma_nil))
  (pms_cons (pms_for PassesOwn.never rfl (pmi_range1 (by rfl) T.n_range (pma_cons (pm_var 3) pma_nil)) (pmg_name (i := 10) sc_law_otherwise.nd rfl (Or.inr rfl))
  (pms_one (pms_expr (pm_bm md_extend PySem.F.plainAttrs_list PySem.F.slot_list_extend PySem.F.type_list_extend (pm_var 9) (pma_cons (pm_lc (own := [("_law_y", 13)]) (is := [13]) rfl sc_law_otherwise.nd (pmi_range1 (by rfl) T.n_range (pma_cons (pm_var 4) pma_nil)) (blkOk_by (by show blkC N_law_otherwise (defScope s_law_otherwise) _ _ = true; decide +kernel)) (fun _ _ _ _ _ => (pmx_name (i := 13) sc_law_otherwise.nd rfl (Or.inl rfl))) (fun _ _ _ _ _ => pmt_one (pmt_cmp (od_notin (u65 hr)) (pm_tup (pma_cons (pm_var 10) (pma_cons (pm_var 13) pma_nil))) (pm_var 8) (by with_unfolding_all rfl))) (fun _ _ _ _ _ => (pm_tup (pma_cons (pm_var 10) (pma_cons (pm_var 13) pma_nil)))) (by decide)) pma_nil)))))
  (pms_cons (pms_set (i := 11) sc_law_otherwise.nd rfl (Or.inl rfl) (pm_ifExp (pmt_cmp (od_ne hr.units) (pm_var 9) (pm_lst pma_nil) (nomark _)) (pm_lst (pma_cons (pm_op od_add (pm_ix (hu_of hr) (pm_var 9) (pm_call (ok_law_next T) (hr.mono (by decide)) (by rfl) T.g_law_next T.F_law_next.kp T.b_law_next (pma_cons (pm_var 0) (pma_cons (pm_callB cd_len (by rfl) T.n_len bb_len (pma_cons (pm_var 9) pma_nil)) pma_nil))) (fun _ _ => rfl)) (pm_tup (pma_cons pm_int pma_nil))) pma_nil)) (pm_lst pma_nil)))
  (pms_one (pms_ret (pm_tup (pma_cons (pm_var 2) (pma_cons (pm_ix (hu_of hr) (pm_var 1) pm_int (fun _ _ => rfl)) (pma_cons (pm_callTy cd_tuple (by rfl) T.n_tuple bb_tuple (pma_cons (pm_callB (cd_sorted hr.units) (by rfl) T.n_sorted bb_sorted (pma_cons (pm_op od_add (pm_callTy (cd_list rfl false) (by rfl) T.n_list bb_list (pma_cons (pm_var 5) pma_nil)) (pm_var 11)) pma_nil)) pma_nil)) pma_nil))))))))))
  pms_nil)
  (pms_one (pms_ret (pm_tup (pma_cons (pm_var 2) (pma_cons (pm_ix (hu_of hr) (pm_lst (pma_cons (pm_tup (pma_cons (pm_callB (cd_min2 rfl) (by rfl) T.n_min bb_min (pma_cons pm_int (pma_cons (pm_op od_add (pm_var 3) pm_int) pma_nil))) (pma_cons (pm_var 4) pma_nil))) (pma_cons (pm_tup (pma_cons (pm_var 3) (pma_cons (pm_callB (cd_min2 rfl) (by rfl) T.n_min bb_min (pma_cons pm_int (pma_cons (pm_op od_add (pm_var 4) pm_int) pma_nil))) pma_nil))) pma_nil))) (pm_call (ok_law_next T) (hr.mono (by decide)) (by rfl) T.g_law_next T.F_law_next.kp T.b_law_next (pma_cons (pm_var 0) (pma_cons pm_int pma_nil))) (fun _ _ => rfl)) (pma_cons (pm_var 5) pma_nil)))))))))))))))
noncomputable def b1_law : DSt → Store → Res Fl :=
  (mSeq (mSet 5 (mCall 2 d_law_otherwise (mCons (mVar 1) (mCons (mVar 3) mNil))))
  (mSeq (mIfS (mT (m2 (mCall 2 d_law_next (mCons (mVar 1) (mCons (mC (.int 4)) mNil))) (mC (.int 0)) (eqD false)))
  (mSet 5 (mIf (mT (m2 (m2 (mVar 5) (mC (.int 2)) ixD) (mTup mNil) (eqD true))) (mCall 2 d_law_otherwise (mCons (mVar 1) (mCons (mVar 5) mNil))) (mVar 5)))
  mSkip)
  (mSeq (mSet 6 (mCall 1 d_is_framed (mCons (mVar 5) mNil)))
  (mIfS (mOrT (mT (m2 (mCall 1 d_is_framed (mCons (mVar 3) mNil)) (mC (.bl true)) (isBD true))) (mOrT (mNotT (mT (m1 (mVar 6) (isiD "bool")))) (mT (m2 (mVar 6) (mCall 1 d_law_look (mCons (mVar 5) mNil)) (eqD true)))))
  (mRet (mC (.bl false)))
  mSkip))))
noncomputable def b2_law : DSt → Store → Res Fl :=
  (mSeq (mSet 3 (mCall 3 d_law_framed (mCons (mVar 1) (mCons (m2 (mLst (mCons (mC (.int 4)) (mCons (mC (.int 12)) mNil))) (mCB intD (mCons (m2 (mCall 2 d_law_next (mCons (mVar 1) (mCons (mC (.int 4)) mNil))) (mC (.int 0)) (eqD false)) mNil)) ixD) (mCons (mC (.int 9)) mNil)))))
  (mSeq (mFor (mRng1 (mCons (mC (.int 10)) mNil)) (gtName 4)
  b1_law)
  (mIfS (mT (m2 (mCall 1 d_is_framed (mCons (mTup (mCons (m2 (mVar 3) (mC (.int 0)) ixD) (mCons (m2 (mVar 3) (mC (.int 1)) ixD) (mCons (mTup mNil) mNil)))) mNil)) (mC (.bl false)) (isBD true)))
  (mRet (mC (.bl false)))
  mSkip)))
noncomputable def m_law : DSt → Store → Res Fl :=
  (mSeq (mSet 1 (mCall 1 d_law_start (mCons (mVar 0) mNil)))
  (mSeq (mFor (mRng1 (mCons (mC (.int 3)) mNil)) (gtName 2)
  b2_law)
  (mRet (mC (.bl true)))))
noncomputable def d_law : List D → Store → Res D := denOf 7 m_law
theorem ok_law (T : Txt K mg) : FnOk P w K mg base CX0 4 T.f_law T.e_law ["_law_script"] (spD K mg 1 d_law) :=
  fn_den T.F_law sc_law fun cdv A outer s H E hr =>
   ((pms_cons (pms_set (i := 1) sc_law.nd rfl (Or.inl rfl) (pm_call (ok_law_start T) (hr.mono (by decide)) (by rfl) T.g_law_start T.F_law_start.kp T.b_law_start (pma_cons (pm_var 0) pma_nil)))
  (pms_cons (pms_for PassesOwn.never rfl (pmi_range1 (by rfl) T.n_range (pma_cons pm_int pma_nil)) (pmg_name (i := 2) sc_law.nd rfl (Or.inl rfl))
  (pms_cons (pms_set (i := 3) sc_law.nd rfl (Or.inl rfl) (pm_call (ok_law_framed T) (hr.mono (by decide)) (by rfl) T.g_law_framed T.F_law_framed.kp T.b_law_framed (pma_cons (pm_var 1) (pma_cons (pm_ix (hu_of hr) (pm_lst (pma_cons pm_int (pma_cons pm_int pma_nil))) (pm_callTy cd_int (by rfl) T.n_int bb_int (pma_cons (pm_cmp (od_eq hr.units) (pm_call (ok_law_next T) (hr.mono (by decide)) (by rfl) T.g_law_next T.F_law_next.kp T.b_law_next (pma_cons (pm_var 1) (pma_cons pm_int pma_nil))) pm_int (nomark _)) pma_nil)) (fun _ _ => rfl)) (pma_cons pm_int pma_nil)))))
  (pms_cons (pms_for PassesOwn.never rfl (pmi_range1 (by rfl) T.n_range (pma_cons pm_int pma_nil)) (pmg_name (i := 4) sc_law.nd rfl (Or.inl rfl))
  (pms_cons (pms_set (i := 5) sc_law.nd rfl (Or.inl rfl) (pm_call (ok_law_otherwise T) (hr.mono (by decide)) (by rfl) T.g_law_otherwise T.F_law_otherwise.kp T.b_law_otherwise (pma_cons (pm_var 1) (pma_cons (pm_var 3) pma_nil))))
  (pms_cons (pms_if (pmt_cmp (od_eq hr.units) (pm_call (ok_law_next T) (hr.mono (by decide)) (by rfl) T.g_law_next T.F_law_next.kp T.b_law_next (pma_cons (pm_var 1) (pma_cons pm_int pma_nil))) pm_int (nomark _))
  (pms_one (pms_set (i := 5) sc_law.nd rfl (Or.inl rfl) (pm_ifExp (pmt_cmp (od_ne hr.units) (pm_ix (hu_of hr) (pm_var 5) pm_int (fun _ _ => rfl)) (pm_tup pma_nil) (nomark _)) (pm_call (ok_law_otherwise T) (hr.mono (by decide)) (by rfl) T.g_law_otherwise T.F_law_otherwise.kp T.b_law_otherwise (pma_cons (pm_var 1) (pma_cons (pm_var 5) pma_nil))) (pm_var 5))))
  pms_nil)
  (pms_cons (pms_set (i := 6) sc_law.nd rfl (Or.inl rfl) (pm_call (ok_is_framed T) (hr.mono (by decide)) (by rfl) T.g_is_framed T.F_is_framed.kp T.b_is_framed (pma_cons (pm_var 5) pma_nil)))
  (pms_one (pms_if (PMW.pt (pmw_or (pmt_cmp od_isnotB (pm_call (ok_is_framed T) (hr.mono (by decide)) (by rfl) T.g_is_framed T.F_is_framed.kp T.b_is_framed (pma_cons (pm_var 3) pma_nil)) pm_bl (nomark _)) (pmw_or (pmt_not (pmt_val (pm_isi (T := "bool") (by rfl) T.n_isinstance bb_isinstance (pm_var 6) (by rfl) T.n_bool bb_bool))) (pmw_or1 (pmt_cmp (od_ne hr.units) (pm_var 6) (pm_call (ok_law_look T) (hr.mono (by decide)) (by rfl) T.g_law_look T.F_law_look.kp T.b_law_look (pma_cons (pm_var 5) pma_nil)) (nomark _))))))
  (pms_one (pms_ret pm_bl))
  pms_nil))))))
  (pms_one (pms_if (pmt_cmp od_isnotB (pm_call (ok_is_framed T) (hr.mono (by decide)) (by rfl) T.g_is_framed T.F_is_framed.kp T.b_is_framed (pma_cons (pm_tup (pma_cons (pm_ix (hu_of hr) (pm_var 3) pm_int (fun _ _ => rfl)) (pma_cons (pm_ix (hu_of hr) (pm_var 3) pm_int (fun _ _ => rfl)) (pma_cons (pm_tup pma_nil) pma_nil)))) pma_nil)) pm_bl (nomark _))
  (pms_one (pms_ret pm_bl))
  pms_nil)))))
  (pms_one (pms_ret pm_bl)))))
end
theorem set_go {σ : DSt} {i : Nat} {x : Option D} {P : DSt → Prop} (h : ∀ σ', σ.set i x = σ' → P σ') : ∀ σ', σ.set i x = σ' → P σ' := h
theorem wipe_go {σ : DSt} {vs : List Nat} {P : DSt → Prop} (h : ∀ σ', dwipe σ vs = σ' → P σ') : ∀ σ', dwipe σ vs = σ' → P σ' := h
theorem setS_go {S t t' : Store} {n k : Nat} {o : Ob} {P : Store → Prop} (hl : S.length = n) (e : t.set k o = t') (h : P (S ++ t')) : ∀ S', (S ++ t).set (n + k) o = S' → P S' := fun S' q => by rw [st_set hl, e] at q; subst q; exact h
theorem setS_go0 {S t t' : Store} {n : Nat} {o : Ob} {P : Store → Prop} (hl : S.length = n) (e : t.set 0 o = t') (h : P (S ++ t')) : ∀ S', (S ++ t).set n o = S' → P S' := setS_go (k := 0) hl e h
theorem get_go {S t : Store} {n k : Nat} {o : Ob} (hl : S.length = n) (e : t[k]? = some o) : (S ++ t)[n + k]? = some o := (st_get hl).trans e
theorem get_go0 {S t : Store} {n : Nat} {o : Ob} (hl : S.length = n) (e : t[0]? = some o) : (S ++ t)[n]? = some o := (st_get0 hl).trans e
section
variable {α : Type} {σ : DSt} {S t : Store} {Q : D → Store → Prop} {QB : Bool → Store → Prop} {n : Nat} {ms : DSt → Store → Res (List D)}
theorem k_dict0 (hl : S.length = n) (h : Q (.loc n) (S ++ [.dT []])) : Ok ((fun _ S => .ok (.loc S.length) (S ++ [.dT []]) : DSt → Store → Res D) σ S) Q := by
  subst hl; exact k_ok h
theorem k_dict1 {k : Nat} {t' : Store} (hl : S.length = n) (hk : t.length = k) (ht : t ++ [.dT []] = t') (h : Q (.loc (n + k)) (S ++ t')) : Ok ((fun _ S => .ok (.loc S.length) (S ++ [.dT []]) : DSt → Store → Res D) σ (S ++ t)) Q := by
  subst hl hk ht
  refine k_ok ?_
  rw [List.length_append, List.append_assoc]; exact h
theorem par_of {σ : DSt} {i j : Nat} {x y : D} {P : DSt → Prop} (h : ∀ σ', (σ.set i (some x)).set j (some y) = σ' → P σ') : ∃ x' y', [x, y] = [x', y'] ∧ ∀ σ', (σ.set i (some x')).set j (some y') = σ' → P σ' := ⟨x, y, rfl, h⟩
theorem len_of {k : Nat} {p : Prop} {ds : List D} (e : ds.length ≤ k) (h : p) : ds.length ≤ k ∧ p := ⟨e, h⟩
theorem true_of {p : Prop} {b : Bool} (e : b = true) (h : p) : b = true ∧ p := ⟨e, h⟩
theorem lenE_of {k : Nat} {p : Prop} {ds : List D} (e : ds.length = k) (h : p) : ds.length = k ∧ p := ⟨e, h⟩
theorem src_of {s : Src} {P : Src → Prop} {d : D} (e : seqSrc d S = some s) (h : P s) : ∃ s, seqSrc d S = some s ∧ P s := ⟨_, e, h⟩
theorem src_str {l : List Nat} {P : Src → Prop} (e : l.length ≤ 16777216) (h : P ⟨l.map fun c => D.str (tx [c]), []⟩) : ∃ s, seqSrc (.str (tx l)) S = some s ∧ P s := ⟨_, by rw [seqSrc_str, if_pos (by rw [tx_len, size_eq]; exact e)]; rfl, h⟩
theorem rng_of {i : Int} {m : Nat} {P : Nat → Prop} (e : i = (m : Int)) (hl : m ≤ 16777216) (h : P m) : ∃ (i' : Int) (n' : Nat), [D.int i] = [D.int i'] ∧ i' = (n' : Int) ∧ n' ≤ 16777216 ∧ P n' := ⟨i, m, rfl, e, hl, h⟩
end
section
variable {α : Type} {xs : List α} {l : List Nat}
theorem cutL_to (n : Nat) : L3.cut xs none (some (n : Int)) = xs.take n := by
  unfold L3.cut
  rw [HT.sIx_none, HT.sIx_nat, List.drop_zero, Nat.sub_zero]
  rcases Nat.le_total n xs.length with h | h
  · rw [Nat.min_eq_left h]
  · rw [Nat.min_eq_right h, List.take_length, List.take_of_length_le h]
theorem cutL_from (n : Nat) : L3.cut xs (some (n : Int)) none = xs.drop n := by
  unfold L3.cut
  rw [HT.sIx_none, HT.sIx_nat]
  rcases Nat.le_total n xs.length with h | h
  · rw [Nat.min_eq_left h, List.take_of_length_le (by rw [List.length_drop]; omega)]
  · rw [Nat.min_eq_right h, List.drop_eq_nil_of_le h, List.drop_length]
    simp
theorem cutL_toO (n : Nat) : L3.cut xs none (some (no_index (OfNat.ofNat n : Int))) = xs.take n := cutL_to n
theorem cutL_fromO (n : Nat) : L3.cut xs (some (no_index (OfNat.ofNat n : Int))) none = xs.drop n := cutL_from n
theorem cutS_toO (n : Nat) : cutS (tx l) none (some (no_index (OfNat.ofNat n : Int))) = tx (l.take n) := cut_to l n
theorem cutS_fromO (n : Nat) : cutS (tx l) (some (no_index (OfNat.ofNat n : Int))) none = tx (l.drop n) := cut_from l n
theorem p_slT2 {S : Store} {Q : D → Store → Prop} {ds es : List D} {lo hi : Option Int} (e : L3.cut ds lo hi = es) (h : Q (.tup es) S) : Ok (sliceD (.tup ds) lo hi S) Q := p_slT (by rw [e]; exact h)
theorem p_slL2 {S : Store} {Q : D → Store → Prop} {ds es : List D} {lo hi : Option Int} (e : L3.cut ds lo hi = es) (h : Q (.lst es) S) : Ok (sliceD (.lst ds) lo hi S) Q := p_slL (by rw [e]; exact h)
theorem p_slF2 {S : Store} {Q : D → Store → Prop} {ds es : List D} {lo hi : Option Int} (e : L3.cut ds lo hi = es) (h : Q (.lst es) S) : Ok (sliceD (.frz ds) lo hi S) Q := p_slF (by rw [e]; exact h)
theorem p_slS2 {S : Store} {Q : D → Store → Prop} {m : Str} {lo hi : Option Int} (hl : l.length ≤ 16777216) (e : cutS (tx l) lo hi = m) (h : Q (.str m) S) : Ok (sliceD (.str (tx l)) lo hi S) Q := p_slS hl (by rw [e]; exact h)
end
theorem en_lst {S : Store} {ds : List D} {P : Src → Prop} (h : P ⟨ds, []⟩) : ∃ d s, [D.lst ds] = [d] ∧ lstSrc d S = some s ∧ P s := ⟨_, _, rfl, lstSrc_lst, h⟩
theorem en_frz {S : Store} {ds : List D} {P : Src → Prop} (h : P ⟨ds, []⟩) : ∃ d s, [D.frz ds] = [d] ∧ lstSrc d S = some s ∧ P s := ⟨_, _, rfl, lstSrc_frz, h⟩
theorem enum_map {α : Type} (f : α → D) (xs : List α) : ((xs.map f).zipIdx.map fun p : D × Nat => D.tup [.int p.2, p.1]) = xs.zipIdx.map fun p : α × Nat => D.tup [.int p.2, f p.1] := by
  rw [List.zipIdx_map, List.map_map]
  rfl
local macro_rules | `(tactic| walk_at "sz") => `(tactic| first | assumption | (simp only [List.length_cons, List.length_nil, List.length_map, List.length_append, List.length_range] <;> omega) | (simp <;> omega) | (simp; done))
local macro_rules | `(tactic| walk_at "st") => `(tactic| first | assumption | exact get_go (by assumption) rfl | exact get_go0 (by assumption) rfl | exact get_go rfl rfl | exact get_go0 rfl rfl)
local macro_rules | `(tactic| walk_at "lk") => `(tactic| (intro σ' e; simp only [List.set_cons_zero, List.set_cons_succ, dwipe] at e; subst e))
local macro_rules | `(tactic| walk_at "s1") => `(tactic| first
  | with_reducible refine w_seq ?_
  | with_reducible refine w_set ?_
  | with_reducible refine w_ifs ?_
  | with_reducible refine w_ret ?_
  | with_reducible refine w_do ?_
  | with_reducible refine w_skip ?_
  | with_reducible refine w_for ?_
  | with_reducible refine w_asg ?_
  | with_reducible refine w_par ?_
  | with_reducible refine w_par3 ?_
  | with_reducible refine w_nx ?_
  | with_reducible refine w_rt ?_
  | with_reducible refine w_bk ?_
  | with_reducible refine w_ct ?_
  | with_reducible refine w_raise ?_
  | with_reducible refine br_t ?_
  | with_reducible refine br_f ?_
  | with_reducible refine br_not ?_
  | with_reducible refine br_xt ?_
  | with_reducible refine br_xf ?_
  | ((fail_if_success (with_reducible refine wf_id ?_)); (fail_if_success (with_reducible refine br_id ?_)); walk_at "s1b"))
local macro_rules | `(tactic| walk_at "s1b") => `(tactic| first
  | ((with_reducible apply k_var); focus exact rfl)
  | with_reducible refine k_cons ?_
  | with_reducible refine k_nil ?_
  | with_reducible refine k_C ?_
  | with_reducible refine k_m2 ?_
  | ((with_reducible refine set_go ?_); walk_at "lk")
  | ((with_reducible refine wipe_go ?_); walk_at "lk")
  | with_reducible refine k_mT ?_
  | with_reducible refine bl_of ?_
  | with_reducible refine int_of ?_
  | with_reducible refine k_call ?_
  | ((with_reducible refine lenE_of ?_ ?_); focus exact rfl)
  | with_reducible refine k_cb ?_
  | with_reducible refine k_gname ?_
  | with_reducible refine k_gnil ?_
  | with_reducible refine k_gcons ?_
  | ((with_reducible refine k_gtup ?_ ?_); focus exact rfl)
  | ((with_reducible refine k_gktp ?_ ?_); focus exact rfl)
  | with_reducible refine k_gsub ?_
  | with_reducible refine k_tup ?_
  | with_reducible refine k_lst ?_
  | with_reducible refine k_lstM ?_
  | ((with_reducible refine len_of ?_ ?_); focus (walk_at "sz"))
  | with_reducible refine k_m1 ?_
  | with_reducible refine k_andT ?_
  | with_reducible refine k_orT ?_
  | with_reducible refine k_notT ?_
  | with_reducible refine k_andV ?_
  | with_reducible refine k_orV ?_
  | with_reducible refine k_notV ?_
  | with_reducible refine k_ifx ?_
  | with_reducible refine k_neg ?_
  | with_reducible refine k_ch ?_
  | with_reducible refine k_lc ?_
  | with_reducible refine k_lcM ?_
  | with_reducible refine k_sl ?_
  | with_reducible refine k_nopart ?_
  | with_reducible refine k_part ?_
  | with_reducible refine k_bm ?_
  | with_reducible refine k_get1 ?_
  | with_reducible refine k_get2 ?_
  | with_reducible refine k_seqi ?_
  | ((with_reducible refine src_str ?_ ?_); focus (walk_at "sz"))
  | ((with_reducible apply src_of); focus (first | exact seqSrc_tup | exact seqSrc_lst | exact seqSrc_frz | exact seqSrc_ktp | exact seqSrc_loc (by walk_at "st")))
  | with_reducible refine k_rng1 ?_
  | with_reducible refine k_enum ?_
  | with_reducible refine k_enumA ?_
  | with_reducible refine en_lst ?_
  | with_reducible refine en_frz ?_
  | ((with_reducible refine par_of ?_); walk_at "lk")
  | ((with_reducible refine par3_of ?_); walk_at "lk")
  | walk_at "s2")
local macro_rules | `(tactic| walk_at "s2") => `(tactic| first
  | with_reducible refine k_ok ?_
  | with_reducible refine p_add ?_
  | ((with_reducible refine p_addS ?_ ?_); focus (walk_at "sz"))
  | ((with_reducible refine p_addT ?_ ?_); focus (walk_at "sz"))
  | ((with_reducible refine p_addL ?_ ?_); focus (walk_at "sz"))
  | ((with_reducible refine p_addM ?_ ?_); focus (walk_at "sz"))
  | ((with_reducible apply p_addLO); (focus (walk_at "st")); (focus (walk_at "sz")))
  | with_reducible refine p_sub ?_
  | ((with_reducible refine p_mulR ?_ ?_ ?_); (focus omega); (focus omega))
  | ((with_reducible refine p_mulL ?_ ?_ ?_); (focus omega); (focus omega))
  | ((with_reducible refine p_fdiv ?_ ?_ ?_); (focus omega); (focus omega))
  | ((with_reducible refine p_mod ?_ ?_); focus omega)
  | with_reducible refine p_lt ?_
  | with_reducible refine p_ltS ?_
  | with_reducible refine p_cmp ?_
  | with_reducible refine p_eqI ?_
  | with_reducible refine p_isN ?_
  | with_reducible refine p_isNi ?_
  | with_reducible refine p_isNs ?_
  | with_reducible refine p_isNl ?_
  | with_reducible refine p_isNt ?_
  | with_reducible refine p_isB ?_
  | with_reducible refine p_eqB ?_
  | ((with_reducible apply p_isi); focus (first | exact isi_tuple_tup | exact isi_tuple_ktp | exact isi_tuple_str | exact isi_tuple_int | exact isi_tuple_bl | exact isi_tuple_lst | exact isi_tuple_non | exact isi_str_tup | exact isi_str_str | exact isi_str_int | exact isi_str_bl | exact isi_str_lst | exact isi_str_non | exact isi_int_tup | exact isi_int_str | exact isi_int_int | exact isi_int_bl | exact isi_int_lst | exact isi_int_non | exact isi_bool_tup | exact isi_bool_str | exact isi_bool_int | exact isi_bool_bl | exact isi_bool_lst | exact isi_bool_non | exact isi_list_tup | exact isi_list_str | exact isi_list_int | exact isi_list_bl | exact isi_list_lst | exact isi_list_non | exact isi_dict_tup | exact isi_dict_str | exact isi_dict_int | exact isi_dict_bl | exact isi_dict_lst | exact isi_dict_non))
  | ((with_reducible apply p_sortL); focus (walk_at "st"))
  | ((with_reducible apply p_ixT); focus exact rfl)
  | ((with_reducible apply p_ixL); focus exact rfl)
  | ((with_reducible apply p_ixTm); focus assumption)
  | ((with_reducible apply p_ixLm); focus assumption)
  | ((with_reducible apply p_ixFm); focus assumption)
  | ((with_reducible apply p_ixO); (focus (walk_at "st")); (focus exact rfl))
  | ((with_reducible apply p_slT2); (focus (simp only [cutL_to, cutL_from, cutL_toO, cutL_fromO, List.take_succ_cons, List.take_zero, List.drop_succ_cons, List.drop_zero]; exact rfl)))
  | ((with_reducible apply p_slL2); (focus (simp only [cutL_to, cutL_from, cutL_toO, cutL_fromO, List.take_succ_cons, List.take_zero, List.drop_succ_cons, List.drop_zero]; exact rfl)))
  | ((with_reducible apply p_slF2); (focus (simp only [cutL_to, cutL_from, cutL_toO, cutL_fromO, List.take_succ_cons, List.take_zero, List.drop_succ_cons, List.drop_zero]; exact rfl)))
  | with_reducible refine p_slT ?_
  | with_reducible refine p_slL ?_
  | ((with_reducible apply p_slS2); (focus (walk_at "sz")); (focus (simp only [cut_to, cut_from, cutS_toO, cutS_fromO]; exact rfl)))
  | ((with_reducible refine p_slS ?_ ?_); focus (walk_at "sz"))
  | with_reducible refine p_lenT ?_
  | with_reducible refine p_lenL ?_
  | with_reducible refine p_lenF ?_
  | with_reducible refine p_lenK ?_
  | ((with_reducible refine p_lenS ?_ ?_); focus (walk_at "sz"))
  | ((with_reducible apply p_lenO); focus (walk_at "st"))
  | with_reducible refine p_abs ?_
  | with_reducible refine p_max2 ?_
  | with_reducible refine p_min2 ?_
  | with_reducible refine p_int ?_
  | with_reducible refine p_intB ?_
  | with_reducible refine p_tupL ?_
  | with_reducible refine p_tupT ?_
  | with_reducible refine p_tupX ?_
  | ((with_reducible apply p_ixPm); focus assumption)
  | ((with_reducible apply p_ixP); focus exact rfl)
  | with_reducible refine p_tupF ?_
  | ((with_reducible apply p_tupO); focus (walk_at "st"))
  | with_reducible refine p_listL ?_
  | with_reducible refine p_listT ?_
  | with_reducible refine p_listF ?_
  | ((with_reducible apply p_app); (focus (walk_at "st")); (focus (walk_at "sz")))
  | ((with_reducible apply p_extL); (focus (walk_at "st")); (focus (walk_at "sz")))
  | ((with_reducible apply setS_go); (focus assumption); (focus (simp only [List.set_cons_zero, List.set_cons_succ]; exact rfl)))
  | ((with_reducible apply setS_go0); (focus assumption); (focus (simp only [List.set_cons_zero, List.set_cons_succ]; exact rfl)))
  | ((with_reducible refine true_of ?_ ?_); focus (first | exact rfl | exact tyOk_loc (by walk_at "st")))
  | ((with_reducible apply k_dict0); (focus assumption))
  | ((with_reducible apply k_dict1); (focus assumption); (focus exact rfl); (focus exact rfl)))
local macro_rules | `(tactic| walk_at "vs") => `(tactic| repeat walk_at "s1")
local macro_rules | `(tactic| walk_at "vp") => `(tactic| repeat ((fail_if_success (with_reducible refine w_ifs ?_)); walk_at "s1"))
local macro_rules | `(tactic| walk_at "den") => `(tactic| ((with_reducible apply den_ok); (focus (simp only [List.map_cons, List.map_nil, List.length_cons, List.length_nil, Nat.reduceAdd, Nat.reduceSub, List.replicate, List.cons_append, List.nil_append]; exact rfl))))
/-! ### draws from a hand -/
def Hnd (S : Store) (p q : Nat) : Prop := ∃ (ds : List Int) (s : Int), S[p]? = some (.lst [.loc q, .int s]) ∧ S[q]? = some (.lst (ds.map D.int)) ∧ (∀ d ∈ ds, 0 ≤ d) ∧ 0 ≤ s ∧ s < 2305843009213693951 ∧ p ≠ q
/-- the hand at p has been drawn from: all else stands -/
structure Fr (S : Store) (p q : Nat) (S' : Store) : Prop where
  len : S'.length = S.length
  oth : ∀ i, i ≠ p → i ≠ q → S'[i]? = S[i]?
  pot : Hnd S' p q
theorem Fr.refl {S : Store} {p q : Nat} (h : Hnd S p q) : Fr S p q S := ⟨rfl, fun _ _ _ => rfl, h⟩
theorem Fr.trans {S S' S'' : Store} {p q : Nat} (h : Fr S p q S') (h' : Fr S' p q S'') : Fr S p q S'' := ⟨h'.len.trans h.len, fun i n m => (h'.oth i n m).trans (h.oth i n m), h'.pot⟩
theorem Hnd.lt {S : Store} {p q : Nat} (h : Hnd S p q) : p < S.length := by
  obtain ⟨_, _, e, _⟩ := h
  exact (List.getElem?_eq_some_iff.mp e).1
theorem Hnd.lt2 {S : Store} {p q : Nat} (h : Hnd S p q) : q < S.length := by
  obtain ⟨_, _, _, e, _⟩ := h
  exact (List.getElem?_eq_some_iff.mp e).1
theorem Hnd.setq {S : Store} {p q : Nat} (h : Hnd S p q) {ds : List Int} (hd : ∀ d ∈ ds, 0 ≤ d) : Fr S p q (S.set q (.lst (ds.map D.int))) := by
  have h2 := h.lt2
  obtain ⟨_, s, e1, e2, _, h0, h1, hn⟩ := h
  exact ⟨List.length_set, fun i n m => List.getElem?_set_ne (Ne.symm m), ds, s, by rw [List.getElem?_set_ne hn.symm]; exact e1, List.getElem?_set_self h2, hd, h0, h1, hn⟩
theorem Hnd.setp {S : Store} {p q : Nat} (h : Hnd S p q) {s : Int} (h0 : 0 ≤ s) (h1 : s < 2305843009213693951) : Fr S p q (S.set p (.lst [.loc q, .int s])) := by
  have h2 := h.lt
  obtain ⟨ds, _, e1, e2, hd, _, _, hn⟩ := h
  exact ⟨List.length_set, fun i n m => List.getElem?_set_ne (Ne.symm n), ds, s, List.getElem?_set_self h2, by rw [List.getElem?_set_ne hn]; exact e2, hd, h0, h1, hn⟩
theorem Fr.kept {S S' : Store} {p q : Nat} (h0 : Hnd S p q) (h : Fr S p q S') : ∀ i < S.length, S'[i]? = S[i]? ∨ ∃ o, S'[i]? = some o ∧ o.sc S.length = true := fun i hi => by
  obtain ⟨ds, s, e1, e2, _⟩ := h.pot
  by_cases hp : i = p
  · subst hp
    refine .inr ⟨_, e1, ?_⟩
    simp only [Ob.sc, D.scs, D.sc, h0.lt2, decide_true, Bool.true_and]
  · by_cases hq : i = q
    · subst hq
      refine .inr ⟨_, e2, ?_⟩
      simp only [Ob.sc]
      exact sc_map fun _ => rfl
    · exact .inl (h.oth i hp hq)
theorem Hnd.app {S t : Store} {p q : Nat} (h : Hnd S p q) : Hnd (S ++ t) p q := by
  obtain ⟨ds, s, e1, e2, r⟩ := id h
  exact ⟨ds, s, by rw [List.getElem?_append_left h.lt]; exact e1, by rw [List.getElem?_append_left h.lt2]; exact e2, r⟩
theorem Fr.split {S t S' : Store} {p q : Nat} (h : Fr (S ++ t) p q S') (hp : Hnd S p q) : ∃ S1, S' = S1 ++ t ∧ Fr S p q S1 := by
  have hlt := hp.lt
  have hlt2 := hp.lt2
  refine ⟨S'.take S.length, ?_, ⟨?_, fun i n m => ?_, ?_⟩⟩
  · apply List.ext_getElem?
    intro i
    have hl := h.len
    rw [List.length_append] at hl
    by_cases hi : i < S.length
    · rw [List.getElem?_append_left (by rw [List.length_take]; omega), List.getElem?_take_of_lt hi]
    · rw [List.getElem?_append_right (by rw [List.length_take]; omega), h.oth i (by omega) (by omega), List.getElem?_append_right (by omega), List.length_take]
      congr 1
      omega
  · rw [List.length_take, h.len, List.length_append]; omega
  · by_cases hi : i < S.length
    · rw [List.getElem?_take_of_lt hi, h.oth i n m, List.getElem?_append_left hi]
    · rw [List.getElem?_eq_none (by rw [List.length_take]; omega), List.getElem?_eq_none (by omega)]
  · obtain ⟨ds, s, e1, e2, r⟩ := h.pot
    exact ⟨ds, s, by rw [List.getElem?_take_of_lt hlt]; exact e1, by rw [List.getElem?_take_of_lt hlt2]; exact e2, r⟩
theorem Ok.elim {α : Type} {r : Res α} {P : α → Store → Prop} (h : Ok r P) : ∃ a S, r = .ok a S ∧ P a S := h
section
variable {den : List D → Store → Res D} {ds : List D} {S : Store} {P : D → Store → Prop} {p q : Nat}
theorem gc_pure (h : Ok (den ds S) fun d S' => (∃ g, S' = S ++ g) ∧ d.sc S.length = true ∧ P d S) : Ok (gcD den ds S) P := by
  obtain ⟨d, S', e, ⟨g, rfl⟩, hs, hp⟩ := h
  exact k_eq (gcD_pure e hs) hp
theorem gc_fr (h0 : Hnd S p q) (h : Ok (den ds S) fun d S' => ∃ S1 g, S' = S1 ++ g ∧ Fr S p q S1 ∧ d.sc S.length = true ∧ P d S1) : Ok (gcD den ds S) P := by
  obtain ⟨d, S', e, S1, g, rfl, hF, hs, hp⟩ := h
  exact k_eq (gcD_ok e hF.len hs (hF.kept h0)) hp
theorem gcF_pure (h : Ok (den ds S) fun d S' => ∃ g k es, d = .loc (S.length + k) ∧ S' = S ++ g ∧ g[k]? = some (.lst es) ∧ D.scs S.length es = true ∧ P (.lst es) S) : Ok (gcF den ds S) P := by
  obtain ⟨d, S', e, g, k, es, rfl, rfl, hg, hs, hp⟩ := h
  exact k_eq (gcF_loc e rfl hg hs fun _ _ => .inl rfl) hp
end
theorem p_pop0 {S : Store} {Q : D → Store → Prop} {l : Nat} {d : D} {ds : List D} (e1 : S[l]? = some (.lst (d :: ds))) (h : ∀ S', S.set l (.lst ds) = S' → Q d S') : Ok (popD (.loc l) [.int 0] S) Q := by
  have : popD (.loc l) [.int 0] S = .ok d (S.set l (.lst ds)) := by
    simp [popD, mutL, e1, seqIndex?]
  exact k_eq this (h _ rfl)
theorem ixN_0 {n : Nat} : ixN (n + 1) 0 = some 0 := by simp [ixN]
theorem pls_ints (ds : List Int) : D.pls 63 (ds.map D.int) = true := pls_map fun _ _ => by simp [D.pl]
theorem pick_ok {S : Store} {p q : Nat} (h : Hnd S p q) (n : Int) (hn : 0 < n) (h0 : n < 18446744073709551616) : ∃ (v : Nat) (S' : Store), (v : Int) < n ∧ Fr S p q S' ∧ d_law_next [.loc p, .int n] S = .ok (.int v) S' := by
  suffices hs : Ok (d_law_next [.loc p, .int n] S) fun d S' => ∃ v : Nat, (v : Int) < n ∧ Fr S p q S' ∧ d = .int v by
    obtain ⟨d, S', e, v, h1, h2, rfl⟩ := hs
    exact ⟨v, S', h1, h2, e⟩
  unfold d_law_next
  refine gc_fr (p := p) (q := q) h ?_
  walk_at "den"
  unfold m_law_next
  have nat : ∀ x : Int, ∃ v : Nat, (v : Int) < n ∧ x % n = v := fun x => by
    obtain ⟨v, hv⟩ := Int.eq_ofNat_of_zero_le (Int.emod_nonneg x (show n ≠ 0 by omega))
    exact ⟨v, by rw [← hv]; exact Int.emod_lt_of_pos x hn, hv⟩
  refine w_seq ?_
  refine (w_while (fun k σ S' => Fr S p q S' ∧ (∃ (ds : List Int) (s : Int), S'[p]? = some (.lst [.loc q, .int s]) ∧ S'[q]? = some (.lst (ds.map D.int)) ∧ (∀ d ∈ ds, 0 ≤ d) ∧ 0 ≤ s ∧ s < 2305843009213693951 ∧ ds.length = k) ∧ σ = [some (.loc p), some (.int n), none]) h.choose.length ⟨Fr.refl h, ?_, rfl⟩ ?_ : Wf _ (fun σ S' => Fr S p q S' ∧ (∃ (ds : List Int) (s : Int), S'[p]? = some (.lst [.loc q, .int s]) ∧ S'[q]? = some (.lst (ds.map D.int)) ∧ (∀ d ∈ ds, 0 ≤ d) ∧ 0 ≤ s ∧ s < 2305843009213693951) ∧ σ = [some (.loc p), some (.int n), none]) _ _ _).imp ?_ (fun _ _ h => h) (fun _ _ h => h) (fun _ _ h => h)
  · obtain ⟨s, e1, e2, hd, hs0, hs1, hne⟩ := h.choose_spec
    exact ⟨_, s, e1, e2, hd, hs0, hs1, rfl⟩
  · rintro k σ S' ⟨hF, ⟨ds, s, e1, e2, hd, hs0, hs1, rfl⟩, rfl⟩
    unfold t1_law_next
    walk_at "vs"
    refine p_eqNil e2 (pls_ints ds) ?_
    cases ds with
    | nil =>
      rw [List.map_nil, List.isEmpty_nil]
      walk_at "vs"
      exact ⟨hF, ⟨[], s, e1, e2, hd, hs0, hs1⟩, rfl⟩
    | cons d ds =>
      rw [List.map_cons, List.isEmpty_cons]
      rw [List.map_cons] at e2
      walk_at "vs"
      refine p_ixO e2 atI_0 ?_
      walk_at "vs"
      refine br_dec (fun hz => ?_) (fun hz => ?_)
      · unfold b1_law_next
        walk_at "vs"
        refine p_pop0 e2 ?_
        rintro _ rfl
        have hF2 := hF.pot.setq (ds := ds) fun x hx => hd x (List.mem_cons_of_mem _ hx)
        obtain ⟨ds', s', a1, a2, a3, a4, a5, a6⟩ := hF2.pot
        refine ⟨ds.length, by simp, hF.trans hF2, ⟨ds, s', a1, ?_, fun x hx => hd x (List.mem_cons_of_mem _ hx), a4, a5, rfl⟩, rfl⟩
        exact List.getElem?_set_self hF.pot.lt2
      · exact ⟨hF, ⟨d :: ds, s, e1, by rw [List.map_cons]; exact e2, hd, hs0, hs1⟩, rfl⟩
  rintro σ S1 ⟨hF, ⟨ds, s, e1, e2, hd, hs0, hs1⟩, rfl⟩
  refine w_seq ?_
  refine w_ifs ?_
  walk_at "vs"
  refine p_eqNil e2 (pls_ints ds) ?_
  cases ds with
  | cons d ds =>
    rw [List.map_cons, List.isEmpty_cons]
    rw [List.map_cons] at e2
    obtain ⟨v, hv, hv2⟩ := nat d
    walk_at "vs"
    refine p_ixO e2 atI_0 ?_
    walk_at "vs"
    rw [hv2]
    walk_at "vs"
    refine p_ixO e2 atI_0 ?_
    walk_at "vs"
    refine p_setL (i := 0) (k := 0) e2 ixN_0 ?_
    rintro _ rfl
    have hF2 := hF.pot.setq (ds := d / n :: ds) fun x hx => by
      rcases List.mem_cons.mp hx with rfl | hx
      · exact Int.ediv_nonneg (hd d List.mem_cons_self) (by omega)
      · exact hd x (List.mem_cons_of_mem _ hx)
    walk_at "vs"
    exact ⟨_, [], (List.append_nil _).symm, hF.trans hF2, rfl, v, hv, hF.trans hF2, rfl⟩
  | nil =>
    rw [List.map_nil, List.isEmpty_nil]
    walk_at "vs"
    obtain ⟨x, hx, hx0, hx1⟩ : ∃ x : Int, (s * 6364136223846793005 + 1442695040888963407) % 2305843009213693951 = x ∧ 0 ≤ x ∧ x < 2305843009213693951 := ⟨_, rfl, Int.emod_nonneg _ (by omega), Int.emod_lt_of_pos _ (by omega)⟩
    rw [hx]
    walk_at "vs"
    refine p_setL (i := 1) (k := 1) e1 rfl ?_
    rintro _ rfl
    have hF2 : Fr S1 p q (S1.set p (.lst [.loc q, .int x])) := hF.pot.setp hx0 hx1
    have e3 : (S1.set p (.lst ([D.loc q, D.int s].set 1 (.int x))))[p]? = some (.lst [.loc q, .int x]) := List.getElem?_set_self hF.pot.lt
    walk_at "vs"
    obtain ⟨v, hv, hv2⟩ := nat (x * (x % 1000003 + 48271) % 2305843009213693951 / 4099)
    rw [hv2]
    exact ⟨_, [], (List.append_nil _).symm, hF.trans hF2, rfl, v, hv, hF.trans hF2, rfl⟩
section
variable {S0 S t : Store} {p q n : Nat} {Q : D → Store → Prop}
/-- a draw -/
theorem k_next (hF : Fr S0 p q S) (hl : S.length = n) {m : Int} (h : ∀ (v : Nat) (S' : Store), (v : Int) < m → Fr S0 p q S' → S'.length = n → Q (.int v) (S' ++ t)) (hm : 0 < m ∧ m < 18446744073709551616 := by omega) : Ok (d_law_next [.loc p, .int m] (S ++ t)) Q := by
  obtain ⟨v, S', hv, hF', e⟩ := pick_ok (hF.pot.app (t := t)) m hm.1 hm.2
  obtain ⟨S1, rfl, hF1⟩ := hF'.split hF.pot
  exact k_eq e (h v S1 hv (hF.trans hF1) (hF1.len.trans hl))
theorem k_next0 (hF : Fr S0 p q S) (hl : S.length = n) {m : Int} (h : ∀ (v : Nat) (S' : Store), (v : Int) < m → Fr S0 p q S' → S'.length = n → Q (.int v) S') (hm : 0 < m ∧ m < 18446744073709551616 := by omega) : Ok (d_law_next [.loc p, .int m] S) Q := by
  have := k_next (t := []) (Q := Q) hF hl (fun v S' h1 h2 h3 => by rw [List.append_nil]; exact h v S' h1 h2 h3) hm
  rwa [List.append_nil] at this
theorem k_lift0 {r : Store → Res D} {P : D → Prop} (hr : ∀ S, Hnd S p q → Ok (r S) fun d S' => Fr S p q S' ∧ P d) (hF : Fr S0 p q S) (hl : S.length = n) (h : ∀ d S', P d → Fr S0 p q S' → S'.length = n → Q d S') : Ok (r S) Q := by
  obtain ⟨d, S', e, hF', hp⟩ := hr _ hF.pot
  exact k_eq e (h d S' hp (hF.trans hF') (hF'.len.trans hl))
end
/-- one of some numbers of a written list -/
def allN (lo hi : Nat) : List D → Bool
  | [] => true
  | .int i :: r => decide ((lo : Int) ≤ i ∧ i ≤ (hi : Int)) && allN lo hi r
  | _ => false
theorem allN_get {lo hi : Nat} : ∀ {ds : List D} {k : Nat}, allN lo hi ds = true → k < ds.length → ∃ v : Nat, ds[k]? = some (.int v) ∧ lo ≤ v ∧ v ≤ hi
  | [], _, _, hk => by simp at hk
  | .int i :: r, 0, h, _ => by
    simp only [allN, Bool.and_eq_true, decide_eq_true_eq] at h
    exact ⟨i.toNat, by rw [Int.toNat_of_nonneg (by omega)]; rfl, by omega, by omega⟩
  | .int i :: r, k + 1, h, hk => by
    simp only [allN, Bool.and_eq_true] at h
    obtain ⟨v, e, h1⟩ := allN_get (ds := r) (k := k) h.2 (by simpa using hk)
    exact ⟨v, by simpa using e, h1⟩
theorem p_pick {S : Store} {ds : List D} {k : Nat} {Q : D → Store → Prop} (lo hi : Nat) (hk : k < ds.length) (h : ∀ v : Nat, lo ≤ v → v ≤ hi → Q (.int v) S) (hc : allN lo hi ds = true := by rfl) : Ok (ixD (.lst ds) (.int (k : Nat)) S) Q := by
  obtain ⟨v, e, h1, h2⟩ := allN_get hc hk
  exact p_ixL (by rw [atI_nat]; exact e) (h v h1 h2)
def az : List Nat := [97, 98, 99, 100, 101, 102, 103, 104, 105, 106, 107, 108, 109, 110, 111, 112, 113, 114, 115, 116, 117, 118, 119, 120, 121, 122]
theorem az_get {i : Nat} (h : i < 26) : ∃ c, az[i]? = some c ∧ 97 ≤ c ∧ c ≤ 122 := by
  have : ∀ c ∈ az, 97 ≤ c ∧ c ≤ 122 := by decide
  exact ⟨az[i]'(by simpa [az] using h), List.getElem?_eq_getElem _, this _ (List.getElem_mem _)⟩
/-- a name's text -/
def Nm (l : List Nat) : Prop := (1 ≤ l.length ∧ l.length ≤ 8) ∧ ∀ c ∈ l, 97 ≤ c ∧ c ≤ 122
theorem Nm.u {l : List Nat} (h : Nm l) : ∀ c ∈ l, c < 1114112 := fun c hc => by have := h.2 c hc; omega
/-- sorted names -/
def sle (a b : List Nat) : Bool := decide (a ≤ b)
theorem dLe_sd (a b : List Nat) : dLe (sd a) (sd b) = sle a b := by
  have e : dLe (sd a) (sd b) = !PySem.W.dataLt (encD (sd b)) (encD (sd a)) := by
    unfold dLe
    rw [PySem.W.dataLe_eq]
    rfl
  rw [e, enc_sd, enc_sd, PySem.W.dataLt_str, PySem.W.not_lt_str]
  rfl
def sortS (xs : List (List Nat)) : List (List Nat) := xs.mergeSort sle
theorem sortS_perm (xs : List (List Nat)) : (sortS xs).Perm xs := List.mergeSort_perm _ _
theorem sortedS {S : Store} (xs : List (List Nat)) (hl : xs.length ≤ 16777216) : sortedD [.lst (xs.map sd)] S = .ok (.lst ((sortS xs).map sd)) S := by
  rw [sortedK (srt_sd xs) (by simpa using hl)]
  unfold sortS
  rw [List.map_mergeSort (f := sd) (r := sle) (s := dLe) (fun a _ b _ => (dLe_sd a b).symm)]
/-- the signs of faces -/
def abd : List Nat := [97, 98, 99, 100, 101, 102, 103, 104, 105, 106, 107, 108, 109, 110, 111, 112, 113, 114, 115, 116, 117, 118, 119, 120, 121, 122, 48, 49, 50, 51, 52, 53, 54, 55, 56, 57]
theorem abd_get {i : Nat} (h : i < 36) : ∃ c, abd[i]? = some c ∧ c ∈ abd :=
  ⟨abd[i]'(by simpa [abd] using h), List.getElem?_eq_getElem _, List.getElem_mem _⟩
theorem abd_u {c : Nat} (h : c ∈ abd) : c < 1114112 := by
  have : ∀ c ∈ abd, c < 1114112 := by decide
  exact this c h
/-- a kind: its face, its sides north, east, south, west -/
structure Kd where
  f : List Nat
  a : List Nat
  b : List Nat
  c : List Nat
  d : List Nat
abbrev kd (k : Kd) : D := .tup [sd k.f, sd k.a, sd k.b, sd k.c, sd k.d]
/-- of these names -/
def KdOk (xs : List (List Nat)) (k : Kd) : Prop := k.f.length ≤ 1 ∧ (∀ c ∈ k.f, c ∈ abd) ∧ ∀ x ∈ [k.a, k.b, k.c, k.d], x = [] ∨ x ∈ xs
abbrev stk (x : List Nat × Nat) : D := .tup [sd x.1, .int x.2]
structure Bed where
  en : Nat
  st : List (List Nat × Nat)
  ks : List Kd
  w : Nat
  h : Nat
  seed : List Tl
abbrev fld (b : Bed) : D := .tup [.int b.w, .int b.h]
structure HsOk (b : Bed) (m : Nat) : Prop where
  en1 : 1 ≤ b.en
  en4 : b.en ≤ 4
  stl : b.st.length ≤ 5
  nm : ∀ x ∈ b.st, Nm x.1
  sv : ∀ x ∈ b.st, 1 ≤ x.2 ∧ x.2 ≤ 4
  nd : (b.st.map Prod.fst).Nodup
  so : (b.st.map Prod.fst).Pairwise fun a b => sle a b = true
  kl : 1 ≤ b.ks.length
  km : b.ks.length ≤ m
  ko : ∀ k ∈ b.ks, KdOk (b.st.map Prod.fst) k
def KdU (k : Kd) : Prop := (∀ c ∈ k.f, c < 1114112) ∧ (∀ c ∈ k.a, c < 1114112) ∧ (∀ c ∈ k.b, c < 1114112) ∧ (∀ c ∈ k.c, c < 1114112) ∧ ∀ c ∈ k.d, c < 1114112
theorem KdOk.u {xs : List (List Nat)} {k : Kd} (h : KdOk xs k) (hx : ∀ x ∈ xs, Nm x) : KdU k := by
  have p : ∀ x ∈ [k.a, k.b, k.c, k.d], ∀ c ∈ x, c < 1114112 := fun x hm => by
    rcases h.2.2 x hm with e | e
    · subst e; exact fun _ h => (List.not_mem_nil h).elim
    · exact (hx x e).u
  exact ⟨fun c hc => abd_u (h.2.1 c hc), p _ (by simp), p _ (by simp), p _ (by simp), p _ (by simp)⟩
theorem no_guardL {I : Nat → Store → List D → Prop} : ∀ j S a, I j S a → gOk [] S := fun _ _ _ _ => fun _ h => (List.not_mem_nil h).elim
theorem no_guardE {α : Type} {I : List α → DSt → Store → Prop} : ∀ l σ S, I l σ S → gOk [] S := fun _ _ _ _ => fun _ h => (List.not_mem_nil h).elim
/-- a standing on the floor w × h of k kinds -/
def TlOk (w h k : Nat) (t : Tl) : Prop := (0 ≤ t.1 ∧ t.1 < w) ∧ (0 ≤ t.2.1 ∧ t.2.1 < h) ∧ (0 ≤ t.2.2 ∧ t.2.2 < k)
def tpl (t : Tl) : Pl := (t.1, t.2.1)
structure Stn (w h k : Nat) (ts : List Tl) : Prop where
  ok : ∀ t ∈ ts, TlOk w h k t
  so : sortT ts = ts
  nd : (ts.map tpl).Nodup
structure BedOk (b : Bed) (m : Nat) : Prop where
  hs : HsOk b m
  w1 : 1 ≤ b.w ∧ b.w ≤ 12
  h1 : 1 ≤ b.h ∧ b.h ≤ 12
  sd : Stn b.w b.h b.ks.length b.seed
theorem pow18 (S : Store) : powD (.int 10) (.int 18) S = .ok (.int 1000000000000000000) S := by
  have h : CPowX 10 18 := by decide +kernel
  rw [e_pow, if_pos h]
  rfl
theorem start_new {ns : List Int} {S : Store} {Q : D → Store → Prop} (hns : ns.length ≤ 63) (h : ∀ (p q : Nat) (S' : Store), Hnd S' p q → Q (.loc p) S') : Ok (d_law_start [.frz (ns.map D.int)] S) Q := by
  unfold d_law_start
  walk_at "den"
  unfold m_law_start
  walk_at "vs"
  rw [← List.map_take]
  obtain ⟨ms, hms⟩ : ∃ ms, ns.take 63 = ms := ⟨_, rfl⟩
  have hml : ms.length ≤ 63 := by rw [← hms, List.length_take]; omega
  rw [hms]
  refine k_en (s := ⟨ms.map D.int, []⟩) rfl ?_
  rw [show ((⟨ms.map D.int, []⟩ : Src).items.zipIdx.map fun p : D × Nat => D.tup [.int p.2, p.1]) = ms.zipIdx.map fun p : Int × Nat => D.tup [.int (p.2 : Int), .int p.1] from enum_map D.int ms]
  refine w_each (fun l σ S' => S' = S ∧ ∃ (s : Int) (x2 x3 : Option D), 0 ≤ s ∧ s < 2305843009213693951 ∧ σ = [some (.frz (ns.map D.int)), some (.int s), x2, x3]) ⟨rfl, 17, none, none, by omega, by omega, rfl⟩ no_guardE ?_ ?_
  · rintro l c rr σ S' e0 ⟨rfl, s, x2, x3, h0, h1, rfl⟩
    unfold b1_law_start
    walk_at "vs"
    exact ⟨rfl, _, _, _, Int.emod_nonneg _ (by omega), Int.emod_lt_of_pos _ (by omega), rfl⟩
  rintro σ S' ⟨rfl, s, x2, x3, h0, h1, rfl⟩
  walk_at "vs"
  rw [← List.map_take, hms]
  refine k_lcP (fun c => decide ((1000000000000000000 : Int) ≤ (if c < 0 then -c else c))) (fun c => D.int (if c < 0 then -c else c)) (fun _ h => (List.not_mem_nil h).elim) (fun c hc => ?_) ?_
  · unfold t1_law_start e1_law_start
    walk_at "vs"
    refine k_eq (pow18 _) ?_
    walk_at "vs"
    refine ⟨rfl, br_dec (fun _ => ?_) (fun _ => rfl)⟩
    walk_at "vs"
    exact ⟨rfl, rfl⟩
  rw [show ((ms.filter fun c => decide ((1000000000000000000 : Int) ≤ (if c < 0 then -c else c))).map fun c => D.int (if c < 0 then -c else c)) = ((ms.filter fun c => decide ((1000000000000000000 : Int) ≤ (if c < 0 then -c else c))).map fun c => if c < 0 then -c else c).map D.int by rw [List.map_map]; rfl]
  obtain ⟨fs, hfs⟩ : ∃ fs, ((ms.filter fun c => decide ((1000000000000000000 : Int) ≤ (if c < 0 then -c else c))).map fun c => if c < 0 then -c else c) = fs := ⟨_, rfl⟩
  rw [hfs]
  walk_at "vs"
  rw [List.length_append, List.append_assoc]
  refine h _ S'.length _ ⟨fs, s, ?_, ?_, fun d hd => ?_, h0, h1, by simp⟩
  · exact get_go (k := 1) rfl rfl
  · exact get_go0 rfl rfl
  · rw [← hfs] at hd
    obtain ⟨c, hc, rfl⟩ := List.mem_map.mp hd
    split <;> omega
/-! ### names of the framed beds -/
theorem nm_rep {c m : Nat} (h : 97 ≤ c ∧ c ≤ 122) (h1 : 1 ≤ m) (h2 : m ≤ 8) : Nm (List.replicate m c) := ⟨by rw [List.length_replicate]; omega, fun x hx => by rw [List.eq_of_mem_replicate hx]; exact h⟩
theorem sortS_mem {xs : List (List Nat)} {x : List Nat} : x ∈ sortS xs ↔ x ∈ xs := (sortS_perm xs).mem_iff
theorem sortS_ok {xs : List (List Nat)} {m : Nat} (h1 : xs.length = m) (h2 : xs.Nodup) (h3 : ∀ x ∈ xs, Nm x) : (sortS xs).length = m ∧ (sortS xs).Nodup ∧ ∀ x ∈ sortS xs, Nm x :=
  ⟨by rw [(sortS_perm xs).length_eq, h1], (sortS_perm xs).nodup_iff.mpr h2, fun x hx => h3 x (sortS_mem.mp hx)⟩
theorem names_ok {p q m : Nat} (hm : 1 ≤ m ∧ m ≤ 4) : ∀ S, Hnd S p q → Ok (d_law_names [.loc p, .int m] S) fun d S' => Fr S p q S' ∧ ∃ xs : List (List Nat), (xs.length = m ∧ xs.Nodup ∧ ∀ x ∈ xs, Nm x) ∧ d = .lst (xs.map sd) := by
  intro S0 h
  unfold d_law_names
  refine gc_fr h ?_
  walk_at "den"
  unfold m_law_names
  have hF := Fr.refl h
  obtain ⟨n, hl⟩ : ∃ n, S0.length = n := ⟨_, rfl⟩
  rw [show lc_az = az from rfl]
  walk_at "vs"
  refine k_next0 hF hl fun a S ha hF hl => ?_
  walk_at "vs"
  refine k_next0 hF hl fun st S hst hF hl => ?_
  obtain ⟨v, hv, hv2⟩ : ∃ v : Nat, [1, 3, 5, 7, 9, 11][st]? = some v ∧ (v = 1 ∨ v = 3 ∨ v = 5 ∨ v = 7 ∨ v = 9 ∨ v = 11) := by
    have : ∀ j < 6, ∃ v : Nat, [1, 3, 5, 7, 9, 11][j]? = some v ∧ (v = 1 ∨ v = 3 ∨ v = 5 ∨ v = 7 ∨ v = 9 ∨ v = 11) := by
      intro j hj
      obtain rfl | rfl | rfl | rfl | rfl | rfl : j = 0 ∨ j = 1 ∨ j = 2 ∨ j = 3 ∨ j = 4 ∨ j = 5 := by omega
      all_goals exact ⟨_, rfl, by omega⟩
    exact this st (by omega)
  walk_at "vs"
  refine p_ixL (d := .int v) ?_ ?_
  · have := congrArg (Option.map fun x : Nat => D.int x) hv
    rw [← List.getElem?_map] at this
    rw [atI_nat]
    exact this
  walk_at "vs"
  refine k_next0 hF hl fun sz S hsz hF hl => ?_
  walk_at "vs"
  refine rng_of (m := sz) rfl (by omega) ?_
  walk_at "vs"
  refine k_lcI (fun k S' acc => ∃ w : List Nat, Fr S0 p q S' ∧ S'.length = n ∧ acc = (w.map fun c => D.str (tx [c])) ∧ w.length = k ∧ ∀ c ∈ w, 97 ≤ c ∧ c ≤ 122) ⟨[], hF, hl, rfl, rfl, fun _ h => (List.not_mem_nil h).elim⟩ no_guardL ?_ ?_
  · rintro j d S acc hd ⟨w, hF, hl, rfl, hw, hwc⟩
    unfold e1_law_names
    walk_at "vs"
    refine k_next0 hF hl fun u S hu hF hl => ?_
    obtain ⟨c, hc, hc2⟩ := az_get (i := u) (by omega)
    refine p_ixS (c := c) (by decide) (by rw [atI_nat]; exact hc) ?_
    refine ⟨w ++ [c], hF, hl, by simp, by simp [hw], fun x hx => ?_⟩
    rcases List.mem_append.mp hx with h | h
    · exact hwc x h
    · rw [List.mem_singleton.mp h]; exact hc2
  rintro ys S ⟨w, hF, hl, rfl, hw, hwc⟩
  rw [List.length_map, List.length_range] at hw
  walk_at "vs"
  refine p_join1 (l := w) (by omega) ?_
  walk_at "vs"
  rw [show ((sz : Int) + 1) = ((sz + 1 : Nat) : Int) by omega]
  refine k_next0 hF hl fun at_ S hat hF hl => ?_
  walk_at "vs"
  refine br_T (by simp; omega) ?_
  walk_at "vs"
  refine k_next0 hF hl fun z S hz hF hl => ?_
  walk_at "vs"
  refine br_dec (fun h0 => ?_) (fun h0 => ?_)
  · walk_at "vs"
    refine rng_of (m := m) rfl (by omega) ?_
    walk_at "vs"
    obtain ⟨c, hc, hc2⟩ := az_get (i := a) (by omega)
    refine k_lcM1 (fun k : Nat => sd (List.replicate (k + 1) c)) (fun _ h => (List.not_mem_nil h).elim) (fun k hk => ?_) ?_
    · unfold e2_law_names
      walk_at "vs"
      refine p_ixS (c := c) (by decide) (by rw [atI_nat]; exact hc) ?_
      walk_at "vs"
      rw [show ((k : Int) + 1) = ((k + 1 : Nat) : Int) by omega]
      refine p_mulS (by have := List.mem_range.mp hk; omega) ?_
      exact ⟨rfl, rfl⟩
    · rw [show ((List.range m).map fun k : Nat => sd (List.replicate (k + 1) c)) = ((List.range m).map fun k => List.replicate (k + 1) c).map sd by rw [List.map_map]; rfl]
      walk_at "vs"
      refine k_eq (sortedS _ (by simp; omega)) ?_
      refine ⟨S, [], by simp, hF, sc_map fun _ => rfl, hF, _, sortS_ok (by simp) ?_ fun x hx => ?_, rfl⟩
      · refine List.pairwise_map.mpr (List.nodup_range.imp fun hne z => hne ?_)
        have := congrArg List.length z
        rw [List.length_replicate, List.length_replicate] at this
        omega
      obtain ⟨k, hk, rfl⟩ := List.mem_map.mp hx
      have := List.mem_range.mp hk
      exact nm_rep hc2 (by omega) (by omega)
  · walk_at "vs"
    refine rng_of (m := m) rfl (by omega) ?_
    walk_at "vs"
    refine k_lcM1 (fun k : Nat => sd (w.take at_ ++ [97 + (a + v * k) % 26] ++ w.drop at_)) (fun _ h => (List.not_mem_nil h).elim) (fun k hk => ?_) ?_
    · unfold e3_law_names
      walk_at "vs"
      refine p_slS (la := w) (by omega) ?_
      rw [cut_to]
      walk_at "vs"
      obtain ⟨u, hu, hu2⟩ : ∃ u : Nat, ((a : Int) + (v : Int) * (k : Int)) % 26 = (u : Int) ∧ (u < 26 ∧ u = (a + v * k) % 26) := ⟨((a + v * k) % 26), by push_cast; rfl, Nat.mod_lt _ (by omega), rfl⟩
      rw [hu]
      obtain ⟨hu2, hu3⟩ := hu2
      have hc : az[u]? = some (97 + (a + v * k) % 26) := by
        have : ∀ u < 26, az[u]? = some (97 + u) := by decide
        rw [this u hu2, hu3]
      refine p_ixS (c := 97 + (a + v * k) % 26) (by decide) (by rw [atI_nat]; exact hc) ?_
      refine p_addS ?_ ?_
      · rw [List.length_take]; simp; omega
      walk_at "vs"
      refine p_slS (la := w) (by omega) ?_
      rw [cut_from]
      refine p_addS ?_ ?_
      · rw [List.length_append, List.length_take, List.length_drop]; simp; omega
      exact ⟨rfl, rfl⟩
    · rw [show ((List.range m).map fun k : Nat => sd (w.take at_ ++ [97 + (a + v * k) % 26] ++ w.drop at_)) = ((List.range m).map fun k => w.take at_ ++ [97 + (a + v * k) % 26] ++ w.drop at_).map sd by rw [List.map_map]; rfl]
      walk_at "vs"
      refine k_eq (sortedS _ (by simp; omega)) ?_
      refine ⟨S, [], by simp, hF, sc_map fun _ => rfl, hF, _, sortS_ok (by simp) ?_ fun x hx => ?_, rfl⟩
      · refine List.pairwise_map.mpr (List.nodup_range.imp_of_mem fun {i j} hi hj hne z => hne ?_)
        have hi := List.mem_range.mp hi
        have hj := List.mem_range.mp hj
        have z1 := List.append_cancel_left (List.append_cancel_right z)
        have z2 : (a + v * i) % 26 = (a + v * j) % 26 := by simpa using z1
        rcases hv2 with rfl | rfl | rfl | rfl | rfl | rfl <;> omega
      obtain ⟨k, hk, rfl⟩ := List.mem_map.mp hx
      refine ⟨by simp; omega, fun c hc => ?_⟩
      simp only [List.mem_append, List.mem_singleton] at hc
      have := Nat.mod_lt (a + v * k) (show 26 > 0 by omega)
      rcases hc with (hc | rfl) | hc
      · exact hwc c (List.mem_of_mem_take hc)
      · omega
      · exact hwc c (List.mem_of_mem_drop hc)
/-! ### is it in a list of plain data -/
theorem any_eqv {d : D} {p : PyData} (h : D.pl 63 d = true) (hp : toPy d = some p) : ∀ (ds : List D) (ps : List PyData), D.pls 63 ds = true → toPys ds = some ps → ((ps.any fun z => PyData.eqv z p) = true ↔ d ∈ ds)
  | [], ps, _, e => by
    simp only [toPys, Option.some.injEq] at e
    subst e
    simp
  | a :: ds, ps, hd, e => by
    simp only [pls_cons, Bool.and_eq_true] at hd
    simp only [toPys] at e
    split at e
    · rename_i q qs h1 h2
      cases e
      rw [List.any_cons, Bool.or_eq_true, any_eqv h hp ds qs hd.2 h2, eqv_pl 63 63 a d q p hd.1 h h1 hp, List.mem_cons]
      exact ⟨fun z => z.imp_left Eq.symm, fun z => z.imp_left Eq.symm⟩
    · cases e
open Classical in
theorem p_inPL {S : Store} {Q : D → Store → Prop} {n : Bool} {d : D} {ds : List D} (h : D.pl 63 d = true) (hs : D.pls 63 ds = true) (k : Q (.bl (xor n (decide (d ∈ ds)))) S) : Ok (inD n d (.lst ds) S) Q := by
  obtain ⟨p, r1, r2, r3⟩ := pl_py 63 d h
  obtain ⟨ps, q1, q2, q3⟩ := pls_py 63 ds hs
  have h1 : pyS S d = some p := by rw [pyS_pl S h, r1]
  have h2 : pyS S (.lst ds) = some (.list ps) := by
    rw [pyS_pl (k := 64) S (by rw [pl_lst]; exact hs)]
    simp only [toPy, q1]
    rfl
  have e : inD n d (.lst ds) S = match pyS S d, pyS S (.lst ds) with
    | some p, some (.list ds) => if SeqAt.shaped p = true ∧ SeqAt.shaped (.list ds) = true then .ok (.bl (xor n (ds.any fun z => PyData.eqv z p))) S else .stuck
    | some p, some (.tuple ds) => if SeqAt.shaped p = true ∧ SeqAt.shaped (.tuple ds) = true then .ok (.bl (xor n (ds.any fun z => PyData.eqv z p))) S else .stuck
    | _, _ => match dlook S (.lst ds) d with
      | some r => .ok (.bl (xor n r.isSome)) S
      | none => .stuck := by cases d <;> rfl
  refine k_eq ?_ k
  rw [e, h1, h2]
  simp only
  rw [if_pos ⟨by simp [SeqAt.shaped, r2]; omega, by simp [SeqAt.shaped, PyData.canLay0, q2, PyData.depth]; omega⟩]
  congr 3
  rw [Bool.eq_iff_iff, any_eqv h r1 ds ps hs q1, decide_eq_true_eq]
theorem sd_inj {a b : List Nat} (h : sd a = sd b) : a = b := tx_inj (D.str.inj h)
theorem sd_mem {a : List Nat} {xs : List (List Nat)} : sd a ∈ xs.map sd ↔ a ∈ xs := by
  rw [List.mem_map]
  exact ⟨fun ⟨b, hb, e⟩ => sd_inj e ▸ hb, fun h => ⟨a, h, rfl⟩⟩
open Classical in
theorem p_inSL {S : Store} {Q : D → Store → Prop} {n : Bool} {x : List Nat} {xs : List (List Nat)} (h : ∀ c ∈ x, c < 1114112) (hs : ∀ y ∈ xs, ∀ c ∈ y, c < 1114112) (k : Q (.bl (xor n (decide (x ∈ xs)))) S) : Ok (inD n (.str (tx x)) (.lst (xs.map sd)) S) Q := by
  refine p_inPL (pl_tx h) (pls_map fun y hy => pl_tx (hs y hy)) ?_
  have : (decide (D.str (tx x) ∈ xs.map sd)) = decide (x ∈ xs) := by
    rw [Bool.eq_iff_iff, decide_eq_true_eq, decide_eq_true_eq]
    exact sd_mem
  rw [this]
  exact k
open Classical in
theorem p_inPT {S : Store} {Q : D → Store → Prop} {n : Bool} {d : D} {ds : List D} (h : D.pl 63 d = true) (hs : D.pls 63 ds = true) (k : Q (.bl (xor n (decide (d ∈ ds)))) S) : Ok (inD n d (.tup ds) S) Q := by
  obtain ⟨p, r1, r2, r3⟩ := pl_py 63 d h
  obtain ⟨ps, q1, q2, q3⟩ := pls_py 63 ds hs
  have h1 : pyS S d = some p := by rw [pyS_pl S h, r1]
  have h2 : pyS S (.tup ds) = some (.tuple ps) := by
    rw [pyS_pl (k := 64) S (by rw [pl_tup]; exact hs)]
    simp only [toPy, q1]
    rfl
  have e : inD n d (.tup ds) S = match pyS S d, pyS S (.tup ds) with
    | some p, some (.list ds) => if SeqAt.shaped p = true ∧ SeqAt.shaped (.list ds) = true then .ok (.bl (xor n (ds.any fun z => PyData.eqv z p))) S else .stuck
    | some p, some (.tuple ds) => if SeqAt.shaped p = true ∧ SeqAt.shaped (.tuple ds) = true then .ok (.bl (xor n (ds.any fun z => PyData.eqv z p))) S else .stuck
    | _, _ => match dlook S (.tup ds) d with
      | some r => .ok (.bl (xor n r.isSome)) S
      | none => .stuck := by cases d <;> rfl
  refine k_eq ?_ k
  rw [e, h1, h2]
  simp only
  rw [if_pos ⟨by simp [SeqAt.shaped, r2]; omega, by simp [SeqAt.shaped, PyData.canLay0, q2, PyData.depth]; omega⟩]
  congr 3
  rw [Bool.eq_iff_iff, any_eqv h r1 ds ps hs q1, decide_eq_true_eq]
theorem tl_inj {a b : Tl} (h : tl a = tl b) : a = b := by
  rcases a with ⟨x, y, z⟩
  rcases b with ⟨x', y', z'⟩
  simp [tl] at h
  simp [h]
theorem tl_mem {a : Tl} {ts : List Tl} : tl a ∈ ts.map tl ↔ a ∈ ts := by
  rw [List.mem_map]
  exact ⟨fun ⟨b, hb, e⟩ => tl_inj e ▸ hb, fun h => ⟨a, h, rfl⟩⟩
open Classical in
theorem p_inTl {S : Store} {Q : D → Store → Prop} {n : Bool} {t : Tl} {ts : List Tl} (k : Q (.bl (xor n (decide (t ∈ ts)))) S) : Ok (inD n (tl t) (.tup (ts.map tl)) S) Q := by
  refine p_inPT (pl_tl _ _) (pls_map fun _ _ => pl_tl _ _) ?_
  have : (decide (tl t ∈ ts.map tl)) = decide (t ∈ ts) := by
    rw [Bool.eq_iff_iff, decide_eq_true_eq, decide_eq_true_eq]
    exact tl_mem
  rw [this]
  exact k
/-! ### frames -/
abbrev fsd (b : Bed) : D := .tup [.int b.en, .tup (b.st.map stk), .tup (b.ks.map kd)]
abbrev fbd (b : Bed) : D := .tup [fsd b, fld b, .tup (b.seed.map tl)]
def frT (w x y : Nat) : Bool := decide (y = 0) || decide (x + 1 = w)
def frQ (w h n : Nat) : List Pl := (List.range n).flatMap fun x : Nat => ((List.range h).filter (frT w x)).map fun y : Nat => ((x : Int), (y : Int))
theorem frQ_succ (w h n : Nat) : frQ w h (n + 1) = frQ w h n ++ ((List.range h).filter (frT w n)).map fun y : Nat => ((n : Int), (y : Int)) := by
  unfold frQ
  rw [List.range_succ, List.flatMap_append]
  simp
theorem frQ_len (w h : Nat) : ∀ n, (frQ w h n).length ≤ n * h
  | 0 => by simp [frQ]
  | n + 1 => by
    rw [frQ_succ, List.length_append, List.length_map, Nat.succ_mul]
    have := frQ_len w h n
    have := List.length_filter_le (frT w n) (List.range h)
    rw [List.length_range] at this
    omega
theorem mem_frQ {w h n : Nat} {q : Pl} : q ∈ frQ w h n ↔ ∃ x y : Nat, q = ((x : Int), (y : Int)) ∧ x < n ∧ y < h ∧ frT w x y = true := by
  unfold frQ
  rw [List.mem_flatMap]
  constructor
  · rintro ⟨x, hx, hq⟩
    obtain ⟨y, hy, rfl⟩ := List.mem_map.mp hq
    obtain ⟨h1, h2⟩ := List.mem_filter.mp hy
    exact ⟨x, y, rfl, List.mem_range.mp hx, List.mem_range.mp h1, h2⟩
  · rintro ⟨x, y, rfl, hx, hy, ht⟩
    exact ⟨x, List.mem_range.mpr hx, List.mem_map.mpr ⟨y, List.mem_filter.mpr ⟨List.mem_range.mpr hy, ht⟩, rfl⟩⟩
def plt (p q : Pl) : Prop := p.1 < q.1 ∨ p.1 = q.1 ∧ p.2 < q.2
theorem frQ_so (w h : Nat) : ∀ n, (frQ w h n).Pairwise plt := fun n => by
  unfold frQ
  rw [List.pairwise_flatMap]
  refine ⟨fun x hx => ?_, ?_⟩
  · rw [List.pairwise_map]
    exact (List.pairwise_lt_range.filter _).imp fun {a b} h => .inr ⟨rfl, Int.ofNat_lt.mpr h⟩
  · refine List.pairwise_lt_range.imp fun {a b} hne p hp q hq => ?_
    obtain ⟨y, _, rfl⟩ := List.mem_map.mp hp
    obtain ⟨y', _, rfl⟩ := List.mem_map.mp hq
    exact .inl (Int.ofNat_lt.mpr hne)
theorem plt_eq {l m : List Pl} (hl : l.Pairwise plt) (hm : m.Pairwise plt) (h : ∀ q, q ∈ l ↔ q ∈ m) : l = m := by
  have irr : ∀ {l : List Pl}, l.Pairwise plt → l.Nodup := fun hl => hl.imp fun {a b} h z => by
    subst z
    rcases h with h | h <;> omega
  refine (((List.perm_ext_iff_of_nodup (irr hl) (irr hm)).mpr h)).eq_of_pairwise (le := fun p q => plt p q ∨ p = q) (fun a b _ _ h1 h2 => ?_) (hl.imp .inl) (hm.imp .inl)
  rcases h1 with h1 | h1
  · rcases h2 with h2 | h2
    · rcases h1 with h1 | h1 <;> rcases h2 with h2 | h2 <;> omega
    · exact h2.symm
  · exact h1
theorem frame_ok {w h : Nat} (hw : w ≤ 12) (hh : h ≤ 12) (S : Store) : Ok (d_frame_of [.int w, .int h] S) fun d S' => d = .lst ((frQ w h w).map pl) ∧ S' = S := by
  obtain ⟨n, hn⟩ : ∃ n, S.length = n := ⟨_, rfl⟩
  unfold d_frame_of
  refine gcF_pure ?_
  walk_at "den"
  unfold m_frame_of
  walk_at "vs"
  rw [hn]
  refine rng_of (m := w) rfl (by omega) ?_
  refine w_each (fun l σ S' => ∃ (x4 : Option D), S' = S ++ [.lst ((frQ w h l.length).map pl)] ∧ (∃ x3, σ = [some (.int w), some (.int h), some (.loc n), x3, x4]) ∧ l = List.range l.length) ⟨none, rfl, ⟨_, rfl⟩, rfl⟩ no_guardE ?_ ?_
  · rintro l x r σ S' e0 ⟨x4, rfl, ⟨x3, rfl⟩, hr⟩
    have hx : x = l.length := by
      have h1 : (List.range w)[l.length]? = some x := by rw [e0, List.getElem?_append_right (Nat.le_refl _)]; simp
      obtain ⟨h2, h3⟩ := List.getElem?_eq_some_iff.mp h1
      rw [List.getElem_range] at h3
      exact h3.symm
    have hlw : l.length < w := by
      have := congrArg List.length e0
      simp at this
      omega
    subst hx
    unfold b1_frame_of
    walk_at "vs"
    refine rng_of (m := h) rfl (by omega) ?_
    walk_at "vs"
    refine k_lcP (frT w l.length) (fun y : Nat => pl ((l.length : Int), (y : Int))) (fun _ h => (List.not_mem_nil h).elim) (fun y hy => ?_) ?_
    · unfold t1_frame_of e1_frame_of
      walk_at "vs"
      refine br_dec (fun h0 => ?_) (fun h0 => ?_)
      · have e : frT w l.length y = true := by unfold frT; rw [decide_eq_true (by omega)]; rfl
        rw [e]
        refine ⟨rfl, ?_⟩
        walk_at "vs"
        exact ⟨rfl, rfl⟩
      · walk_at "vs"
        have e : frT w l.length y = decide (((l.length : Nat) : Int) = (w : Int) - 1) := by
          unfold frT
          rw [decide_eq_false (by omega), Bool.false_or, Bool.eq_iff_iff, decide_eq_true_eq, decide_eq_true_eq]
          omega
        rw [e]
        refine ⟨by simp, br_dec (fun h1 => ?_) (fun h1 => rfl)⟩
        walk_at "vs"
        exact ⟨rfl, rfl⟩
    have hz := frQ_len w h l.length
    have hz2 : l.length * h ≤ 12 * 12 := Nat.mul_le_mul (by omega) hh
    walk_at "vs"
    refine p_extL (ds := (frQ w h l.length).map pl) (get_go0 hn rfl) (by have := List.length_filter_le (frT w l.length) (List.range h); simp only [List.length_map, List.length_range] at *; omega) ?_
    walk_at "vs"
    refine ⟨_, ?_, ⟨_, rfl⟩, ?_⟩
    · rw [List.length_append, List.length_singleton, frQ_succ, List.map_append, List.map_map]
      rfl
    · rw [List.length_append, List.length_singleton, List.range_succ, ← hr]
  rintro σ S' ⟨x4, rfl, ⟨x3, rfl⟩, -⟩
  rw [List.length_range]
  walk_at "vs"
  exact ⟨[.lst ((frQ w h w).map pl)], 0, _, rfl, rfl, rfl, sc_map fun _ => rfl, rfl, rfl⟩
/-! ### framed or not -/
/-- beds of the law -/
structure Gd (b : Bed) : Prop where
  sl : 1 ≤ b.st.length ∧ b.st.length ≤ 4
  nm : ∀ x ∈ b.st, Nm x.1
  kl : 1 ≤ b.ks.length ∧ b.ks.length ≤ 20
  ko : ∀ k ∈ b.ks, KdOk (b.st.map Prod.fst) k
  w1 : 1 ≤ b.w ∧ b.w ≤ 12
  h1 : 1 ≤ b.h ∧ b.h ≤ 12
  so : (b.seed.map tpl).Pairwise plt
  fl : ∀ t ∈ b.seed, (0 ≤ t.1 ∧ t.1 < b.w) ∧ (0 ≤ t.2.1 ∧ t.2.1 < b.h)
theorem Gd.ku {b : Bed} (h : Gd b) {k : Kd} (hk : k ∈ b.ks) : KdU k := (h.ko k hk).u fun x hx => by
  obtain ⟨y, hy, rfl⟩ := List.mem_map.mp hx
  exact h.nm y hy
def nob (k : Kd) : Bool := k.a.isEmpty || k.b.isEmpty || k.c.isEmpty || k.d.isEmpty
def se (k : Kd) : List Nat × List Nat := (k.c, k.b)
def frB (b : Bed) : Bool := decide (b.en = 2) && b.st.all (fun x => decide (x.2 = 1)) && !(b.ks.any nob) && decide ((b.ks.map se).Nodup) && decide (b.seed.map tpl = frQ b.w b.h b.w)
theorem wordsOf_se : ∀ ks : List Kd, wordsOf (ks.map fun k => D.tup [sd k.c, sd k.b]) = some (ks.map fun k => [tx k.c, tx k.b])
  | [] => rfl
  | k :: ks => by
    show (wordsOf (ks.map fun k => D.tup [sd k.c, sd k.b])).map ([tx k.c, tx k.b] :: ·) = _
    rw [wordsOf_se ks]
    rfl
theorem p_lenSetW {ks : List Kd} {S : Store} {Q : D → Store → Prop} (hl : ks.length < 63) (h : Q (.int (undup (ks.map fun k => [tx k.c, tx k.b])).length) S) : Ok (lenSetW (.lst (ks.map fun k => D.tup [sd k.c, sd k.b])) S) Q := by
  refine k_eq ?_ h
  have e : seqOf S (.lst (ks.map fun k => D.tup [sd k.c, sd k.b])) = some (ks.map fun k => D.tup [sd k.c, sd k.b]) := rfl
  unfold lenSetW
  rw [e]
  simp only [wordsOf_se]
  rw [if_pos (by rw [List.length_map]; exact hl)]
theorem se_nd (ks : List Kd) : (undup (ks.map fun k => [tx k.c, tx k.b])).length = ks.length ↔ (ks.map se).Nodup := by
  have := undup_len (xs := ks.map fun k => [tx k.c, tx k.b])
  rw [List.length_map] at this
  rw [this]
  unfold List.Nodup
  rw [List.pairwise_map, List.pairwise_map]
  constructor
  · exact fun h => h.imp fun {a b} hne z => hne (by
      simp only [se, Prod.mk.injEq] at z
      rw [z.1, z.2])
  · exact fun h => h.imp fun {a b} hne z => hne (by
      simp only [List.cons.injEq, and_true] at z
      exact Prod.ext (tx_inj z.1) (tx_inj z.2))
theorem frB_iff {b : Bed} : frB b = true ↔ b.en = 2 ∧ (∀ x ∈ b.st, x.2 = 1) ∧ (∀ k ∈ b.ks, nob k = false) ∧ (b.ks.map se).Nodup ∧ b.seed.map tpl = frQ b.w b.h b.w := by
  simp only [frB, Bool.and_eq_true, decide_eq_true_eq, List.all_eq_true, Bool.not_eq_true', List.any_eq_false]
  constructor
  · rintro ⟨⟨⟨⟨e1, e2⟩, e3⟩, e4⟩, e5⟩
    exact ⟨e1, e2, fun k hk => by simpa using e3 k hk, e4, e5⟩
  · rintro ⟨e1, e2, e3, e4, e5⟩
    exact ⟨⟨⟨⟨e1, e2⟩, fun k hk => by simp [e3 k hk]⟩, e4⟩, e5⟩
theorem frB_no {b : Bed} (h : ¬ (b.en = 2 ∧ (∀ x ∈ b.st, x.2 = 1) ∧ (∀ k ∈ b.ks, nob k = false) ∧ (b.ks.map se).Nodup ∧ b.seed.map tpl = frQ b.w b.h b.w)) : frB b = false := by
  cases e : frB b with
  | false => rfl
  | true => exact absurd (frB_iff.mp e) h
theorem nob_in (k : Kd) [Decidable (D.str (tx []) ∈ [sd k.a, sd k.b, sd k.c, sd k.d])] : decide (D.str (tx []) ∈ [sd k.a, sd k.b, sd k.c, sd k.d]) = nob k := by
  rw [Bool.eq_iff_iff, decide_eq_true_eq]
  have := sd_mem (a := []) (xs := [k.a, k.b, k.c, k.d])
  simp only [List.map_cons, List.map_nil] at this
  rw [show D.str (tx []) = sd [] from rfl, this]
  simp only [List.mem_cons, List.not_mem_nil, or_false, nob, Bool.or_eq_true, List.isEmpty_iff]
  constructor
  · rintro (h | h | h | h) <;> simp [← h]
  · rintro (((h | h) | h) | h) <;> simp [h]
theorem pl_inj {a b : Pl} (h : pl a = pl b) : a = b := by
  rcases a with ⟨x, y⟩
  rcases b with ⟨x', y'⟩
  simp [pl] at h
  simp [h]
theorem pls_eq {xs ys : List Pl} : D.lst (xs.map pl) = D.lst (ys.map pl) ↔ xs = ys := by
  constructor
  · intro h
    injection h with h
    exact List.map_inj_right (fun _ _ => pl_inj) |>.mp h
  · exact fun h => h ▸ rfl
theorem pl_plain (k : Nat) (ps : List Pl) : D.pls (k + 1) (ps.map pl) = true := pls_map fun _ _ => by simp [pl, D.pl, D.pls]
open Classical in
theorem is_framed_ok {b : Bed} (hb : Gd b) (S : Store) : Ok (d_is_framed [fbd b] S) fun d S' => d = .bl (frB b) ∧ S' = S := by
  unfold d_is_framed
  refine gc_pure ?_
  walk_at "den"
  unfold m_is_framed
  walk_at "vs"
  have out : ∀ {v : Bool}, frB b = v → (∃ g, S = S ++ g) ∧ (D.bl v).sc S.length = true ∧ D.bl v = .bl (frB b) ∧ S = S := fun e => ⟨⟨[], (List.append_nil _).symm⟩, rfl, by rw [e], rfl⟩
  refine br_dec (fun h2 => ?_) (fun h2 => ?_)
  · walk_at "vs"
    refine k_lcM1 (f := stk) (fun x => .bl (!(decide (x.2 = 1)))) (fun _ h => (List.not_mem_nil h).elim) (fun x hx => ?_) ?_
    · unfold e1_is_framed
      walk_at "vs"
      exact ⟨by rw [Bool.true_xor, show decide ((x.2 : Int) = 1) = decide (x.2 = 1) from decide_eq_decide.mpr (by omega)], rfl⟩
    rw [show (b.st.map fun x => D.bl (!(decide (x.2 = 1)))) = (b.st.map fun x => !(decide (x.2 = 1))).map D.bl by rw [List.map_map]; rfl]
    walk_at "vs"
    refine k_eq (blsK _ _) ?_
    walk_at "vs"
    refine br_if (fun h3 => ?_) (fun h3 => ?_)
    · walk_at "vs"
      refine out (frB_no fun ⟨_, e, _⟩ => ?_)
      obtain ⟨z, hz, z2⟩ := List.any_eq_true.mp h3
      obtain ⟨x, hx, rfl⟩ := List.mem_map.mp hz
      simp [e x hx] at z2
    walk_at "vs"
    refine k_lcM1 (f := kd) (fun k => .bl (nob k)) (fun _ h => (List.not_mem_nil h).elim) (fun k hk => ?_) ?_
    · unfold e2_is_framed
      walk_at "vs"
      obtain ⟨_, u1, u2, u3, u4⟩ := hb.ku hk
      refine p_inPT (pl_tx fun _ h => (List.not_mem_nil h).elim) (by simp only [D.pls, Bool.and_true, Bool.and_eq_true]; exact ⟨pl_tx u1, pl_tx u2, pl_tx u3, pl_tx u4⟩) ?_
      exact ⟨by rw [Bool.false_xor, nob_in], rfl⟩
    rw [show (b.ks.map fun k => D.bl (nob k)) = (b.ks.map nob).map D.bl by rw [List.map_map]; rfl]
    walk_at "vs"
    refine k_eq (blsK _ _) ?_
    walk_at "vs"
    refine br_if (fun h4 => ?_) (fun h4 => ?_)
    · walk_at "vs"
      refine out (frB_no fun ⟨_, _, e, _⟩ => ?_)
      obtain ⟨z, hz, z2⟩ := List.any_eq_true.mp h4
      obtain ⟨x, hx, rfl⟩ := List.mem_map.mp hz
      simp [e x hx] at z2
    walk_at "vs"
    refine k_lcM1 (f := kd) (fun k => .tup [sd k.c, sd k.b]) (fun _ h => (List.not_mem_nil h).elim) (fun k hk => ?_) ?_
    · unfold e3_is_framed
      walk_at "vs"
      exact ⟨rfl, rfl⟩
    walk_at "vs"
    refine p_lenSetW (by have := hb.kl; omega) ?_
    walk_at "vs"
    rw [List.length_map]
    refine br_dec (fun h5 => ?_) (fun h5 => ?_)
    · walk_at "vs"
      refine k_lcM1 (f := tl) (fun t => pl (tpl t)) (fun _ h => (List.not_mem_nil h).elim) (fun t ht => ?_) ?_
      · unfold e4_is_framed
        walk_at "vs"
        exact ⟨rfl, rfl⟩
      walk_at "vs"
      refine (frame_ok hb.w1.2 hb.h1.2 _).imp ?_
      rintro _ _ ⟨rfl, rfl⟩
      rw [show (b.seed.map fun t => pl (tpl t)) = (b.seed.map tpl).map pl by rw [List.map_map]; rfl]
      refine p_eqP (by rw [pl_lst]; exact pl_plain _ _) (by rw [pl_lst]; exact pl_plain _ _) ?_
      rw [Bool.false_xor]
      refine out ?_
      rw [Bool.eq_iff_iff, frB_iff, decide_eq_true_eq, pls_eq]
      have q3 : ∀ x ∈ b.st, x.2 = 1 := fun x hx => by
        have := List.any_eq_false.mp h3 (!(decide (x.2 = 1))) (List.mem_map.mpr ⟨x, hx, rfl⟩)
        simpa using this
      have q4 : ∀ k ∈ b.ks, nob k = false := fun k hk => by
        have := List.any_eq_false.mp h4 (nob k) (List.mem_map.mpr ⟨k, hk, rfl⟩)
        simpa using this
      exact ⟨fun h => h.2.2.2.2, fun h => ⟨by omega, q3, q4, (se_nd _).mp (by omega), h⟩⟩
    · refine out (frB_no fun ⟨_, _, _, e, _⟩ => h5 ?_)
      rw [(se_nd _).mpr e]
  · walk_at "vs"
    refine out (frB_no fun ⟨e, _⟩ => h2 ?_)
    omega
/-! ### the law's own look -/
theorem se_mem {k : Kd} {xs : List Kd} : D.tup [sd k.b, sd k.c] ∈ (xs.map fun o => D.tup [sd o.b, sd o.c]) ↔ se k ∈ xs.map se := by
  rw [List.mem_map, List.mem_map]
  constructor
  · rintro ⟨o, ho, e⟩
    injection e with e
    simp only [List.cons.injEq, and_true] at e
    exact ⟨o, ho, by rw [se, se, sd_inj e.1, sd_inj e.2]⟩
  · rintro ⟨o, ho, e⟩
    simp only [se, Prod.mk.injEq] at e
    exact ⟨o, ho, by rw [e.1, e.2]⟩
theorem pl_mem {q : Pl} {qs : List Pl} : pl q ∈ qs.map pl ↔ q ∈ qs := by
  rw [List.mem_map]
  exact ⟨fun ⟨b, hb, e⟩ => pl_inj e ▸ hb, fun h => ⟨q, h, rfl⟩⟩
theorem frQ_all {b : Bed} (hb : Gd b) (h : ∀ x < b.w, ∀ y < b.h, ((((x : Int), (y : Int)) : Pl) ∈ b.seed.map tpl ↔ frT b.w x y = true)) : b.seed.map tpl = frQ b.w b.h b.w := by
  refine plt_eq hb.so (frQ_so _ _ _) fun q => ?_
  rw [mem_frQ]
  constructor
  · intro hq
    obtain ⟨t, ht, rfl⟩ := List.mem_map.mp hq
    obtain ⟨⟨f1, f2⟩, f3, f4⟩ := hb.fl t ht
    obtain ⟨x, hx⟩ : ∃ x : Nat, t.1 = x := ⟨t.1.toNat, by omega⟩
    obtain ⟨y, hy⟩ : ∃ y : Nat, t.2.1 = y := ⟨t.2.1.toNat, by omega⟩
    have e : tpl t = ((x : Int), (y : Int)) := by unfold tpl; rw [hx, hy]
    exact ⟨x, y, e, by omega, by omega, (h x (by omega) y (by omega)).mp (e ▸ hq)⟩
  · rintro ⟨x, y, rfl, hx, hy, ht⟩
    exact (h x hx y hy).mpr ht
theorem frQ_not {b : Bed} {x y : Nat} (hx : x < b.w) (hy : y < b.h) (h : ¬ ((((x : Int), (y : Int)) : Pl) ∈ b.seed.map tpl ↔ frT b.w x y = true)) : b.seed.map tpl ≠ frQ b.w b.h b.w := fun e => h (by
  rw [e, mem_frQ]
  constructor
  · rintro ⟨x', y', e, _, _, ht⟩
    simp only [Prod.mk.injEq, Int.natCast_inj] at e
    rw [e.1, e.2]
    exact ht
  · exact fun ht => ⟨x, y, rfl, hx, hy, ht⟩)
open Classical in
theorem look_ok {b : Bed} (hb : Gd b) (S : Store) : Ok (d_law_look [fbd b] S) fun d S' => d = .bl (frB b) ∧ S' = S := by
  unfold d_law_look
  refine gc_pure ?_
  walk_at "den"
  unfold m_law_look
  walk_at "vs"
  have outT : ∀ {S : Store} {v : Bool}, frB b = v → (∃ g, S = S ++ g) ∧ (D.bl v).sc S.length = true ∧ D.bl v = .bl (frB b) ∧ True := fun e => ⟨⟨[], (List.append_nil _).symm⟩, rfl, by rw [e], trivial⟩
  have out : ∀ {v : Bool}, frB b = v → (∃ g, S = S ++ g) ∧ (D.bl v).sc S.length = true ∧ D.bl v = .bl (frB b) ∧ S = S := fun e => ⟨⟨[], (List.append_nil _).symm⟩, rfl, by rw [e], rfl⟩
  refine br_dec (fun h2 => ?_) (fun h2 => ?_)
  rotate_left
  · walk_at "vs"
    refine out (frB_no fun ⟨e, _⟩ => h2 ?_)
    omega
  walk_at "vs"
  refine k_lcP (f := stk) (fun x => !(decide (x.2 = 1))) (fun x => sd x.1) (fun _ h => (List.not_mem_nil h).elim) (fun x hx => ?_) ?_
  · unfold t1_law_look e1_law_look
    walk_at "vs"
    refine ⟨by rw [Bool.true_xor, show decide ((x.2 : Int) = 1) = decide (x.2 = 1) from decide_eq_decide.mpr (by omega)], ?_⟩
    cases e : !(decide (x.2 = 1)) with
    | true => exact k_var rfl ⟨rfl, rfl⟩
    | false => rfl
  walk_at "vs"
  refine p_eqP (by rw [pl_lst]; exact pls_map fun x hx => pl_tx (hb.nm x (List.mem_filter.mp hx).1).u) (by rw [pl_lst]; rfl) ?_
  walk_at "vs"
  have e3 : decide (D.lst ((b.st.filter fun x => !(decide (x.2 = 1))).map fun x => sd x.1) = D.lst []) = decide (∀ x ∈ b.st, x.2 = 1) := by
    rw [decide_eq_decide]
    constructor
    · intro h x hx
      injection h with h
      rw [List.map_eq_nil_iff, List.filter_eq_nil_iff] at h
      simpa using h x hx
    · intro h
      rw [List.filter_eq_nil_iff.mpr fun x hx => by simp [h x hx]]
      rfl
  rw [e3]
  refine br_dec (fun h3 => ?_) (fun h3 => ?_)
  rotate_left
  · walk_at "vs"
    exact out (frB_no fun ⟨_, e, _⟩ => h3 e)
  walk_at "vs"
  refine ⟨_, ⟨b.ks.map kd, []⟩, rfl, rfl, ?_⟩
  simp only
  rw [List.zipIdx_map, List.map_map]
  refine w_each (xs := b.ks.zipIdx) (f := fun p : Kd × Nat => D.tup [.int p.2, kd p.1]) (fun l σ S' => ∃ (x7 x8 : Option D), S' = S ∧ (∀ p ∈ l, nob p.1 = false) ∧ (l.map fun p => se p.1).Nodup ∧ σ = [some (fbd b), some (D.int b.en), some (D.tup (b.st.map stk)), some (D.tup (b.ks.map kd)), some (D.int b.w), some (D.int b.h), some (D.tup (b.seed.map tl)), x7, x8, none, none, none, none, none, none, none]) ⟨none, none, rfl, fun _ h => (List.not_mem_nil h).elim, List.nodup_nil, rfl⟩ no_guardE ?_ ?_
  · rintro l x r σ S' e0 ⟨x7, x8, rfl, hl1, hl2, rfl⟩
    have ek : b.ks = l.map Prod.fst ++ x.1 :: r.map Prod.fst := by
      have := congrArg (List.map Prod.fst) e0
      rwa [List.map_append, List.map_cons, List.zipIdx_map_fst] at this
    have hx2 : x.2 = l.length := by
      have h1 : b.ks.zipIdx[l.length]? = some x := by rw [e0, List.getElem?_append_right (Nat.le_refl _)]; simp
      rw [List.getElem?_zipIdx] at h1
      obtain ⟨k, _, e⟩ := Option.map_eq_some_iff.mp h1
      rw [← e]
      simp
    have hxk : x.1 ∈ b.ks := by rw [ek]; simp
    obtain ⟨k, j⟩ := x
    simp only at hx2 hxk ek
    subst hx2
    obtain ⟨_, u1, u2, u3, u4⟩ := hb.ku hxk
    unfold b1_law_look
    walk_at "vs"
    refine p_inPT (pl_tx fun _ h => (List.not_mem_nil h).elim) (by simp only [D.pls, Bool.and_true, Bool.and_eq_true]; exact ⟨pl_tx u1, pl_tx u2, pl_tx u3, pl_tx u4⟩) ?_
    rw [Bool.false_xor, nob_in]
    walk_at "vs"
    refine br_if (fun h4 => ?_) (fun h4 => ?_)
    · walk_at "vs"
      exact outT (frB_no fun ⟨_, _, e, _⟩ => by rw [e k hxk] at h4; cases h4)
    walk_at "vs"
    rw [← List.map_take, show b.ks.take l.length = l.map Prod.fst by rw [ek, List.take_left' (by simp)], List.map_map]
    refine k_lcM1 (xs := l) (f := fun o : Kd × Nat => kd o.1) (fun o => D.tup [sd o.1.b, sd o.1.c]) (fun _ h => (List.not_mem_nil h).elim) (fun o ho => ?_) ?_
    · unfold e2_law_look
      walk_at "vs"
      exact ⟨rfl, rfl⟩
    rw [show (l.map fun o : Kd × Nat => D.tup [sd o.1.b, sd o.1.c]) = ((l.map Prod.fst).map fun o : Kd => D.tup [sd o.b, sd o.c]) by rw [List.map_map]; rfl, show cut [sd k.f, sd k.a, sd k.b, sd k.c, sd k.d] (some 2) (some 4) = [sd k.b, sd k.c] from rfl]
    refine p_inPL (by simp only [D.pl, D.pls, Bool.and_true, Bool.and_eq_true]; exact ⟨pl_tx u2, pl_tx u3⟩) (pls_map fun o ho => ?_) ?_
    · obtain ⟨_, v1, v2, v3, v4⟩ := hb.ku (show o ∈ b.ks by rw [ek]; exact List.mem_append_left _ ho)
      simp only [D.pl, D.pls, Bool.and_true, Bool.and_eq_true]
      exact ⟨pl_tx v2, pl_tx v3⟩
    rw [Bool.false_xor]
    walk_at "vs"
    refine br_dec (fun h5 => ?_) (fun h5 => ?_)
    · walk_at "vs"
      refine outT (frB_no fun ⟨_, _, _, e, _⟩ => ?_)
      rw [ek, List.map_append, List.map_cons] at e
      have := (List.nodup_append.mp e).2.2 (se k) (se_mem.mp h5) (se k) List.mem_cons_self
      exact this rfl
    · walk_at "vs"
      refine ⟨_, _, rfl, fun p hp => ?_, ?_, rfl⟩
      · rcases List.mem_append.mp hp with h | h
        · exact hl1 p h
        · rw [List.mem_singleton.mp h]; exact h4
      · rw [List.map_append]
        refine List.nodup_append.mpr ⟨hl2, by simp, fun a ha c hc e => h5 (se_mem.mpr ?_)⟩
        rw [List.map_singleton, List.mem_singleton] at hc
        rw [← hc, ← e, List.map_map]
        exact ha
  · rintro σ S' ⟨x7, x8, rfl, hl1, hl2, rfl⟩
    have h4 : ∀ k ∈ b.ks, nob k = false := fun k hk => by
      have : k ∈ b.ks.zipIdx.map Prod.fst := by rw [List.zipIdx_map_fst]; exact hk
      obtain ⟨p, hp, rfl⟩ := List.mem_map.mp this
      exact hl1 p hp
    have h5 : (b.ks.map se).Nodup := by
      rw [← List.zipIdx_map_fst 0 b.ks, List.map_map]
      exact hl2
    walk_at "vs"
    refine k_lcM1 (f := tl) (fun t => pl (tpl t)) (fun _ h => (List.not_mem_nil h).elim) (fun t ht => ?_) ?_
    · unfold e3_law_look
      walk_at "vs"
      exact ⟨rfl, rfl⟩
    rw [show (b.seed.map fun t => pl (tpl t)) = (b.seed.map tpl).map pl by rw [List.map_map]; rfl]
    walk_at "vs"
    refine rng_of (m := b.w) rfl (by have := hb.w1; omega) ?_
    refine w_each (fun l σ S2 => ∃ (x10 x11 : Option D), S2 = S' ∧ l = List.range l.length ∧ (∀ x < l.length, ∀ y < b.h, ((((x : Int), (y : Int)) : Pl) ∈ b.seed.map tpl ↔ frT b.w x y = true)) ∧ σ = [some (fbd b), some (D.int b.en), some (D.tup (b.st.map stk)), some (D.tup (b.ks.map kd)), some (D.int b.w), some (D.int b.h), some (D.tup (b.seed.map tl)), x7, x8, some (.lst ((b.seed.map tpl).map pl)), x10, x11, none, none, none, none]) ⟨none, none, rfl, rfl, fun x hx => by simp at hx, rfl⟩ no_guardE ?_ ?_
    · rintro l2 x r2 σ S2 e0 ⟨x10, x11, rfl, hr, hl3, rfl⟩
      have hx : x = l2.length := by
        have h1 : (List.range b.w)[l2.length]? = some x := by rw [e0, List.getElem?_append_right (Nat.le_refl _)]; simp
        obtain ⟨h2, h3⟩ := List.getElem?_eq_some_iff.mp h1
        rw [List.getElem_range] at h3
        exact h3.symm
      have hlw : l2.length < b.w := by
        have := congrArg List.length e0
        simp at this
        omega
      subst hx
      unfold b3_law_look
      walk_at "vs"
      refine rng_of (m := b.h) rfl (by have := hb.h1; omega) ?_
      refine w_each (fun l3 σ S3 => ∃ (x11 : Option D), S3 = S2 ∧ l3 = List.range l3.length ∧ (∀ y < l3.length, ((((l2.length : Int), (y : Int)) : Pl) ∈ b.seed.map tpl ↔ frT b.w l2.length y = true)) ∧ σ = [some (fbd b), some (D.int b.en), some (D.tup (b.st.map stk)), some (D.tup (b.ks.map kd)), some (D.int b.w), some (D.int b.h), some (D.tup (b.seed.map tl)), x7, x8, some (.lst ((b.seed.map tpl).map pl)), some (.int l2.length), x11, none, none, none, none]) ⟨_, rfl, rfl, fun x hx => by simp at hx, rfl⟩ no_guardE ?_ ?_
      · rintro l3 y r3 σ S3 e3 ⟨x11, rfl, hr3, hl4, rfl⟩
        have hy : y = l3.length := by
          have h1 : (List.range b.h)[l3.length]? = some y := by rw [e3, List.getElem?_append_right (Nat.le_refl _)]; simp
          obtain ⟨h2, h3⟩ := List.getElem?_eq_some_iff.mp h1
          rw [List.getElem_range] at h3
          exact h3.symm
        have hyh : l3.length < b.h := by
          have := congrArg List.length e3
          simp at this
          omega
        subst hy
        unfold b2_law_look
        walk_at "vs"
        refine p_inPL (d := pl ((l2.length : Int), (l3.length : Int))) (by simp [pl, D.pl, D.pls]) (pl_plain _ _) ?_
        obtain ⟨m, hm, hmq⟩ : ∃ m : Bool, decide (pl ((l2.length : Int), (l3.length : Int)) ∈ (b.seed.map tpl).map pl) = m ∧ (m = true ↔ ((((l2.length : Nat) : Int), ((l3.length : Nat) : Int)) : Pl) ∈ b.seed.map tpl) := ⟨_, rfl, by rw [decide_eq_true_eq]; exact pl_mem⟩
        rw [Bool.false_xor, hm]
        have good : m = frT b.w l2.length l3.length → ∀ y < (l3 ++ [l3.length]).length, ((((l2.length : Int), (y : Int)) : Pl) ∈ b.seed.map tpl ↔ frT b.w l2.length y = true) := fun e y hy => by
          rw [List.length_append, List.length_singleton] at hy
          by_cases hyy : y = l3.length
          · subst hyy
            rw [← hmq, e]
          · exact hl4 y (by omega)
        have bad : m ≠ frT b.w l2.length l3.length → frB b = false := fun e => frB_no fun ⟨_, _, _, _, z⟩ => frQ_not (x := l2.length) (y := l3.length) hlw hyh (fun h => e (by rw [Bool.eq_iff_iff, hmq, h])) z
        have hr4 : l3 ++ [l3.length] = List.range (l3 ++ [l3.length]).length := by rw [List.length_append, List.length_singleton, List.range_succ, ← hr3]
        walk_at "vs"
        refine br_dec (fun h0 => ?_) (fun h0 => ?_)
        · have e : frT b.w l2.length l3.length = true := by unfold frT; rw [decide_eq_true (by omega)]; rfl
          rw [e] at good bad
          refine p_eqB ?_
          walk_at "vs"
          cases m with
          | true =>
            simp only [decide_true, Bool.xor_true, Bool.not_true]
            walk_at "vs"
            exact ⟨_, rfl, hr4, good rfl, rfl⟩
          | false =>
            simp only [Bool.false_eq_true, decide_false, Bool.xor_false]
            walk_at "vs"
            exact outT (bad (by decide))
        · walk_at "vs"
          have e : frT b.w l2.length l3.length = decide (((l2.length : Nat) : Int) = (b.w : Int) - 1) := by
            unfold frT
            rw [decide_eq_false (by omega), Bool.false_or, Bool.eq_iff_iff, decide_eq_true_eq, decide_eq_true_eq]
            omega
          rw [e] at good bad
          generalize decide (((l2.length : Nat) : Int) = (b.w : Int) - 1) = v at good bad ⊢
          rw [Bool.false_xor]
          refine br_dec (fun h1 => ?_) (fun h1 => ?_)
          · walk_at "vs"
            exact ⟨_, rfl, hr4, good h1, rfl⟩
          · walk_at "vs"
            exact outT (bad h1)
      · rintro σ S3 ⟨x11, rfl, hr3, hl4, rfl⟩
        rw [List.length_range] at hl4
        refine ⟨_, _, rfl, by rw [List.length_append, List.length_singleton, List.range_succ, ← hr], fun x hx y hy => ?_, rfl⟩
        rw [List.length_append, List.length_singleton] at hx
        by_cases hxx : x = l2.length
        · subst hxx
          exact hl4 y hy
        · exact hl3 x (by omega) y hy
    · rintro σ S2 ⟨x10, x11, rfl, hr, hl3, rfl⟩
      rw [List.length_range] at hl3
      walk_at "vs"
      refine outT (frB_iff.mpr ⟨by omega, h3, h4, h5, frQ_all hb hl3⟩)
/-! ### framed beds drawn -/
theorem erase_map {α β : Type} {f : α → β} : ∀ (xs : List α) (i : Nat), (xs.map f).eraseIdx i = (xs.eraseIdx i).map f
  | [], _ => rfl
  | _ :: _, 0 => rfl
  | x :: xs, i + 1 => by
    rw [List.map_cons, List.eraseIdx_cons_succ, List.eraseIdx_cons_succ, List.map_cons, erase_map xs i]
theorem p_popAt {S : Store} {Q : D → Store → Prop} {l i : Nat} {d : D} {ds : List D} (e1 : S[l]? = some (.lst ds)) (hi : ds[i]? = some d) (hl : ds.length ≤ 1000000) (h : ∀ S', S.set l (.lst (ds.eraseIdx i)) = S' → Q d S') : Ok (popD (.loc l) [.int i] S) Q := by
  have hlt := (List.getElem?_eq_some_iff.mp hi).1
  have : popD (.loc l) [.int i] S = .ok d (S.set l (.lst (ds.eraseIdx i))) := by
    have h1 : mutL S (.loc l) = some (l, ds) := by simp [mutL, e1]
    have h2 : seqIndex? (i : Int) ds.length = some i := by simp [seqIndex?]; omega
    simp only [popD, h1]
    rw [if_pos (by omega)]
    simp only [h2, hi]
  exact k_eq this (h _ rfl)
abbrev Tw := List Nat × List Nat
abbrev pd (p : Tw) : D := .tup [sd p.1, sd p.2]
def twos (xs ys : List (List Nat)) : List Tw := xs.flatMap fun s => ys.map fun e => (s, e)
theorem twos_nd {xs ys : List (List Nat)} (h1 : xs.Nodup) (h2 : ys.Nodup) : (twos xs ys).Nodup := by
  unfold twos List.Nodup
  rw [List.pairwise_flatMap]
  refine ⟨fun x _ => ?_, ?_⟩
  · rw [List.pairwise_map]
    exact h2.imp fun hne z => hne (by injection z)
  · refine h1.imp fun hne p hp q hq z => ?_
    obtain ⟨y, _, rfl⟩ := List.mem_map.mp hp
    obtain ⟨y', _, rfl⟩ := List.mem_map.mp hq
    injection z with z _
    exact hne z
theorem twos_mem {xs ys : List (List Nat)} {p : Tw} : p ∈ twos xs ys ↔ p.1 ∈ xs ∧ p.2 ∈ ys := by
  unfold twos
  rw [List.mem_flatMap]
  constructor
  · rintro ⟨s, hs, hp⟩
    obtain ⟨e, he, rfl⟩ := List.mem_map.mp hp
    exact ⟨hs, he⟩
  · rintro ⟨h1, h2⟩
    exact ⟨p.1, h1, List.mem_map.mpr ⟨p.2, h2, rfl⟩⟩
theorem twos_len (xs ys : List (List Nat)) : (twos xs ys).length = xs.length * ys.length := by
  induction xs with
  | nil => simp [twos]
  | cons x xs ih =>
    have e : twos (x :: xs) ys = ys.map (fun e => (x, e)) ++ twos xs ys := rfl
    rw [e, List.length_append, ih, List.length_map, List.length_cons, Nat.succ_mul, Nat.add_comm]
theorem twos_snoc (xs : List (List Nat)) (x : List Nat) (ys : List (List Nat)) : twos (xs ++ [x]) ys = twos xs ys ++ ys.map fun e => (x, e) := by
  unfold twos
  rw [List.flatMap_append]
  simp
theorem sc_fbd (n : Nat) (b : Bed) : (fbd b).sc n = true := by
  have h1 : D.scs n (b.st.map stk) = true := sc_map fun _ => rfl
  have h2 : D.scs n (b.ks.map kd) = true := sc_map fun _ => rfl
  have h3 : D.scs n (b.seed.map tl) = true := sc_map fun _ => rfl
  simp only [D.sc, D.scs, h1, h2, h3]
  rfl
/-- a kind of a framed bed -/
def KdF (xs : List (List Nat)) (k : Kd) : Prop := k.f.length ≤ 1 ∧ (∀ c ∈ k.f, c ∈ abd) ∧ ∀ x ∈ [k.a, k.b, k.c, k.d], x ∈ xs
theorem framed_ok {p q mo km : Nat} (hmo : 1 ≤ mo ∧ mo ≤ 12) (hkm : 1 ≤ km ∧ km ≤ 9) : ∀ S, Hnd S p q → Ok (d_law_framed [.loc p, .int mo, .int km] S) fun d S' => Fr S p q S' ∧ ∃ b : Bed, (Gd b ∧ frB b = true ∧ b.ks.length ≤ 9 ∧ b.w ≤ mo ∧ b.h ≤ mo) ∧ d = fbd b := by
  intro S0 h
  unfold d_law_framed
  refine gc_fr h ?_
  walk_at "den"
  unfold m_law_framed
  have hF := Fr.refl h
  obtain ⟨n, hl⟩ : ∃ n, S0.length = n := ⟨_, rfl⟩
  rw [show lc_azd = abd from rfl]
  walk_at "vs"
  refine k_next0 hF hl fun v S hv hF hl => ?_
  walk_at "vs"
  rw [show ((1 : Int) + (v : Int)) = ((v + 1 : Nat) : Int) by omega]
  refine k_lift0 (names_ok (by omega)) hF hl ?_
  rintro _ S ⟨xs, ⟨hxl, hxd, hxn⟩, rfl⟩ hF hl
  walk_at "vs"
  rw [List.length_map, hxl, hl]
  refine w_each (xs := xs) (f := sd) (fun l σ S' => ∃ (x6 : Option D), S' = S ++ [.lst ((twos l xs).map pd)] ∧ σ = [some (.loc p), some (.int mo), some (.int km), some (.lst (xs.map sd)), some (.int ((v + 1 : Nat) : Int)), some (.loc n), x6, none, none, none, none, none, none, none, none, none, none, none]) ⟨none, rfl, rfl⟩ no_guardE ?_ ?_
  · rintro l x r σ S' e0 ⟨x6, rfl, rfl⟩
    have hll : l.length ≤ 4 := by
      have := congrArg List.length e0
      simp at this
      omega
    unfold b1_law_framed
    walk_at "vs"
    refine k_lcM1 (f := sd) (fun e => pd (x, e)) (fun _ h => (List.not_mem_nil h).elim) (fun e he => ?_) ?_
    · unfold e1_law_framed
      walk_at "vs"
      exact ⟨rfl, rfl⟩
    walk_at "vs"
    have hz : l.length * xs.length ≤ 4 * 4 := Nat.mul_le_mul hll (by omega)
    refine p_extL (ds := (twos l xs).map pd) (get_go0 hl rfl) (by simp only [List.length_map, twos_len]; omega) ?_
    walk_at "vs"
    refine ⟨_, ?_, rfl⟩
    rw [twos_snoc, List.map_append, List.map_map]
    rfl
  rintro σ S' ⟨x6, rfl, rfl⟩
  have hz : xs.length * xs.length ≤ 4 * 4 := Nat.mul_le_mul (by omega) (by omega)
  have hz1 : 1 * 1 ≤ xs.length * xs.length := Nat.mul_le_mul (by omega) (by omega)
  have htl := twos_len xs xs
  have htn := twos_nd hxd hxd
  have htm : ∀ p ∈ twos xs xs, p.1 ∈ xs ∧ p.2 ∈ xs := fun p hp => twos_mem.mp hp
  generalize twos xs xs = T0 at htl htn htm
  walk_at "vs"
  refine p_lenO (ds := T0.map pd) (by rw [List.append_assoc]; exact get_go0 hl rfl) ?_
  walk_at "vs"
  rw [List.length_append, hl, List.append_assoc]
  refine k_next hF hl fun o S ho hF hl => ?_
  walk_at "vs"
  rw [List.length_map]
  obtain ⟨c, hc, hc9, hcT⟩ : ∃ c : Nat, (if (1 : Int) + (o : Int) < (T0.length : Int) then (1 : Int) + (o : Int) else (T0.length : Int)) = c ∧ (1 ≤ c ∧ c ≤ 9) ∧ c ≤ T0.length := by
    split
    · exact ⟨o + 1, by omega, by omega, by omega⟩
    · exact ⟨T0.length, rfl, by omega, by omega⟩
  refine rng_of (m := c) hc (by omega) ?_
  refine w_each (fun l σ S' => ∃ (S1 : Store) (rest : List Tw) (ks : List Kd) (x6 x10 x11 : Option D) (x9 : Option D), S' = S1 ++ [.lst (rest.map pd), .lst (ks.map kd)] ∧ Fr S0 p q S1 ∧ S1.length = n ∧ (ks.map se ++ rest).Nodup ∧ (∀ r ∈ rest, r.1 ∈ xs ∧ r.2 ∈ xs) ∧ (∀ k ∈ ks, KdF xs k) ∧ ks.length = l.length ∧ rest.length + ks.length = T0.length ∧
    σ = [some (.loc p), some (.int mo), some (.int km), some (.lst (xs.map sd)), some (.int ((v + 1 : Nat) : Int)), some (.loc n), x6, some (.str (tx abd)), some (.loc (n + 1)), x9, x10, x11, none, none, none, none, none, none]) ⟨S, T0, [], x6, none, none, none, rfl, hF, hl, by simpa using htn, htm, fun _ h => (List.not_mem_nil h).elim, rfl, by simp, rfl⟩ no_guardE ?_ ?_
  · rintro l j r σ S' e0 ⟨S, rest, ks, x6, x10, x11, x9, rfl, hF, hl, hnd, hr, hks, hkl, hrl, rfl⟩
    have hll : l.length < c := by
      have := congrArg List.length e0
      simp at this
      omega
    unfold b2_law_framed
    walk_at "vs"
    rw [List.length_map]
    refine k_next hF hl fun u S hu hF hl => ?_
    have hul : u < rest.length := by omega
    walk_at "vs"
    refine p_popAt (ds := rest.map pd) (d := pd rest[u]) (get_go0 hl rfl) (by rw [List.getElem?_map, List.getElem?_eq_getElem hul]; rfl) (by rw [List.length_map]; omega) ?_
    refine setS_go0 hl (by rw [List.set_cons_zero]) ?_
    rw [erase_map]
    walk_at "vs"
    refine k_next hF hl fun fc S hfc hF hl => ?_
    obtain ⟨g, hg, hg2⟩ := abd_get (i := fc) (by omega)
    refine p_ixS (c := g) (by decide) (by rw [atI_nat]; exact hg) ?_
    walk_at "vs"
    refine k_next hF hl fun w2 S hw2 hF hl => ?_
    obtain ⟨fa, hfa, hfa1, hfa2⟩ : ∃ fa : List Nat, [sd [], sd [g]][w2]? = some (sd fa) ∧ fa.length ≤ 1 ∧ ∀ c ∈ fa, c ∈ abd := by
      obtain rfl | rfl : w2 = 0 ∨ w2 = 1 := by omega
      · exact ⟨[], rfl, by simp, fun _ h => (List.not_mem_nil h).elim⟩
      · exact ⟨[g], rfl, by simp, fun c h => by rw [List.mem_singleton.mp h]; exact hg2⟩
    refine p_ixL (d := sd fa) (by rw [atI_nat]; exact hfa) ?_
    walk_at "vs"
    refine k_next hF hl fun w3 S hw3 hF hl => ?_
    have hw3l : w3 < xs.length := by omega
    refine p_ixLm (x := xs[w3]) (List.getElem?_eq_getElem hw3l) ?_
    walk_at "vs"
    refine k_next hF hl fun w4 S hw4 hF hl => ?_
    have hw4l : w4 < xs.length := by omega
    refine p_ixLm (x := xs[w4]) (List.getElem?_eq_getElem hw4l) ?_
    walk_at "vs"
    have hru := hr _ (List.getElem_mem hul)
    refine ⟨S, rest.eraseIdx u, ks ++ [⟨fa, xs[w3], rest[u].2, rest[u].1, xs[w4]⟩], _, _, _, _, by rw [List.map_append]; rfl, hF, hl, ?_, fun q hq => hr q (List.mem_of_mem_eraseIdx hq), fun k hk => ?_, by simp [hkl], ?_, rfl⟩
    · refine List.Perm.nodup_iff ?_ |>.mpr hnd
      rw [List.map_append]
      exact perm_erase (List.Perm.refl _) (List.getElem?_eq_getElem hul)
    · rcases List.mem_append.mp hk with h | h
      · exact hks k h
      · rw [List.mem_singleton.mp h]
        refine ⟨hfa1, hfa2, fun x hx => ?_⟩
        simp only [List.mem_cons, List.not_mem_nil, or_false] at hx
        rcases hx with rfl | rfl | rfl | rfl
        · exact List.getElem_mem _
        · exact hru.2
        · exact hru.1
        · exact List.getElem_mem _
    · rw [List.length_eraseIdx, if_pos hul, List.length_append, List.length_singleton]
      omega
  rintro σ S' ⟨S, rest, ks, x6, x10, x11, x9, rfl, hF, hl, hnd, hr, hks, hkl, hrl, rfl⟩
  rw [List.length_range] at hkl
  have hkl9 : ks.length ≤ 9 := by omega
  walk_at "vs"
  refine k_next hF hl fun w S hw hF hl => ?_
  walk_at "vs"
  refine k_next hF hl fun hh S hhh hF hl => ?_
  walk_at "vs"
  rw [show ((1 : Int) + (w : Int)) = ((w + 1 : Nat) : Int) by omega, show ((1 : Int) + (hh : Int)) = ((hh + 1 : Nat) : Int) by omega]
  rw [List.length_append, hl, List.append_assoc, show [Ob.lst (rest.map pd), Ob.lst (ks.map kd)].length = 2 from rfl]
  have hw12 : w + 1 ≤ 12 := by omega
  have hh12 : hh + 1 ≤ 12 := by omega
  have hwm : w + 1 ≤ mo := by omega
  have hhm : hh + 1 ≤ mo := by omega
  have hw1 : 1 ≤ w + 1 := by omega
  have hh1 : 1 ≤ hh + 1 := by omega
  generalize w + 1 = w at *
  generalize hh + 1 = hh at *
  refine rng_of (m := w) rfl (by omega) ?_
  refine w_each (fun l σ S' => ∃ (S1 : Store) (ts : List Tl) (x15 x16 : Option D), S' = S1 ++ [.lst (rest.map pd), .lst (ks.map kd), .lst (ts.map tl)] ∧ Fr S0 p q S1 ∧ S1.length = n ∧ l = List.range l.length ∧ ts.map tpl = frQ w hh l.length ∧
    σ = [some (.loc p), some (.int mo), some (.int km), some (.lst (xs.map sd)), some (.int ((v + 1 : Nat) : Int)), some (.loc n), x6, some (.str (tx abd)), some (.loc (n + 1)), x9, x10, x11, some (.int w), some (.int hh), some (.loc (n + 2)), x15, x16, none]) ⟨S, [], none, none, rfl, hF, hl, rfl, rfl, rfl⟩ no_guardE ?_ ?_
  · rintro l x r σ S' e0 ⟨S, ts, x15, x16, rfl, hF, hl, hr1, hts, rfl⟩
    have hx : x = l.length := by
      have h1 : (List.range w)[l.length]? = some x := by rw [e0, List.getElem?_append_right (Nat.le_refl _)]; simp
      obtain ⟨h2, h3⟩ := List.getElem?_eq_some_iff.mp h1
      rw [List.getElem_range] at h3
      exact h3.symm
    have hlw : l.length < w := by
      have := congrArg List.length e0
      simp at this
      omega
    subst hx
    unfold b4_law_framed
    walk_at "vs"
    refine rng_of (m := hh) rfl (by omega) ?_
    refine w_each (fun l3 σ S' => ∃ (S1 : Store) (ts : List Tl) (x16 : Option D), S' = S1 ++ [.lst (rest.map pd), .lst (ks.map kd), .lst (ts.map tl)] ∧ Fr S0 p q S1 ∧ S1.length = n ∧ l3 = List.range l3.length ∧ ts.map tpl = frQ w hh l.length ++ ((List.range l3.length).filter (frT w l.length)).map (fun y : Nat => (((l.length : Int), (y : Int)) : Pl)) ∧
      σ = [some (.loc p), some (.int mo), some (.int km), some (.lst (xs.map sd)), some (.int ((v + 1 : Nat) : Int)), some (.loc n), x6, some (.str (tx abd)), some (.loc (n + 1)), x9, x10, x11, some (.int w), some (.int hh), some (.loc (n + 2)), some (.int l.length), x16, none]) ⟨S, ts, x16, rfl, hF, hl, rfl, by simpa using hts, rfl⟩ no_guardE ?_ ?_
    · rintro l3 y r3 σ S' e3 ⟨S, ts, x16, rfl, hF, hl, hr3, hts, rfl⟩
      have hy : y = l3.length := by
        have h1 : (List.range hh)[l3.length]? = some y := by rw [e3, List.getElem?_append_right (Nat.le_refl _)]; simp
        obtain ⟨h2, h3⟩ := List.getElem?_eq_some_iff.mp h1
        rw [List.getElem_range] at h3
        exact h3.symm
      have hyh : l3.length < hh := by
        have := congrArg List.length e3
        simp at this
        omega
      subst hy
      have hr4 : l3 ++ [l3.length] = List.range (l3 ++ [l3.length]).length := by rw [List.length_append, List.length_singleton, List.range_succ, ← hr3]
      have hlen : ts.length ≤ 1000 := by
        have h1 := congrArg List.length hts
        rw [List.length_map, List.length_append, List.length_map] at h1
        have h2 := frQ_len w hh l.length
        have h3 := List.length_filter_le (frT w l.length) (List.range l3.length)
        rw [List.length_range] at h3
        have h4 : l.length * hh ≤ 12 * 12 := Nat.mul_le_mul (by omega) hh12
        omega
      have yes : frT w l.length l3.length = true → ∀ u : Int, (ts ++ [((l.length : Int), (l3.length : Int), u)]).map tpl = frQ w hh l.length ++ ((List.range (l3 ++ [l3.length]).length).filter (frT w l.length)).map (fun y : Nat => (((l.length : Int), (y : Int)) : Pl)) := fun e u => by
        rw [List.map_append, hts, List.length_append, List.length_singleton, List.range_succ, List.filter_append, List.map_append, List.append_assoc, show List.filter (frT w l.length) [l3.length] = [l3.length] from by simp [e]]
        rfl
      have no : frT w l.length l3.length = false → ts.map tpl = frQ w hh l.length ++ ((List.range (l3 ++ [l3.length]).length).filter (frT w l.length)).map (fun y : Nat => (((l.length : Int), (y : Int)) : Pl)) := fun e => by
        rw [hts, List.length_append, List.length_singleton, List.range_succ, List.filter_append, show List.filter (frT w l.length) [l3.length] = [] from by simp [e], List.append_nil]
      unfold b3_law_framed
      walk_at "vs"
      refine br_dec (fun h0 => ?_) (fun h0 => ?_)
      · have e : frT w l.length l3.length = true := by unfold frT; rw [decide_eq_true (by omega)]; rfl
        walk_at "vs"
        rw [List.length_map]
        refine k_next hF hl fun u S hu hF hl => ?_
        walk_at "vs"
        exact ⟨S, _, _, by rw [List.map_append]; rfl, hF, hl, hr4, yes e u, rfl⟩
      · walk_at "vs"
        have e : frT w l.length l3.length = decide (((l.length : Nat) : Int) = (w : Int) - 1) := by
          unfold frT
          rw [decide_eq_false (by omega), Bool.false_or, Bool.eq_iff_iff, decide_eq_true_eq, decide_eq_true_eq]
          omega
        refine br_dec (fun h1 => ?_) (fun h1 => ?_)
        · rw [decide_eq_true h1] at e
          walk_at "vs"
          rw [List.length_map]
          refine k_next hF hl fun u S hu hF hl => ?_
          walk_at "vs"
          exact ⟨S, _, _, by rw [List.map_append]; rfl, hF, hl, hr4, yes e u, rfl⟩
        · rw [decide_eq_false h1] at e
          walk_at "vs"
          exact ⟨S, _, _, rfl, hF, hl, hr4, no e, rfl⟩
    · rintro σ S' ⟨S, ts, x16, rfl, hF, hl, hr3, hts, rfl⟩
      rw [List.length_range] at hts
      refine ⟨S, ts, _, _, rfl, hF, hl, ?_, ?_, rfl⟩
      · rw [List.length_append, List.length_singleton, List.range_succ, ← hr1]
      · rw [hts, List.length_append, List.length_singleton, frQ_succ]
  rintro σ S' ⟨S, ts, x15, x16, rfl, hF, hl, hr1, hts, rfl⟩
  rw [List.length_range] at hts
  walk_at "vs"
  refine k_lcM1 (f := sd) (fun x => stk (x, 1)) (fun _ h => (List.not_mem_nil h).elim) (fun e he => ?_) ?_
  · unfold e2_law_framed
    walk_at "vs"
    exact ⟨rfl, rfl⟩
  walk_at "vs"
  have hst : xs.map (fun x => stk (x, 1)) = (xs.map fun x => (x, 1)).map stk := by rw [List.map_map]; rfl
  rw [hst]
  refine ⟨S, _, rfl, hF, sc_fbd _ ⟨2, xs.map fun x => (x, 1), ks, w, hh, ts⟩, hF, ⟨2, xs.map fun x => (x, 1), ks, w, hh, ts⟩, ⟨⟨?_, ?_, ?_, ?_, ⟨hw1, hw12⟩, ⟨hh1, hh12⟩, ?_, ?_⟩, frB_iff.mpr ⟨rfl, ?_, ?_, (List.nodup_append.mp hnd).1, hts⟩, hkl9, hwm, hhm⟩, rfl⟩
  · simp only [List.length_map]
    omega
  · intro x hx
    obtain ⟨y, hy, rfl⟩ := List.mem_map.mp hx
    exact hxn y hy
  · simp only
    omega
  · intro k hk
    obtain ⟨k1, k2, k3⟩ := hks k hk
    refine ⟨k1, k2, fun x hx => .inr ?_⟩
    rw [List.map_map]
    exact List.mem_map.mpr ⟨x, k3 x hx, rfl⟩
  · show (ts.map tpl).Pairwise plt
    rw [hts]
    exact frQ_so _ _ _
  · intro t ht
    have : tpl t ∈ frQ w hh w := hts ▸ List.mem_map.mpr ⟨t, ht, rfl⟩
    obtain ⟨x, y, e, hx, hy, _⟩ := mem_frQ.mp this
    unfold tpl at e
    injection e with e1 e2
    simp only
    omega
  · intro x hx
    obtain ⟨y, hy, rfl⟩ := List.mem_map.mp hx
    rfl
  · intro k hk
    obtain ⟨_, _, k3⟩ := hks k hk
    have ne : ∀ x ∈ [k.a, k.b, k.c, k.d], x.isEmpty = false := fun x hx => by
      have := (hxn x (k3 x hx)).1.1
      cases x with
      | nil => simp at this
      | cons _ _ => rfl
    simp only [nob, ne k.a (by simp), ne k.b (by simp), ne k.c (by simp), ne k.d (by simp)]
    rfl
/-! ### a bed otherwise -/
theorem cut_fr {α : Type} (xs : List α) (k : Nat) : L3.cut xs (some (k : Int)) none = xs.drop k := by
  unfold L3.cut
  have h1 : HT.sIx xs.length xs.length none = xs.length := rfl
  have h2 : HT.sIx xs.length 0 (some (k : Int)) = min k xs.length := by
    unfold HT.sIx
    simp
    omega
  rw [h1, h2]
  by_cases h : k ≤ xs.length
  · rw [Nat.min_eq_left h, List.take_of_length_le (by simp)]
  · rw [Nat.min_eq_right (by omega), List.drop_length, List.drop_eq_nil_of_le (by omega)]
    simp
theorem scs_mem : ∀ {n : Nat} {ds : List D}, (∀ d ∈ ds, d.sc n = true) → D.scs n ds = true
  | _, [], _ => rfl
  | n, d :: ds, h => by
    simp only [D.scs, Bool.and_eq_true]
    exact ⟨h d List.mem_cons_self, scs_mem fun e he => h e (List.mem_cons_of_mem _ he)⟩
theorem mem_scs : ∀ {n : Nat} {ds : List D}, D.scs n ds = true → ∀ d ∈ ds, d.sc n = true
  | _, [], _ => fun d h => (List.not_mem_nil h).elim
  | n, d :: ds, h => fun e he => by
    simp only [D.scs, Bool.and_eq_true] at h
    rcases List.mem_cons.mp he with rfl | he
    · exact h.1
    · exact mem_scs h.2 e he
theorem sc_hs (n : Nat) (b : Bed) : (fsd b).sc n = true := by
  have h1 : D.scs n (b.st.map stk) = true := sc_map fun _ => rfl
  have h2 : D.scs n (b.ks.map kd) = true := sc_map fun _ => rfl
  simp only [D.sc, D.scs, h1, h2]
  rfl
theorem with_ok {ds : List D} {k : Nat} {d : D} (hk : k < ds.length) (hl : ds.length ≤ 1000) (S : Store) (hs : D.scs S.length ds = true) (hd : d.sc S.length = true) : Ok (d_law_with [.tup ds, .int k, d] S) fun d' S' => d' = .tup (ds.set k d) ∧ S' = S := by
  unfold d_law_with
  refine gc_pure ?_
  walk_at "den"
  unfold m_law_with
  walk_at "vs"
  rw [show ((k : Int) + 1) = ((k + 1 : Nat) : Int) by omega, cut_fr]
  refine p_addT (by simp only [List.length_append, List.length_take, List.length_drop, List.length_singleton]; omega) ?_
  have e : ds.take k ++ [d] ++ ds.drop (k + 1) = ds.set k d := by
    rw [List.set_eq_take_append_cons_drop, if_pos hk, List.append_assoc]
    rfl
  rw [e]
  refine ⟨⟨[], (List.append_nil _).symm⟩, ?_, rfl, rfl⟩
  simp only [D.sc]
  refine scs_mem fun y hy => ?_
  rcases List.mem_or_eq_of_mem_set hy with hy | rfl
  · exact mem_scs hs y hy
  · exact hd
theorem withm_ok {α : Type} {xs : List α} {f : α → D} {k : Nat} {y : α} (hf : ∀ (n : Nat) (x : α), (f x).sc n = true) (hk : k < xs.length) (hl : xs.length ≤ 1000) (S : Store) : Ok (d_law_with [.tup (xs.map f), .int k, f y] S) fun d' S' => d' = .tup ((xs.set k y).map f) ∧ S' = S := by
  refine (with_ok (ds := xs.map f) (k := k) (d := f y) (by simpa using hk) (by simpa using hl) S (sc_map fun x => hf _ x) (hf _ y)).imp ?_
  rintro _ _ ⟨rfl, rfl⟩
  exact ⟨by rw [List.map_set], rfl⟩
theorem kd_set {ns : List (List Nat)} {k : Kd} (h : KdOk ns k) {x : List Nat} (hx : x = [] ∨ x ∈ ns) {s : Nat} (hs : s < 4) : ∃ k' : Kd, [sd k.f, sd k.a, sd k.b, sd k.c, sd k.d].set (s + 1) (sd x) = [sd k'.f, sd k'.a, sd k'.b, sd k'.c, sd k'.d] ∧ KdOk ns k' := by
  obtain ⟨h1, h2, h3⟩ := h
  simp only [List.mem_cons, List.not_mem_nil, or_false, forall_eq_or_imp, forall_eq] at h3
  obtain ⟨ha, hb, hc, hd⟩ := h3
  obtain rfl | rfl | rfl | rfl : s = 0 ∨ s = 1 ∨ s = 2 ∨ s = 3 := by omega
  · refine ⟨{ k with a := x }, rfl, h1, h2, ?_⟩
    simp only [List.mem_cons, List.not_mem_nil, or_false, forall_eq_or_imp, forall_eq]
    exact ⟨hx, hb, hc, hd⟩
  · refine ⟨{ k with b := x }, rfl, h1, h2, ?_⟩
    simp only [List.mem_cons, List.not_mem_nil, or_false, forall_eq_or_imp, forall_eq]
    exact ⟨ha, hx, hc, hd⟩
  · refine ⟨{ k with c := x }, rfl, h1, h2, ?_⟩
    simp only [List.mem_cons, List.not_mem_nil, or_false, forall_eq_or_imp, forall_eq]
    exact ⟨ha, hb, hx, hd⟩
  · refine ⟨{ k with d := x }, rfl, h1, h2, ?_⟩
    simp only [List.mem_cons, List.not_mem_nil, or_false, forall_eq_or_imp, forall_eq]
    exact ⟨ha, hb, hc, hx⟩
theorem Gd.kinds {b : Bed} (h : Gd b) {ks : List Kd} (h1 : 1 ≤ ks.length ∧ ks.length ≤ 20) (h2 : ∀ k ∈ ks, KdOk (b.st.map Prod.fst) k) : Gd { b with ks := ks } := ⟨h.sl, h.nm, h1, h2, h.w1, h.h1, h.so, h.fl⟩
theorem house_otherwise_ok {p q : Nat} {b : Bed} (hb : Gd b) (hk : b.ks.length ≤ 15) : ∀ S, Hnd S p q → Ok (d_law_house_otherwise [.loc p, fsd b] S) fun d S' => Fr S p q S' ∧ ∃ b' : Bed, (Gd b' ∧ b'.ks.length ≤ b.ks.length + 1 ∧ b'.w = b.w ∧ b'.h = b.h ∧ b'.seed = b.seed) ∧ d = fsd b' := by
  intro S0 h
  unfold d_law_house_otherwise
  refine gc_fr h ?_
  walk_at "den"
  unfold m_law_house_otherwise
  have hF := Fr.refl h
  obtain ⟨n, hl⟩ : ∃ n, S0.length = n := ⟨_, rfl⟩
  obtain ⟨g1, g2, g3, g4, g5, g6, g7, g8⟩ := id hb
  walk_at "vs"
  refine k_next0 hF hl fun way S hway hF hl => ?_
  walk_at "vs"
  rw [List.length_map]
  refine k_next0 hF hl fun at_ S hat hF hl => ?_
  walk_at "vs"
  refine br_dec (fun h0 => ?_) (fun h0 => ?_)
  · walk_at "vs"
    refine k_next0 hF hl fun v S hv hF hl => ?_
    refine p_pick 1 4 (by simp; omega) (fun e he1 he4 => ?_)
    walk_at "vs"
    refine ⟨S, [], by simp, hF, sc_hs _ ⟨e, b.st, b.ks, b.w, b.h, b.seed⟩, hF, ⟨e, b.st, b.ks, b.w, b.h, b.seed⟩, ⟨⟨g1, g2, g3, g4, g5, g6, g7, g8⟩, by simp only; omega, rfl, rfl, rfl⟩, rfl⟩
  walk_at "vs"
  refine br_dec (fun h1 => ?_) (fun h1 => ?_)
  · walk_at "vs"
    rw [List.length_map]
    refine k_next0 hF hl fun i S hi hF hl => ?_
    walk_at "vs"
    refine p_ixTm (x := b.st[i]) (List.getElem?_eq_getElem (by omega)) ?_
    walk_at "vs"
    refine k_next0 hF hl fun u S hu hF hl => ?_
    walk_at "vs"
    rw [show ((1 : Int) + (u : Int)) = ((u + 1 : Nat) : Int) by omega]
    refine (withm_ok (f := stk) (y := ((b.st[i]'(by omega)).1, u + 1)) (fun _ _ => rfl) (by omega) (by omega) _).imp ?_
    rintro _ _ ⟨rfl, rfl⟩
    walk_at "vs"
    have em : (b.st.set i ((b.st[i]'(by omega)).1, u + 1)).map Prod.fst = b.st.map Prod.fst := by
      rw [List.map_set]
      apply List.ext_getElem?
      intro j
      by_cases hj : i = j
      · subst hj
        rw [List.getElem?_set_self (by simp; omega), List.getElem?_map, List.getElem?_eq_getElem (by omega)]
        rfl
      · rw [List.getElem?_set_ne hj]
    have hs2 : Gd { b with st := b.st.set i ((b.st[i]'(by omega)).1, u + 1) } := ⟨by simpa using g1, fun x hx => by
      have : x.1 ∈ b.st.map Prod.fst := em ▸ List.mem_map.mpr ⟨x, hx, rfl⟩
      obtain ⟨y, hy, e⟩ := List.mem_map.mp this
      rw [← e]
      exact g2 y hy, g3, fun k hk => by simp only [em]; exact g4 k hk, g5, g6, g7, g8⟩
    exact ⟨_, [], (List.append_nil _).symm, hF, sc_hs _ { b with st := b.st.set i ((b.st[i]'(by omega)).1, u + 1) }, hF, _, ⟨hs2, by simp only; omega, rfl, rfl, rfl⟩, rfl⟩
  walk_at "vs"
  refine br_dec (fun h2 => ?_) (fun h2 => ?_)
  · walk_at "vs"
    refine k_lcM1 (f := stk) (fun x => sd x.1) (fun _ h => (List.not_mem_nil h).elim) (fun x hx => ?_) ?_
    · unfold e1_law_house_otherwise
      walk_at "vs"
      exact ⟨rfl, rfl⟩
    rw [show (b.st.map fun x => sd x.1) = (b.st.map Prod.fst).map sd by rw [List.map_map]; rfl]
    walk_at "vs"
    rw [show [D.str (tx [])] ++ (b.st.map Prod.fst).map sd = ([] :: b.st.map Prod.fst).map sd from rfl]
    rw [List.length_map, show ((b.st.length : Int) + 1) = ((b.st.length + 1 : Nat) : Int) by omega]
    refine k_next0 hF hl fun i S hi hF hl => ?_
    obtain ⟨x, hx⟩ : ∃ x, ([] :: b.st.map Prod.fst)[i]? = some x := ⟨_, List.getElem?_eq_getElem (by simp; omega)⟩
    have hxn : x = [] ∨ x ∈ b.st.map Prod.fst := List.mem_cons.mp (List.mem_of_getElem? hx)
    refine p_ixTm hx ?_
    walk_at "vs"
    have hal : at_ < b.ks.length := by omega
    refine p_ixTm (x := b.ks[at_]) (List.getElem?_eq_getElem hal) ?_
    walk_at "vs"
    refine k_next0 hF hl fun u S hu hF hl => ?_
    walk_at "vs"
    rw [show ((1 : Int) + (u : Int)) = ((u + 1 : Nat) : Int) by omega]
    obtain ⟨k', ek, hk'⟩ := kd_set (g4 _ (List.getElem_mem hal)) hxn (s := u) (by omega)
    refine (with_ok (k := u + 1) (d := sd x) (by simp; omega) (by simp) _ (by rfl) rfl).imp ?_
    rintro _ _ ⟨rfl, rfl⟩
    rw [ek]
    walk_at "vs"
    refine (withm_ok (f := kd) (y := k') (fun _ _ => rfl) hal (by omega) _).imp ?_
    rintro _ _ ⟨rfl, rfl⟩
    walk_at "vs"
    have hs2 : Gd { b with ks := b.ks.set at_ k' } := hb.kinds (by simpa using g3) fun k hk => (List.mem_or_eq_of_mem_set hk).elim (g4 k) fun e => e ▸ hk'
    exact ⟨_, [], (List.append_nil _).symm, hF, sc_hs _ { b with ks := b.ks.set at_ k' }, hF, _, ⟨hs2, by simp, rfl, rfl, rfl⟩, rfl⟩
  walk_at "vs"
  rw [List.length_map]
  refine k_next0 hF hl fun i S hi hF hl => ?_
  have hil : i < b.ks.length := by omega
  refine p_ixTm (x := b.ks[i]) (List.getElem?_eq_getElem hil) ?_
  walk_at "vs"
  refine br_dec (fun h3 => ?_) (fun h3 => ?_)
  · walk_at "vs"
    have e : b.ks.map kd ++ [kd b.ks[i]] = (b.ks ++ [b.ks[i]]).map kd := by rw [List.map_append]; rfl
    rw [e]
    have hs2 : Gd { b with ks := b.ks ++ [b.ks[i]] } := hb.kinds (by simp; omega) fun k hk => (List.mem_append.mp hk).elim (g4 k) fun h => by rw [List.mem_singleton.mp h]; exact g4 _ (List.getElem_mem hil)
    exact ⟨_, [], (List.append_nil _).symm, hF, sc_hs _ { b with ks := b.ks ++ [b.ks[i]] }, hF, _, ⟨hs2, by simp, rfl, rfl, rfl⟩, rfl⟩
  walk_at "vs"
  have hal : at_ < b.ks.length := by omega
  refine p_ixTm (x := b.ks[at_]) (List.getElem?_eq_getElem hal) ?_
  walk_at "vs"
  rw [show cut [sd b.ks[i].f, sd b.ks[i].a, sd b.ks[i].b, sd b.ks[i].c, sd b.ks[i].d] (some 2) (some 4) = [sd b.ks[i].b, sd b.ks[i].c] from rfl]
  refine p_addT (by simp) ?_
  walk_at "vs"
  refine p_ixTm (x := b.ks[at_]) (List.getElem?_eq_getElem hal) ?_
  walk_at "vs"
  have ka := g4 _ (List.getElem_mem hal)
  have ki := g4 _ (List.getElem_mem hil)
  generalize b.ks[at_] = k1 at ka ⊢
  generalize b.ks[i] = k2 at ki ⊢
  have hk3 : KdOk (b.st.map Prod.fst) ⟨k1.f, k1.a, k2.b, k2.c, k1.d⟩ := by
    obtain ⟨h1, h2, h3⟩ := ka
    obtain ⟨_, _, h4⟩ := ki
    simp only [List.mem_cons, List.not_mem_nil, or_false, forall_eq_or_imp, forall_eq] at h3 h4
    refine ⟨h1, h2, ?_⟩
    simp only [List.mem_cons, List.not_mem_nil, or_false, forall_eq_or_imp, forall_eq]
    exact ⟨h3.1, h4.2.1, h4.2.2.1, h3.2.2.2⟩
  rw [show [sd k1.f, sd k1.a] ++ [sd k2.b, sd k2.c] ++ [sd k1.d] = [sd k1.f, sd k1.a, sd k2.b, sd k2.c, sd k1.d] from rfl]
  refine (withm_ok (f := kd) (y := ⟨k1.f, k1.a, k2.b, k2.c, k1.d⟩) (fun _ _ => rfl) hal (by omega) _).imp ?_
  rintro _ _ ⟨rfl, rfl⟩
  walk_at "vs"
  have hs2 : Gd { b with ks := b.ks.set at_ ⟨k1.f, k1.a, k2.b, k2.c, k1.d⟩ } := hb.kinds (by simpa using g3) fun k hk => (List.mem_or_eq_of_mem_set hk).elim (g4 k) fun e => e ▸ hk3
  exact ⟨_, [], (List.append_nil _).symm, hF, sc_hs _ { b with ks := b.ks.set at_ ⟨k1.f, k1.a, k2.b, k2.c, k1.d⟩ }, hF, _, ⟨hs2, by simp, rfl, rfl, rfl⟩, rfl⟩
theorem plt_of {t u : Tl} (h : tk t ≤ tk u) (hn : tpl t ≠ tpl u) : plt (tpl t) (tpl u) := by
  obtain ⟨a, b, k⟩ := t
  obtain ⟨c, d, l⟩ := u
  simp only [tk, tpl, ne_eq, Prod.mk.injEq, List.cons_le_cons_iff, plt] at h hn ⊢
  omega
theorem sortT_plt {ts : List Tl} (h : (ts.map tpl).Nodup) : ((sortT ts).map tpl).Pairwise plt := by
  have h1 := sortBy_le tk ts
  have h2 : ((sortT ts).map tpl).Nodup := ((sortBy_perm tk ts).map tpl).nodup_iff.mpr h
  rw [List.pairwise_map]
  have h3 : (sortT ts).Pairwise fun a b => tpl a ≠ tpl b := List.pairwise_map.mp h2
  refine (h1.and h3).imp fun {a b} ⟨z1, z2⟩ => plt_of (of_decide_eq_true z1) z2
theorem plt_nd {l : List Pl} (h : l.Pairwise plt) : l.Nodup := h.imp fun {a b} h z => by
  subst z
  rcases h with h | h <;> omega
theorem seed_len {b : Bed} (hb : Gd b) : b.seed.length ≤ 144 := by
  have h1 : (b.seed.map tpl).Nodup := plt_nd hb.so
  have h2 : ∀ q ∈ b.seed.map tpl, q ∈ (List.range 12).flatMap fun x : Nat => (List.range 12).map fun y : Nat => (((x : Int), (y : Int)) : Pl) := fun q hq => by
    obtain ⟨t, ht, rfl⟩ := List.mem_map.mp hq
    obtain ⟨⟨f1, f2⟩, f3, f4⟩ := hb.fl t ht
    have := hb.w1
    have := hb.h1
    refine List.mem_flatMap.mpr ⟨t.1.toNat, List.mem_range.mpr (by omega), List.mem_map.mpr ⟨t.2.1.toNat, List.mem_range.mpr (by omega), ?_⟩⟩
    unfold tpl
    rw [Int.toNat_of_nonneg f1, Int.toNat_of_nonneg f3]
  have := h1.length_le_of_subset h2
  rw [List.length_map] at this
  exact Nat.le_trans this (by decide +kernel)
def freQ (b : Bed) (n : Nat) : List Pl := (List.range n).flatMap fun x : Nat => ((List.range b.h).filter fun y : Nat => !(decide ((((x : Int), (y : Int)) : Pl) ∈ b.seed.map tpl))).map fun y : Nat => (((x : Int), (y : Int)) : Pl)
theorem freQ_succ (b : Bed) (n : Nat) : freQ b (n + 1) = freQ b n ++ ((List.range b.h).filter fun y : Nat => !(decide ((((n : Int), (y : Int)) : Pl) ∈ b.seed.map tpl))).map fun y : Nat => (((n : Int), (y : Int)) : Pl) := by
  unfold freQ
  rw [List.range_succ, List.flatMap_append]
  simp
theorem freQ_len (b : Bed) : ∀ n, (freQ b n).length ≤ n * b.h
  | 0 => by simp [freQ]
  | n + 1 => by
    rw [freQ_succ, List.length_append, List.length_map, Nat.succ_mul]
    have := freQ_len b n
    have := List.length_filter_le (fun y : Nat => !(decide ((((n : Int), (y : Int)) : Pl) ∈ b.seed.map tpl))) (List.range b.h)
    rw [List.length_range] at this
    omega
theorem mem_freQ {b : Bed} {n : Nat} {q : Pl} (h : q ∈ freQ b n) : ((0 ≤ q.1 ∧ q.1 < n) ∧ (0 ≤ q.2 ∧ q.2 < b.h)) ∧ q ∉ b.seed.map tpl := by
  unfold freQ at h
  obtain ⟨x, hx, hq⟩ := List.mem_flatMap.mp h
  obtain ⟨y, hy, rfl⟩ := List.mem_map.mp hq
  obtain ⟨h1, h2⟩ := List.mem_filter.mp hy
  have := List.mem_range.mp hx
  have := List.mem_range.mp h1
  refine ⟨by simp only; omega, by simpa using h2⟩
open Classical in
theorem otherwise_ok {p q : Nat} {b : Bed} (hb : Gd b) (hk : b.ks.length ≤ 15) (hs : b.seed ≠ []) : ∀ S, Hnd S p q → Ok (d_law_otherwise [.loc p, fbd b] S) fun d S' => Fr S p q S' ∧ ∃ b' : Bed, (Gd b' ∧ b'.ks.length ≤ b.ks.length + 1) ∧ d = fbd b' := by
  intro S0 h
  unfold d_law_otherwise
  refine gc_fr h ?_
  walk_at "den"
  unfold m_law_otherwise
  have hF := Fr.refl h
  obtain ⟨n, hl⟩ : ∃ n, S0.length = n := ⟨_, rfl⟩
  have hsl := seed_len hb
  have hkl := hb.kl
  have hs1 : 1 ≤ b.seed.length := by
    cases e : b.seed with
    | nil => exact absurd e hs
    | cons _ _ => simp
  walk_at "vs"
  refine k_next0 hF hl fun way S hway hF hl => ?_
  walk_at "vs"
  refine br_dec (fun h0 => ?_) (fun h0 => ?_)
  · walk_at "vs"
    refine k_lift0 (house_otherwise_ok hb hk) hF hl ?_
    rintro _ S ⟨b', ⟨hb', hk', e1, e2, e3⟩, rfl⟩ hF hl
    walk_at "vs"
    have e : D.tup [fsd b', fld b, D.tup (b.seed.map tl)] = fbd b' := by
      show D.tup [fsd b', D.tup [.int b.w, .int b.h], D.tup (b.seed.map tl)] = D.tup [fsd b', D.tup [.int b'.w, .int b'.h], D.tup (b'.seed.map tl)]
      rw [e1, e2, e3]
    rw [e]
    exact ⟨S, [], (List.append_nil _).symm, hF, sc_fbd _ _, hF, b', ⟨hb', hk'⟩, rfl⟩
  walk_at "vs"
  rw [List.length_map]
  refine k_next0 hF hl fun at_ S hat hF hl => ?_
  have hal : at_ < b.seed.length := by omega
  walk_at "vs"
  refine br_dec (fun h1 => ?_) (fun h1 => ?_)
  · walk_at "vs"
    rw [show ((at_ : Int) + 1) = ((at_ + 1 : Nat) : Int) by omega, cut_fr]
    refine p_addT (by simp only [List.length_take, List.length_drop, List.length_map]; omega) ?_
    rw [show (b.seed.map tl).take at_ ++ (b.seed.map tl).drop (at_ + 1) = (b.seed.eraseIdx at_).map tl by rw [List.eraseIdx_eq_take_drop_succ, List.map_append, List.map_take, List.map_drop]]
    walk_at "vs"
    have hs2 : Gd { b with seed := b.seed.eraseIdx at_ } := ⟨hb.sl, hb.nm, hb.kl, hb.ko, hb.w1, hb.h1, hb.so.sublist ((List.eraseIdx_sublist _ _).map tpl), fun t ht => hb.fl t (List.mem_of_mem_eraseIdx ht)⟩
    exact ⟨_, [], (List.append_nil _).symm, hF, sc_fbd _ { b with seed := b.seed.eraseIdx at_ }, hF, _, ⟨hs2, Nat.le_succ _⟩, rfl⟩
  walk_at "vs"
  refine br_dec (fun h2 => ?_) (fun h2 => ?_)
  · walk_at "vs"
    refine p_ixTm (x := b.seed[at_]) (List.getElem?_eq_getElem hal) ?_
    walk_at "vs"
    rw [List.length_map]
    refine k_next0 hF hl fun u S hu hF hl => ?_
    walk_at "vs"
    have emp : (b.seed.set at_ (b.seed[at_].1, b.seed[at_].2.1, (u : Int))).map tpl = b.seed.map tpl := by
      rw [List.map_set]
      apply List.ext_getElem?
      intro j
      by_cases hj : at_ = j
      · subst hj
        rw [List.getElem?_set_self (by simpa using hal), List.getElem?_map, List.getElem?_eq_getElem hal]
        rfl
      · rw [List.getElem?_set_ne hj]
    refine (withm_ok (f := tl) (y := (b.seed[at_].1, b.seed[at_].2.1, (u : Int))) (fun _ _ => rfl) hal (by omega) _).imp ?_
    rintro _ _ ⟨rfl, rfl⟩
    walk_at "vs"
    have hs2 : Gd { b with seed := b.seed.set at_ (b.seed[at_].1, b.seed[at_].2.1, (u : Int)) } := ⟨hb.sl, hb.nm, hb.kl, hb.ko, hb.w1, hb.h1, by simp only [emp]; exact hb.so, fun t ht => by
      rcases List.mem_or_eq_of_mem_set ht with h | h
      · exact hb.fl t h
      · have := hb.fl b.seed[at_] (List.getElem_mem hal)
        rw [h]
        exact this⟩
    exact ⟨_, [], (List.append_nil _).symm, hF, sc_fbd _ { b with seed := b.seed.set at_ (b.seed[at_].1, b.seed[at_].2.1, (u : Int)) }, hF, _, ⟨hs2, Nat.le_succ _⟩, rfl⟩
  walk_at "vs"
  refine br_dec (fun h3 => ?_) (fun h3 => ?_)
  · walk_at "vs"
    refine k_lcM1 (f := tl) (fun t => pl (tpl t)) (fun _ h => (List.not_mem_nil h).elim) (fun t ht => ?_) ?_
    · unfold e1_law_otherwise
      walk_at "vs"
      exact ⟨rfl, rfl⟩
    rw [show (b.seed.map fun t => pl (tpl t)) = (b.seed.map tpl).map pl by rw [List.map_map]; rfl]
    walk_at "vs"
    rw [hl]
    refine rng_of (m := b.w) rfl (by have := hb.w1; omega) ?_
    have hz2 : b.w * b.h ≤ 12 * 12 := Nat.mul_le_mul hb.w1.2 hb.h1.2
    refine w_each (fun l σ S' => ∃ (x10 : Option D), S' = S ++ [.lst ((freQ b l.length).map pl)] ∧ l = List.range l.length ∧ σ = [some (.loc p), some (fbd b), some (fsd b), some (.int b.w), some (.int b.h), some (.tup (b.seed.map tl)), some (.int way), some (.int at_), some (.lst ((b.seed.map tpl).map pl)), some (.loc n), x10, none, none, none]) ⟨none, rfl, rfl, rfl⟩ no_guardE ?_ ?_
    · rintro l x r σ S' e0 ⟨x10, rfl, hr, rfl⟩
      have hx : x = l.length := by
        have h1 : (List.range b.w)[l.length]? = some x := by rw [e0, List.getElem?_append_right (Nat.le_refl _)]; simp
        obtain ⟨h2, h3⟩ := List.getElem?_eq_some_iff.mp h1
        rw [List.getElem_range] at h3
        exact h3.symm
      have hlw : l.length < b.w := by
        have := congrArg List.length e0
        simp at this
        omega
      subst hx
      unfold b1_law_otherwise
      walk_at "vs"
      refine rng_of (m := b.h) rfl (by have := hb.h1; omega) ?_
      walk_at "vs"
      refine k_lcP (fun y : Nat => !(decide ((((l.length : Int), (y : Int)) : Pl) ∈ b.seed.map tpl))) (fun y : Nat => pl ((l.length : Int), (y : Int))) (fun _ h => (List.not_mem_nil h).elim) (fun y hy => ?_) ?_
      · unfold t1_law_otherwise e2_law_otherwise
        walk_at "vs"
        refine p_inPL (d := pl ((l.length : Int), (y : Int))) (by simp [pl, D.pl, D.pls]) (pl_plain _ _) ?_
        obtain ⟨m, hm, hmq⟩ : ∃ m : Bool, decide (pl ((l.length : Int), (y : Int)) ∈ (b.seed.map tpl).map pl) = m ∧ decide ((((l.length : Int), (y : Int)) : Pl) ∈ b.seed.map tpl) = m := ⟨_, rfl, decide_eq_decide.mpr pl_mem.symm⟩
        rw [hm, Bool.true_xor]
        simp only [hmq]
        walk_at "vs"
        refine ⟨rfl, ?_⟩
        cases m with
        | true => trivial
        | false =>
          walk_at "vs"
          exact ⟨rfl, rfl⟩
      have hz := freQ_len b l.length
      have hz3 : l.length * b.h ≤ 12 * 12 := Nat.mul_le_mul (by have := hb.w1; omega) hb.h1.2
      walk_at "vs"
      refine p_extL (ds := (freQ b l.length).map pl) (get_go0 hl rfl) (by
        have := List.length_filter_le (fun y : Nat => !(decide ((((l.length : Int), (y : Int)) : Pl) ∈ b.seed.map tpl))) (List.range b.h)
        have := hb.h1
        simp only [List.length_map, List.length_range] at *
        omega) ?_
      walk_at "vs"
      refine ⟨_, ?_, ?_, rfl⟩
      · rw [List.length_append, List.length_singleton, freQ_succ, List.map_append, List.map_map]
        rfl
      · rw [List.length_append, List.length_singleton, List.range_succ, ← hr]
    rintro σ S' ⟨x10, rfl, -, rfl⟩
    rw [List.length_range]
    have hz := freQ_len b b.w
    walk_at "vs"
    refine p_eqNil (ds := (freQ b b.w).map pl) (get_go0 hl rfl) (pl_plain _ _) ?_
    rw [Bool.true_xor, List.isEmpty_map]
    have fin : ∀ (S2 : Store), Fr S0 p q S2 → ∀ (g : Store) (ts : List Tl), ts.length ≤ 1000 → (ts.map tpl).Nodup → (∀ t ∈ ts, (0 ≤ t.1 ∧ t.1 < b.w) ∧ (0 ≤ t.2.1 ∧ t.2.1 < b.h)) → ∃ S1 g', S2 ++ g = S1 ++ g' ∧ Fr S0 p q S1 ∧ (D.tup [fsd b, fld b, .tup ((sortT ts).map tl)]).sc S0.length = true ∧ Fr S0 p q S1 ∧ ∃ b' : Bed, (Gd b' ∧ b'.ks.length ≤ b.ks.length + 1) ∧ D.tup [fsd b, fld b, .tup ((sortT ts).map tl)] = fbd b' := fun S2 hF2 g ts hl2 hnd hfl =>
      ⟨S2, g, rfl, hF2, sc_fbd _ { b with seed := sortT ts }, hF2, { b with seed := sortT ts }, ⟨⟨hb.sl, hb.nm, hb.kl, hb.ko, hb.w1, hb.h1, sortT_plt hnd, fun t ht => hfl t (sortT_mem.mp ht)⟩, Nat.le_succ _⟩, rfl⟩
    cases ee : freQ b b.w with
    | nil =>
      simp only [List.isEmpty_nil]
      walk_at "vs"
      rw [List.append_nil]
      refine k_eq (sorted_tl (by omega)) ?_
      walk_at "vs"
      exact fin _ hF _ b.seed (by omega) (plt_nd hb.so) hb.fl
    | cons q0 qs =>
      simp only [List.isEmpty_cons]
      walk_at "vs"
      rw [List.length_map]
      have hq1 : 1 ≤ (q0 :: qs).length := by simp
      have hq2 : (freQ b b.w).length = (q0 :: qs).length := by rw [ee]
      refine k_next hF hl fun u S hu hF hl => ?_
      have hul : u < (q0 :: qs).length := by omega
      refine p_ixO (ds := (q0 :: qs).map pl) (d := pl (q0 :: qs)[u]) (get_go0 hl rfl) (by rw [atI_nat, List.getElem?_map, List.getElem?_eq_getElem hul]; rfl) ?_
      have hmf := mem_freQ (show (q0 :: qs)[u] ∈ freQ b b.w by rw [ee]; exact List.getElem_mem hul)
      generalize (q0 :: qs)[u] = qq at hmf ⊢
      obtain ⟨qx, qy⟩ := qq
      walk_at "vs"
      rw [show b.seed.map tl ++ [D.tup ([D.int qx, D.int qy] ++ [D.int 0])] = (b.seed ++ [((qx, qy, 0) : Tl)]).map tl by rw [List.map_append]; rfl]
      refine k_eq (sorted_tl (by simp; omega)) ?_
      walk_at "vs"
      refine fin _ hF _ (b.seed ++ [((qx, qy, 0) : Tl)]) (by simp; omega) ?_ fun t ht => ?_
      · rw [List.map_append]
        refine List.nodup_append.mpr ⟨plt_nd hb.so, by simp, fun a ha c hc e => hmf.2 ?_⟩
        rw [List.map_singleton, List.mem_singleton] at hc
        rw [show ((qx, qy) : Pl) = c from hc.symm, ← e]
        exact ha
      · rcases List.mem_append.mp ht with h | h
        · exact hb.fl t h
        · rw [List.mem_singleton.mp h]
          exact hmf.1
  walk_at "vs"
  refine k_next0 hF hl fun v S hv hF hl => ?_
  obtain ⟨w2, ew, w3, w4⟩ : ∃ w2 : Nat, (if (b.w : Int) + 1 < 12 then (b.w : Int) + 1 else 12) = w2 ∧ w2 ≤ 12 ∧ b.w ≤ w2 := by
    have := hb.w1
    split
    · exact ⟨b.w + 1, by omega, by omega, by omega⟩
    · exact ⟨12, rfl, by omega, by omega⟩
  obtain ⟨h2', eh, h3', h4'⟩ : ∃ w2 : Nat, (if (b.h : Int) + 1 < 12 then (b.h : Int) + 1 else 12) = w2 ∧ w2 ≤ 12 ∧ b.h ≤ w2 := by
    have := hb.h1
    split
    · exact ⟨b.h + 1, by omega, by omega, by omega⟩
    · exact ⟨12, rfl, by omega, by omega⟩
  rw [ew, eh]
  obtain ⟨w', h', e, hw', hh', hwb, hhb⟩ : ∃ w' h' : Nat, [D.tup [D.int w2, D.int b.h], D.tup [D.int b.w, D.int h2']][v]? = some (D.tup [.int w', .int h']) ∧ w' ≤ 12 ∧ h' ≤ 12 ∧ b.w ≤ w' ∧ b.h ≤ h' := by
    have g5 := hb.w1
    have g6 := hb.h1
    obtain rfl | rfl : v = 0 ∨ v = 1 := by omega
    · exact ⟨w2, b.h, rfl, by omega, by omega, by omega, by omega⟩
    · exact ⟨b.w, h2', rfl, by omega, by omega, by omega, by omega⟩
  refine p_ixL (d := D.tup [.int w', .int h']) (by rw [atI_nat]; exact e) ?_
  walk_at "vs"
  have hs2 : Gd { b with w := w', h := h' } := ⟨hb.sl, hb.nm, hb.kl, hb.ko, ⟨by have := hb.w1; simp only; omega, hw'⟩, ⟨by have := hb.h1; simp only; omega, hh'⟩, hb.so, fun t ht => by
    have := hb.fl t ht
    simp only
    omega⟩
  exact ⟨_, [], (List.append_nil _).symm, hF, sc_fbd _ { b with w := w', h := h' }, hF, _, ⟨hs2, Nat.le_succ _⟩, rfl⟩
/-! ### k64 -/
theorem frB_none {b : Bed} (hb : Gd b) : frB { b with seed := [] } = false := frB_no fun ⟨_, _, _, _, e⟩ => by
  have h1 := hb.w1
  have h2 := hb.h1
  have : (((0 : Nat) : Int), ((0 : Nat) : Int)) ∈ frQ b.w b.h b.w := mem_frQ.mpr ⟨0, 0, rfl, by omega, by omega, rfl⟩
  have e' : ([] : List Pl) = frQ b.w b.h b.w := e
  rw [← e'] at this
  exact (List.not_mem_nil this).elim
theorem wf_mid {r : Res Fl} {E : XEv} {N : DSt → Store → Prop} {R : D → Store → Prop} {B C : DSt → Store → Prop} (I : DSt → Store → Prop) (h : WfX E r I R B C) (k : ∀ σ S, I σ S → N σ S) : WfX E r N R B C := h.imp k (fun _ _ h => h) (fun _ _ h => h) (fun _ _ h => h)
open Classical in
theorem says : Says d_law := by
  intro ns hns
  have key : Ok (d_law [.frz (ns.map D.int)] []) fun d _ => d = .bl true := by
    unfold d_law
    walk_at "den"
    unfold m_law
    walk_at "vs"
    refine start_new hns fun p q S0 hH => ?_
    walk_at "vs"
    refine rng_of (m := 3) rfl (by omega) ?_
    refine w_each (xs := List.range 3) (f := fun k : Nat => D.int k) (fun l σ S' => Hnd S' p q ∧ ∃ x2 x3 x4 x5 x6 : Option D, σ = [some (.frz (ns.map D.int)), some (.loc p), x2, x3, x4, x5, x6]) ⟨hH, _, _, _, _, _, rfl⟩ no_guardE ?_ ?_
    · rintro l x r σ S e0 ⟨hH, x2, x3, x4, x5, x6, rfl⟩
      unfold b2_law
      walk_at "vs"
      obtain ⟨m, S2, hm, hF2, e1⟩ := pick_ok hH 4 (by omega) (by omega)
      refine k_eq e1 ?_
      walk_at "vs"
      obtain ⟨mo, hmo, eix⟩ : ∃ mo : Nat, (1 ≤ mo ∧ mo ≤ 12) ∧ ∀ S, ixD (D.lst [D.int 4, D.int 12]) (D.int (if (false ^^ decide ((m : Int) = 0)) = true then 1 else 0)) S = .ok (.int mo) S := by
        by_cases h : (m : Int) = 0
        · exact ⟨12, by omega, fun S => by rw [decide_eq_true h]; rfl⟩
        · exact ⟨4, by omega, fun S => by rw [decide_eq_false h]; rfl⟩
      refine k_eq (eix _) ?_
      walk_at "vs"
      refine (framed_ok (mo := mo) (km := 9) hmo (by omega) S2 hF2.pot).imp ?_
      rintro _ S3 ⟨hF3, b, ⟨hb, hfb, hb9, _⟩, rfl⟩
      have hse : b.seed ≠ [] := fun e => by
        have := frB_none hb
        rw [show ({ b with seed := [] } : Bed) = b by rw [← e]] at this
        rw [hfb] at this
        cases this
      walk_at "vs"
      refine rng_of (m := 10) rfl (by omega) ?_
      refine w_each (xs := List.range 10) (f := fun k : Nat => D.int k) (fun l σ S' => Hnd S' p q ∧ ∃ x4 x5 x6 : Option D, σ = [some (.frz (ns.map D.int)), some (.loc p), some (.int x), some (fbd b), x4, x5, x6]) ⟨hF3.pot, _, _, _, rfl⟩ no_guardE ?_ ?_
      · rintro l2 y r2 σ S - ⟨hH, x4, x5, x6, rfl⟩
        unfold b1_law
        walk_at "vp"
        refine (otherwise_ok hb (by omega) hse S hH).imp ?_
        rintro _ S ⟨hF, b1, ⟨hb1, hk1⟩, rfl⟩
        walk_at "vp"
        refine wf_mid (fun σ S' => Hnd S' p q ∧ ∃ b2 : Bed, Gd b2 ∧ σ = [some (.frz (ns.map D.int)), some (.loc p), some (.int x), some (fbd b), some (.int y), some (fbd b2), x6]) ?_ ?_
        · walk_at "vs"
          obtain ⟨z, S2, hz, hF2, e1⟩ := pick_ok hF.pot 4 (by omega) (by omega)
          refine k_eq e1 ?_
          walk_at "vs"
          refine br_dec (fun h0 => ?_) (fun h0 => ?_)
          · walk_at "vs"
            have hpl : D.pl 64 (D.tup (b1.seed.map tl)) = true := by rw [pl_tup]; exact pls_map fun _ _ => pl_tl _ _
            refine p_eqP hpl (by rfl) ?_
            walk_at "vs"
            refine br_dec (fun h1 => ?_) (fun h1 => ?_)
            · walk_at "vs"
              exact ⟨hF2.pot, b1, hb1, rfl⟩
            · walk_at "vs"
              refine (otherwise_ok hb1 (by omega) (fun e => h1 (by rw [e]; rfl)) S2 hF2.pot).imp ?_
              rintro _ S ⟨hF, b2, ⟨hb2, _⟩, rfl⟩
              walk_at "vs"
              exact ⟨hF.pot, b2, hb2, rfl⟩
          · walk_at "vs"
            exact ⟨hF2.pot, b1, hb1, rfl⟩
        rintro σ S ⟨hH, b2, hb2, rfl⟩
        walk_at "vs"
        refine (is_framed_ok hb2 _).imp ?_
        rintro _ _ ⟨rfl, rfl⟩
        walk_at "vs"
        refine (is_framed_ok hb _).imp ?_
        rintro _ _ ⟨rfl, rfl⟩
        rw [hfb]
        walk_at "vs"
        rw [decide_eq_true rfl]
        walk_at "vs"
        refine (look_ok hb2 _).imp ?_
        rintro _ _ ⟨rfl, rfl⟩
        walk_at "vs"
        rw [decide_eq_true rfl]
        walk_at "vs"
        exact ⟨hH, _, _, _, rfl⟩
      · rintro σ S ⟨hH, x4, x5, x6, rfl⟩
        walk_at "vs"
        rw [show D.tup [fsd b, fld b, D.tup []] = fbd { b with seed := [] } from rfl]
        refine (is_framed_ok (b := { b with seed := [] }) ⟨hb.sl, hb.nm, hb.kl, hb.ko, hb.w1, hb.h1, List.Pairwise.nil, fun _ h => (List.not_mem_nil h).elim⟩ _).imp ?_
        rintro _ _ ⟨rfl, rfl⟩
        rw [frB_none hb]
        walk_at "vs"
        rw [decide_eq_true rfl]
        walk_at "vs"
        exact ⟨hH, _, _, _, _, _, rfl⟩
    · rintro σ S ⟨hH, x2, x3, x4, x5, x6, rfl⟩
      walk_at "vs"
      rfl
  obtain ⟨d, S', e, rfl⟩ := key
  exact ⟨S', e⟩
theorem all_mk {l : PySem.W.OpenLaw} {w : World} {K : PySem.W.Frag} {h : Heap} {mg : Str → Option Value} {fa : Addr} (X : K.In h) (G : h.Ns mainGlobals mg) (hfa : mg "law" = some (.ref fa))
    {f0 : Addr} {od0 an0 : Option Addr} {sl0 : Array (Option Value)} {oc0 kV0 dc0 pm0 cd0 ct0 : Value}
    (a0 : PySem.W.nsIn K mainGlobals "frame_of" = some (some (.ref f0))) (l0 : K.lookup f0 = some ⟨oc0, od0, .func (PySem.W.fnOf "frame_of" "frame_of" (defArgs s_frame_of) (defBody s_frame_of) (defScope s_frame_of) .none kV0 dc0 pm0 an0 cd0 ct0), sl0⟩) (c0 : PySem.W.codeIn K cd0 "frame_of" = true) (k0 : PySem.W.keepIn K (.ref f0) = true)
    {f1 : Addr} {od1 an1 : Option Addr} {sl1 : Array (Option Value)} {oc1 kV1 dc1 pm1 cd1 ct1 : Value}
    (a1 : PySem.W.nsIn K mainGlobals "_law_start" = some (some (.ref f1))) (l1 : K.lookup f1 = some ⟨oc1, od1, .func (PySem.W.fnOf "_law_start" "_law_start" (defArgs s_law_start) (defBody s_law_start) (defScope s_law_start) .none kV1 dc1 pm1 an1 cd1 ct1), sl1⟩) (c1 : PySem.W.codeIn K cd1 "_law_start" = true) (k1 : PySem.W.keepIn K (.ref f1) = true)
    {f2 : Addr} {od2 an2 : Option Addr} {sl2 : Array (Option Value)} {oc2 kV2 dc2 pm2 cd2 ct2 : Value}
    (a2 : PySem.W.nsIn K mainGlobals "_law_next" = some (some (.ref f2))) (l2 : K.lookup f2 = some ⟨oc2, od2, .func (PySem.W.fnOf "_law_next" "_law_next" (defArgs s_law_next) (defBody s_law_next) (defScope s_law_next) .none kV2 dc2 pm2 an2 cd2 ct2), sl2⟩) (c2 : PySem.W.codeIn K cd2 "_law_next" = true) (k2 : PySem.W.keepIn K (.ref f2) = true)
    {f3 : Addr} {od3 an3 : Option Addr} {sl3 : Array (Option Value)} {oc3 kV3 dc3 pm3 cd3 ct3 : Value}
    (a3 : PySem.W.nsIn K mainGlobals "_law_look" = some (some (.ref f3))) (l3 : K.lookup f3 = some ⟨oc3, od3, .func (PySem.W.fnOf "_law_look" "_law_look" (defArgs s_law_look) (defBody s_law_look) (defScope s_law_look) .none kV3 dc3 pm3 an3 cd3 ct3), sl3⟩) (c3 : PySem.W.codeIn K cd3 "_law_look" = true) (k3 : PySem.W.keepIn K (.ref f3) = true)
    {f4 : Addr} {od4 an4 : Option Addr} {sl4 : Array (Option Value)} {oc4 kV4 dc4 pm4 cd4 ct4 : Value}
    (a4 : PySem.W.nsIn K mainGlobals "_law_with" = some (some (.ref f4))) (l4 : K.lookup f4 = some ⟨oc4, od4, .func (PySem.W.fnOf "_law_with" "_law_with" (defArgs s_law_with) (defBody s_law_with) (defScope s_law_with) .none kV4 dc4 pm4 an4 cd4 ct4), sl4⟩) (c4 : PySem.W.codeIn K cd4 "_law_with" = true) (k4 : PySem.W.keepIn K (.ref f4) = true)
    {f5 : Addr} {od5 an5 : Option Addr} {sl5 : Array (Option Value)} {oc5 kV5 dc5 pm5 cd5 ct5 : Value}
    (a5 : PySem.W.nsIn K mainGlobals "is_framed" = some (some (.ref f5))) (l5 : K.lookup f5 = some ⟨oc5, od5, .func (PySem.W.fnOf "is_framed" "is_framed" (defArgs s_is_framed) (defBody s_is_framed) (defScope s_is_framed) .none kV5 dc5 pm5 an5 cd5 ct5), sl5⟩) (c5 : PySem.W.codeIn K cd5 "is_framed" = true) (k5 : PySem.W.keepIn K (.ref f5) = true)
    {f6 : Addr} {od6 an6 : Option Addr} {sl6 : Array (Option Value)} {oc6 kV6 dc6 pm6 cd6 ct6 : Value}
    (a6 : PySem.W.nsIn K mainGlobals "_law_names" = some (some (.ref f6))) (l6 : K.lookup f6 = some ⟨oc6, od6, .func (PySem.W.fnOf "_law_names" "_law_names" (defArgs s_law_names) (defBody s_law_names) (defScope s_law_names) .none kV6 dc6 pm6 an6 cd6 ct6), sl6⟩) (c6 : PySem.W.codeIn K cd6 "_law_names" = true) (k6 : PySem.W.keepIn K (.ref f6) = true)
    {f7 : Addr} {od7 an7 : Option Addr} {sl7 : Array (Option Value)} {oc7 kV7 dc7 pm7 cd7 ct7 : Value}
    (a7 : PySem.W.nsIn K mainGlobals "_law_house_otherwise" = some (some (.ref f7))) (l7 : K.lookup f7 = some ⟨oc7, od7, .func (PySem.W.fnOf "_law_house_otherwise" "_law_house_otherwise" (defArgs s_law_house_otherwise) (defBody s_law_house_otherwise) (defScope s_law_house_otherwise) .none kV7 dc7 pm7 an7 cd7 ct7), sl7⟩) (c7 : PySem.W.codeIn K cd7 "_law_house_otherwise" = true) (k7 : PySem.W.keepIn K (.ref f7) = true)
    {f8 : Addr} {od8 an8 : Option Addr} {sl8 : Array (Option Value)} {oc8 kV8 dc8 pm8 cd8 ct8 : Value}
    (a8 : PySem.W.nsIn K mainGlobals "_law_framed" = some (some (.ref f8))) (l8 : K.lookup f8 = some ⟨oc8, od8, .func (PySem.W.fnOf "_law_framed" "_law_framed" (defArgs s_law_framed) (defBody s_law_framed) (defScope s_law_framed) .none kV8 dc8 pm8 an8 cd8 ct8), sl8⟩) (c8 : PySem.W.codeIn K cd8 "_law_framed" = true) (k8 : PySem.W.keepIn K (.ref f8) = true)
    {f9 : Addr} {od9 an9 : Option Addr} {sl9 : Array (Option Value)} {oc9 kV9 dc9 pm9 cd9 ct9 : Value}
    (a9 : PySem.W.nsIn K mainGlobals "_law_otherwise" = some (some (.ref f9))) (l9 : K.lookup f9 = some ⟨oc9, od9, .func (PySem.W.fnOf "_law_otherwise" "_law_otherwise" (defArgs s_law_otherwise) (defBody s_law_otherwise) (defScope s_law_otherwise) .none kV9 dc9 pm9 an9 cd9 ct9), sl9⟩) (c9 : PySem.W.codeIn K cd9 "_law_otherwise" = true) (k9 : PySem.W.keepIn K (.ref f9) = true)
    {f10 : Addr} {od10 an10 : Option Addr} {sl10 : Array (Option Value)} {oc10 kV10 dc10 pm10 cd10 ct10 : Value}
    (a10 : PySem.W.nsIn K mainGlobals "law" = some (some (.ref f10))) (l10 : K.lookup f10 = some ⟨oc10, od10, .func (PySem.W.fnOf "law" "law" (defArgs s_law) (defBody s_law) (defScope s_law) .none kV10 dc10 pm10 an10 cd10 ct10), sl10⟩) (c10 : PySem.W.codeIn K cd10 "law" = true) (k10 : PySem.W.keepIn K (.ref f10) = true)
    (z0 : PySem.W.nsIn K mainGlobals "abs" = some none)
    (z1 : PySem.W.nsIn K mainGlobals "any" = some none)
    (z2 : PySem.W.nsIn K mainGlobals "bool" = some none)
    (z3 : PySem.W.nsIn K mainGlobals "enumerate" = some none)
    (z4 : PySem.W.nsIn K mainGlobals "int" = some none)
    (z5 : PySem.W.nsIn K mainGlobals "isinstance" = some none)
    (z6 : PySem.W.nsIn K mainGlobals "len" = some none)
    (z7 : PySem.W.nsIn K mainGlobals "list" = some none)
    (z8 : PySem.W.nsIn K mainGlobals "min" = some none)
    (z9 : PySem.W.nsIn K mainGlobals "range" = some none)
    (z10 : PySem.W.nsIn K mainGlobals "set" = some none)
    (z11 : PySem.W.nsIn K mainGlobals "sorted" = some none)
    (z12 : PySem.W.nsIn K mainGlobals "tuple" = some none)
    {t0 : _} (y0 : PySem.W.nsIn K mainGlobals "FRAMED_ENOUGH" = some (some (.int 2 t0)))
    : ∃ fd : FuncData, (∀ (s : Shared) (v : Value), BindsTo s fd ⟨[v], []⟩ [("_law_script", v)]) ∧ ∀ base : Heap, K.In base → base.Ns mainGlobals mg → FnOk l.prog w K mg base CX0 4 fa fd ["_law_script"] (spOut K d_law) := by
  have e := hfa.symm.trans (PySem.W.mg_of X G a10)
  cases e
  have F0 := fun_mk (st := s_frame_of) l0 c0 k0
  have b0 := F0.binds (ps := ["wide", "high"]) fun _ _ _ _ _ _ us hl => match us, hl with | [_, _], _ => rfl
  have F1 := fun_mk (st := s_law_start) l1 c1 k1
  have b1 := F1.binds (ps := ["_law_script"]) fun _ _ _ _ _ _ us hl => match us, hl with | [_], _ => rfl
  have F2 := fun_mk (st := s_law_next) l2 c2 k2
  have b2 := F2.binds (ps := ["_law_state", "_law_many"]) fun _ _ _ _ _ _ us hl => match us, hl with | [_, _], _ => rfl
  have F3 := fun_mk (st := s_law_look) l3 c3 k3
  have b3 := F3.binds (ps := ["_law_bed"]) fun _ _ _ _ _ _ us hl => match us, hl with | [_], _ => rfl
  have F4 := fun_mk (st := s_law_with) l4 c4 k4
  have b4 := F4.binds (ps := ["_law_things", "_law_at", "_law_thing"]) fun _ _ _ _ _ _ us hl => match us, hl with | [_, _, _], _ => rfl
  have F5 := fun_mk (st := s_is_framed) l5 c5 k5
  have b5 := F5.binds (ps := ["bed"]) fun _ _ _ _ _ _ us hl => match us, hl with | [_], _ => rfl
  have F6 := fun_mk (st := s_law_names) l6 c6 k6
  have b6 := F6.binds (ps := ["_law_state", "_law_many"]) fun _ _ _ _ _ _ us hl => match us, hl with | [_, _], _ => rfl
  have F7 := fun_mk (st := s_law_house_otherwise) l7 c7 k7
  have b7 := F7.binds (ps := ["_law_state", "_law_house"]) fun _ _ _ _ _ _ us hl => match us, hl with | [_, _], _ => rfl
  have F8 := fun_mk (st := s_law_framed) l8 c8 k8
  have b8 := F8.binds (ps := ["_law_state", "_law_most", "_law_kinds_most"]) fun _ _ _ _ _ _ us hl => match us, hl with | [_, _, _], _ => rfl
  have F9 := fun_mk (st := s_law_otherwise) l9 c9 k9
  have b9 := F9.binds (ps := ["_law_state", "_law_bed"]) fun _ _ _ _ _ _ us hl => match us, hl with | [_, _], _ => rfl
  have F10 := fun_mk (st := s_law) l10 c10 k10
  have b10 := F10.binds (ps := ["_law_script"]) fun _ _ _ _ _ _ us hl => match us, hl with | [_], _ => rfl
  refine ⟨PySem.W.fnOf "law" "law" (defArgs s_law) (defBody s_law) (defScope s_law) .none kV10 dc10 pm10 an10 cd10 ct10, fun s v => .of_eq rfl, fun base _ _ => FnOk.out (ok_law (Txt.mk _ _ F0 (PySem.W.mg_of X G a0) b0 _ _ F1 (PySem.W.mg_of X G a1) b1 _ _ F2 (PySem.W.mg_of X G a2) b2 _ _ F3 (PySem.W.mg_of X G a3) b3 _ _ F4 (PySem.W.mg_of X G a4) b4 _ _ F5 (PySem.W.mg_of X G a5) b5 _ _ F6 (PySem.W.mg_of X G a6) b6 _ _ F7 (PySem.W.mg_of X G a7) b7 _ _ F8 (PySem.W.mg_of X G a8) b8 _ _ F9 (PySem.W.mg_of X G a9) b9 _ _ F10 (PySem.W.mg_of X G a10) b10 (PySem.W.mg_none_of X G z0) (PySem.W.mg_none_of X G z1) (PySem.W.mg_none_of X G z2) (PySem.W.mg_none_of X G z3) (PySem.W.mg_none_of X G z4) (PySem.W.mg_none_of X G z5) (PySem.W.mg_none_of X G z6) (PySem.W.mg_none_of X G z7) (PySem.W.mg_none_of X G z8) (PySem.W.mg_none_of X G z9) (PySem.W.mg_none_of X G z10) (PySem.W.mg_none_of X G z11) (PySem.W.mg_none_of X G z12) (⟨_, PySem.W.mg_of X G y0⟩)))⟩
end L3
open PySem PySem.W PyProof.Rows
set_option maxHeartbeats 0 in
theorem PySem.Challenge.cw_stickytiles_k64_what_is_framed_holds : PySem.Challenge.rw_stickytiles_k64_what_is_framed.Holds := by
  w_on; o_law; k_head; (case hw => w_witness2)
  k_fill
  refine L2.walk_of (l := PySem.Challenge.rw_stickytiles_k64_what_is_framed) (n := 63) (k := 4) (x := "_law_script") (CX := fun _ => L2.CX0) (sp := fun w => L3.spOut _ L3.d_law) rfl (by decide) rfl ⟨rfl, by decide, by decide⟩ (fun w h Y => PySem.W.kIn_of Y) ?F (fun _ _ a ns hl _ hS => L3.says_out L3.says hl hS) (fun _ _ _ _ _ h => h)
  case F =>
    intro w mg fa h KX G hmg
    refine' L3.all_mk KX G hmg ?a0 ?l0 ?c0 ?k0 ?a1 ?l1 ?c1 ?k1 ?a2 ?l2 ?c2 ?k2 ?a3 ?l3 ?c3 ?k3 ?a4 ?l4 ?c4 ?k4 ?a5 ?l5 ?c5 ?k5 ?a6 ?l6 ?c6 ?k6 ?a7 ?l7 ?c7 ?k7 ?a8 ?l8 ?c8 ?k8 ?a9 ?l9 ?c9 ?k9 ?a10 ?l10 ?c10 ?k10 ?z0 ?z1 ?z2 ?z3 ?z4 ?z5 ?z6 ?z7 ?z8 ?z9 ?z10 ?z11 ?z12 ?y0
    (case a0 => k_is); (case l0 => k_is); (case c0 => k_is); (case k0 => k_is); (case a1 => k_is); (case l1 => k_is); (case c1 => k_is); (case k1 => k_is); (case a2 => k_is); (case l2 => k_is); (case c2 => k_is); (case k2 => k_is); (case a3 => k_is); (case l3 => k_is); (case c3 => k_is); (case k3 => k_is); (case a4 => k_is); (case l4 => k_is); (case c4 => k_is); (case k4 => k_is); (case a5 => k_is); (case l5 => k_is); (case c5 => k_is); (case k5 => k_is); (case a6 => k_is); (case l6 => k_is); (case c6 => k_is); (case k6 => k_is); (case a7 => k_is); (case l7 => k_is); (case c7 => k_is); (case k7 => k_is); (case a8 => k_is); (case l8 => k_is); (case c8 => k_is); (case k8 => k_is); (case a9 => k_is); (case l9 => k_is); (case c9 => k_is); (case k9 => k_is); (case a10 => k_is); (case l10 => k_is); (case c10 => k_is); (case k10 => k_is); (case z0 => k_is); (case z1 => k_is); (case z2 => k_is); (case z3 => k_is); (case z4 => k_is); (case z5 => k_is); (case z6 => k_is); (case z7 => k_is); (case z8 => k_is); (case z9 => k_is); (case z10 => k_is); (case z11 => k_is); (case z12 => k_is); (case y0 => k_is)
