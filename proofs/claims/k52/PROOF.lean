import PyProof.Rows.All
import HandS.ForMost
import HandS.Deep
import HandS.Wide
import HandS.TupAny
import HandS.Flow
import HandS.IsInst
import HandS.Zip
import HandS.ForExc
import HandS.StrMore
import PyProof.ListStr
import PyProof.StrOps2
import PyProof.SliceStr2
import KE.SortData
import HandS.Style
import HandS.Text
import HandS.RaiseMore
import HandS.Iter
import KE.KDictKeyed
import KE.KDictWalk
import HandS.Conv
import HandS.More
import KE.KIndexOf
import PyProof.ReprRoads
import KE.KDictPairs
import KE.GoesMore
import KE.GoesEnum
import PyProof.Draws
import HandS.DictTup
import HandS.TupLe
import KE.DataMinMax
import PyProof.DictMoreH
import KE.KEqDict
import KE.KDictSum
import HandS.WordsExc
import HandS.ExcIs
import HandS.SetFor
import KE.KUnpack
import PyProof.TupleOfSeq
import PyProof.Transfer
import HandS.TupMul
import PyProof.Rows.TupDisplay
import HandS.ExcInit
import HandS.ExcField
import HandS.TupSets
import PyProof.EqAt
import PyProof.NeKinds
import HandS.Codes
import PyProof.P3Eq
import PySem.Challenge.RW_stickytiles_k52_shapes_or_not
set_option Elab.async false
set_option linter.all false
set_option maxRecDepth 100000
set_option maxHeartbeats 0
namespace L3
open PySem PySem.Spec PyProof.Rows L2

/-! ### data -/
inductive D where
  | non | bl (b : Bool) | int (i : Int) | str (x : Str) | tup (ds : List D) | ktp (ds : List D) | lst (ds : List D) | frz (ds : List D) | loc (l : Nat)
  | exn (a : Nat) | exf (a dd : Nat) (f : Str) (i : Int)
inductive Ob where
  | lst (ds : List D) | dK (kvs : List (Key × D)) | dT (kvs : List (List Key × D)) | ins (C : Str) (fs : List (Str × D)) | lck (o : Ob)
abbrev Store := List Ob
abbrev DSt := List (Option D)
inductive Res (α : Type) where
  | ok (a : α) (S : Store) | exc (c : Str) (fs : List (Str × D)) (S : Store) | stuck
def Res.bind {α β : Type} (r : Res α) (f : α → Store → Res β) : Res β := match r with
  | .ok a S => f a S
  | .exc c fs S => .exc c fs S
  | .stuck => .stuck
@[simp] theorem Res.bind_ok {α β : Type} (a : α) (S : Store) (f : α → Store → Res β) : (Res.ok a S).bind f = f a S := (rfl)
@[simp] theorem Res.bind_exc {α β : Type} (c : Str) (fs : List (Str × D)) (S : Store) (f : α → Store → Res β) : (Res.exc c fs S).bind f = .exc c fs S := (rfl)
@[simp] theorem Res.bind_stuck {α β : Type} (f : α → Store → Res β) : (Res.stuck : Res α).bind f = .stuck := (rfl)

/-! ### how data lies in the heap: M the mutable objects by number, B the lists that are being made -/
structure Wd where
  M : List Addr
  B : List Addr
def H0 : Hp := fun _ => none
theorem no_rd {a : Addr} {u : HO} : ¬ Rd H0 a u := fun h => by
  rcases h with h | ⟨o, h⟩ <;> cases h
section
variable (K : PySem.W.Frag) (w : Wd) (H : Hp)
def FzL (a : Addr) (xs : List V) : Prop := (a ∉ w.M ∧ a ∉ w.B ∧ Rd H a (.lst xs)) ∨ SqL K H0 a xs
def FzX (a : Addr) (xs : List V) : Prop := a ∉ w.M ∧ a ∉ w.B ∧ H a = some (.lst xs)
def FzT (a : Addr) (xs : List V) : Prop := a ∉ w.M ∧ a ∉ w.B ∧ H a = some (.tup xs)
/-- the field of an exception in hand -/
def FzE (a : Addr) (f : Str) (i : Int) : Prop := a ∉ w.M ∧ a ∉ w.B ∧ H a = some (.xd [(f, V.int i)])
/-- tuples that are known exactly: the module's, and made ones -/
def KcT (a : Addr) (xs : List V) : Prop := ∃ (o : Obj) (its : Array Value) (n : Nat), K.lookup a = some o ∧ o.cls = .type "tuple" ∧ o.dict = none ∧ o.data = .seq its n ∧ its.size ≤ sizeLine ∧ Vals xs its.toList
def PlT (a : Addr) (xs : List V) : Prop := a ∉ w.M ∧ a ∉ w.B ∧ ∃ (o : Obj) (its : Array Value) (n : Nat), H a = some (.frz o (.tup xs)) ∧ o.cls = .type "tuple" ∧ o.dict = none ∧ o.data = .seq its n
mutual
def Rep : D → V → Prop
  | .non, v => v = .non
  | .bl b, v => v = .bl b
  | .int i, v => v = .int i
  | .str x, v => v = .str x
  | .tup ds, v => ∃ a vs, v = .ref a ∧ FzT w H a vs ∧ Reps ds vs
  | .ktp ds, v => ∃ a vs, v = .ref a ∧ (KcT K a vs ∨ PlT w H a vs) ∧ Reps ds vs
  | .lst ds, v => ∃ a vs, v = .ref a ∧ FzX w H a vs ∧ Reps ds vs
  | .frz ds, v => ∃ a vs, v = .ref a ∧ FzL K w H a vs ∧ Reps ds vs
  | .loc l, v => ∃ a, w.M[l]? = some a ∧ v = .ref a
  | .exn a, v => v = .ref a
  | .exf a dd f i, v => v = .ref a ∧ FzE w H dd f i
def Reps : List D → List V → Prop
  | [], vs => vs = []
  | d :: ds, vs => ∃ v r, vs = v :: r ∧ Rep d v ∧ Reps ds r
end
def RepO : Option D → Option V → Prop
  | none, _ => True
  | some d, some v => Rep K w H d v
  | some _, none => False
/-- the slots -/
def RSt (ds : DSt) (vs : L2.St) : Prop := ds.length = vs.length ∧ ∀ (i : Nat) (d : D), ds[i]? = some (some d) → ∃ v, vs[i]? = some (some v) ∧ Rep K w H d v
/-- pairs by keys -/
def RKv {κ : Type} : List (κ × D) → List (κ × V) → Prop
  | [], vs => vs = []
  | (k, d) :: ds, vs => ∃ v r, vs = (k, v) :: r ∧ Rep K w H d v ∧ RKv ds r
def HoOk (mg : Str → Option Value) : Ob → HO → Prop
  | .lst ds, u => ∃ vs, u = .lst vs ∧ Reps K w H ds vs
  | .dK kvs, u => ∃ vs, u = .dK vs ∧ RKv K w H kvs vs
  | .dT kvs, u => ∃ vs, u = .dT vs ∧ RKv K w H kvs vs
  | .ins C fs, u => ∃ A dx vs, mg C = some (.ref A) ∧ u = .ins A dx vs ∧ RKv K w H fs vs
  | .lck o, u => ∃ od u', u = .frz od u' ∧ HoOk mg o u'
structure Ab (mg : Str → Option Value) (S : Store) : Prop where
  len : w.M.length = S.length
  nd : w.M.Nodup
  bm : ∀ a ∈ w.B, a ∉ w.M
  bt : ∀ a ∈ w.B, ∃ xs, H a = some (.lst xs)
  ob : ∀ (l : Nat) (a : Addr) (o : Ob), w.M[l]? = some a → S[l]? = some o → ∃ u, H a = some u ∧ HoOk K w H mg o u
end
/-- what a step may do: new mutable objects, new objects; what is no mutable object stands -/
structure Ex (w : Wd) (H : Hp) (w' : Wd) (H' : Hp) : Prop where
  pre : ∃ t, w'.M = w.M ++ t
  bk : w'.B = w.B
  keep : ∀ a u, H a = some u → a ∉ w.M → H' a = some u ∧ a ∉ w'.M
  fz : ∀ a od u, H a = some (.frz od u) → H' a = some (.frz od u)
theorem Ex.refl (w : Wd) (H : Hp) : Ex w H w H := ⟨⟨[], by simp⟩, rfl, fun a u h n => ⟨h, n⟩, fun _ _ _ h => h⟩
theorem Ex.trans {w w1 w2 : Wd} {H H1 H2 : Hp} (a : Ex w H w1 H1) (b : Ex w1 H1 w2 H2) : Ex w H w2 H2 := by
  obtain ⟨t, ht⟩ := a.pre
  obtain ⟨t', ht'⟩ := b.pre
  refine ⟨⟨t ++ t', by rw [ht', ht, List.append_assoc]⟩, b.bk.trans a.bk, fun c u h n => ?_, fun c od u h => b.fz c od u (a.fz c od u h)⟩
  obtain ⟨h1, n1⟩ := a.keep c u h n
  exact b.keep c u h1 n1
theorem Ex.get {w w' : Wd} {H H' : Hp} (e : Ex w H w' H') {l : Nat} {a : Addr} (h : w.M[l]? = some a) : w'.M[l]? = some a := by
  obtain ⟨t, ht⟩ := e.pre
  rw [ht]
  obtain ⟨h1, h2⟩ := List.getElem?_eq_some_iff.mp h
  rw [List.getElem?_append_left h1]; exact h
section
variable {K : PySem.W.Frag} {w w' : Wd} {H H' : Hp}
theorem FzL.sq {a : Addr} {xs : List V} (h : FzL K w H a xs) : SqL K H a xs := by
  rcases h with ⟨_, _, h⟩ | h | h
  · exact .inl h
  · exact absurd h no_rd
  · exact .inr h
theorem FzT.sq {a : Addr} {xs : List V} (h : FzT w H a xs) : SqT K H a xs := .inl (.inl h.2.2)
theorem kc_sq {a : Addr} {xs : List V} (h : SqT K H0 a xs) : SqT K H a xs := by
  rcases h with h | h
  · exact absurd h no_rd
  · exact .inr h
theorem Ex.rd (e : Ex w H w' H') {a : Addr} {u : HO} (n : a ∉ w.M) (b : a ∉ w.B) (h : Rd H a u) : a ∉ w'.M ∧ a ∉ w'.B ∧ Rd H' a u := by
  rcases h with h | ⟨o, h⟩
  · obtain ⟨h1, n1⟩ := e.keep a _ h n
    exact ⟨n1, by rw [e.bk]; exact b, .inl h1⟩
  · obtain ⟨h1, n1⟩ := e.keep a _ h n
    exact ⟨n1, by rw [e.bk]; exact b, .inr ⟨o, h1⟩⟩
theorem FzL.mono (e : Ex w H w' H') {a : Addr} {xs : List V} (h : FzL K w H a xs) : FzL K w' H' a xs := by
  rcases h with ⟨n, b, h⟩ | h
  · exact .inl (e.rd n b h)
  · exact .inr h
theorem FzX.mono (e : Ex w H w' H') {a : Addr} {xs : List V} (h : FzX w H a xs) : FzX w' H' a xs :=
  let ⟨n, b, h⟩ := h
  let ⟨h1, n1⟩ := e.keep a _ h n
  ⟨n1, by rw [e.bk]; exact b, h1⟩
theorem FzX.sq {a : Addr} {xs : List V} (h : FzX w H a xs) : SqL K H a xs := .inl (.inl h.2.2)
theorem PlT.by {a : Addr} {xs : List V} (k : ∀ a u, H a = some u → a ∉ w.M → a ∉ w.B → a ∉ w'.M ∧ a ∉ w'.B ∧ H' a = some u) (h : PlT w H a xs) : PlT w' H' a xs :=
  let ⟨n, b, o, its, m, f, r⟩ := h
  let ⟨n1, b1, f1⟩ := k a _ f n b
  ⟨n1, b1, o, its, m, f1, r⟩
theorem PlT.mono (e : Ex w H w' H') {a : Addr} {xs : List V} (h : PlT w H a xs) : PlT w' H' a xs := h.by fun a u f n b =>
  let ⟨h1, n1⟩ := e.keep a u f n
  ⟨n1, by rw [e.bk]; exact b, h1⟩
theorem kp_sq {a : Addr} {xs : List V} (h : KcT K a xs ∨ PlT w H a xs) : SqT K H a xs := by
  rcases h with ⟨o, its, n, h1, h2, _, h3⟩ | ⟨_, _, o, its, n, h, _⟩
  · exact .inr ⟨o, its, n, h1, h2, h3⟩
  · exact .inl (.inr ⟨o, h⟩)
theorem FzT.mono (e : Ex w H w' H') {a : Addr} {xs : List V} (h : FzT w H a xs) : FzT w' H' a xs :=
  let ⟨n, b, h⟩ := h
  let ⟨h1, n1⟩ := e.keep a _ h n
  ⟨n1, by rw [e.bk]; exact b, h1⟩
theorem FzE.mono (e : Ex w H w' H') {a : Addr} {f : Str} {i : Int} (h : FzE w H a f i) : FzE w' H' a f i :=
  let ⟨n, b, h⟩ := h
  let ⟨h1, n1⟩ := e.keep a _ h n
  ⟨n1, by rw [e.bk]; exact b, h1⟩
mutual
/-- any change that keeps frozen lists, tuples and the numbers' addresses -/
theorem Rep.gen (hX : ∀ a xs, FzX w H a xs → FzX w' H' a xs) (hL : ∀ a xs, FzL K w H a xs → FzL K w' H' a xs) (hT : ∀ a xs, FzT w H a xs → FzT w' H' a xs) (hP : ∀ a xs, PlT w H a xs → PlT w' H' a xs) (hE : ∀ a f i, FzE w H a f i → FzE w' H' a f i) (hM : ∀ (l : Nat) (a : Addr), w.M[l]? = some a → w'.M[l]? = some a) : ∀ {d : D} {v : V}, Rep K w H d v → Rep K w' H' d v
  | .non, _, h => by simpa only [Rep] using h
  | .bl b, _, h => by simpa only [Rep] using h
  | .int i, _, h => by simpa only [Rep] using h
  | .str x, _, h => by simpa only [Rep] using h
  | .tup ds, _, h => by
    simp only [Rep] at h ⊢
    obtain ⟨a, vs, e, f, r⟩ := h
    exact ⟨a, vs, e, hT _ _ f, Reps.gen hX hL hT hP hE hM r⟩
  | .ktp ds, _, h => by
    simp only [Rep] at h ⊢
    obtain ⟨a, vs, e, f, r⟩ := h
    exact ⟨a, vs, e, f.imp_right (hP _ _), Reps.gen hX hL hT hP hE hM r⟩
  | .lst ds, _, h => by
    simp only [Rep] at h ⊢
    obtain ⟨a, vs, e, f, r⟩ := h
    exact ⟨a, vs, e, hX _ _ f, Reps.gen hX hL hT hP hE hM r⟩
  | .frz ds, _, h => by
    simp only [Rep] at h ⊢
    obtain ⟨a, vs, e, f, r⟩ := h
    exact ⟨a, vs, e, hL _ _ f, Reps.gen hX hL hT hP hE hM r⟩
  | .loc l, _, h => by
    simp only [Rep] at h ⊢
    obtain ⟨a, e, f⟩ := h
    exact ⟨a, hM _ _ e, f⟩
  | .exn a, _, h => by simpa only [Rep] using h
  | .exf a dd f i, _, h => by
    simp only [Rep] at h ⊢
    exact ⟨h.1, hE _ _ _ h.2⟩
theorem Reps.gen (hX : ∀ a xs, FzX w H a xs → FzX w' H' a xs) (hL : ∀ a xs, FzL K w H a xs → FzL K w' H' a xs) (hT : ∀ a xs, FzT w H a xs → FzT w' H' a xs) (hP : ∀ a xs, PlT w H a xs → PlT w' H' a xs) (hE : ∀ a f i, FzE w H a f i → FzE w' H' a f i) (hM : ∀ (l : Nat) (a : Addr), w.M[l]? = some a → w'.M[l]? = some a) : ∀ {ds : List D} {vs : List V}, Reps K w H ds vs → Reps K w' H' ds vs
  | [], _, h => by simpa only [Reps] using h
  | d :: ds, _, h => by
    simp only [Reps] at h ⊢
    obtain ⟨v, r, e, h1, h2⟩ := h
    exact ⟨v, r, e, Rep.gen hX hL hT hP hE hM h1, Reps.gen hX hL hT hP hE hM h2⟩
end
theorem Rep.mono (e : Ex w H w' H') {d : D} {v : V} (h : Rep K w H d v) : Rep K w' H' d v := h.gen (fun _ _ f => f.mono e) (fun _ _ f => f.mono e) (fun _ _ f => f.mono e) (fun _ _ f => f.mono e) (fun _ _ _ f => f.mono e) fun _ _ => e.get
theorem Reps.mono (e : Ex w H w' H') {d : List D} {v : List V} (h : Reps K w H d v) : Reps K w' H' d v := h.gen (fun _ _ f => f.mono e) (fun _ _ f => f.mono e) (fun _ _ f => f.mono e) (fun _ _ f => f.mono e) (fun _ _ _ f => f.mono e) fun _ _ => e.get
theorem RKv.gen {κ : Type} (f : ∀ d v, Rep K w H d v → Rep K w' H' d v) : ∀ {ds : List (κ × D)} {vs : List (κ × V)}, RKv K w H ds vs → RKv K w' H' ds vs
  | [], _, h => h
  | (k, d) :: ds, _, h => by
    obtain ⟨v, r, e, h1, h2⟩ := h
    exact ⟨v, r, e, f _ _ h1, RKv.gen f h2⟩
theorem RSt.gen (f : ∀ d v, Rep K w H d v → Rep K w' H' d v) {ds : DSt} {vs : L2.St} (h : RSt K w H ds vs) : RSt K w' H' ds vs :=
  ⟨h.1, fun i d e => let ⟨v, e1, r⟩ := h.2 i d e; ⟨v, e1, f _ _ r⟩⟩
theorem RSt.mono (e : Ex w H w' H') {ds : DSt} {vs : L2.St} (h : RSt K w H ds vs) : RSt K w' H' ds vs := h.gen fun _ _ r => r.mono e
theorem HoOk.gen {mg : Str → Option Value} (f : ∀ d v, Rep K w H d v → Rep K w' H' d v) (g : ∀ d v, Reps K w H d v → Reps K w' H' d v) : ∀ {o : Ob} {u : HO}, HoOk K w H mg o u → HoOk K w' H' mg o u
  | .lst ds, _, h => by
    obtain ⟨vs, e, r⟩ := h
    exact ⟨vs, e, g _ _ r⟩
  | .dK ds, _, h => by
    obtain ⟨vs, e, r⟩ := h
    exact ⟨vs, e, r.gen f⟩
  | .dT ds, _, h => by
    obtain ⟨vs, e, r⟩ := h
    exact ⟨vs, e, r.gen f⟩
  | .ins C ds, _, h => by
    obtain ⟨A, dx, vs, m, e, r⟩ := h
    exact ⟨A, dx, vs, m, e, r.gen f⟩
  | .lck o, _, h => by
    obtain ⟨od, u', e, r⟩ := h
    exact ⟨od, u', e, HoOk.gen f g r⟩
theorem Reps.length : ∀ {ds : List D} {vs : List V}, Reps K w H ds vs → ds.length = vs.length
  | [], _, h => by simp only [Reps] at h; rw [h]; rfl
  | d :: ds, _, h => by
    simp only [Reps] at h
    obtain ⟨v, r, rfl, _, h2⟩ := h
    simp [Reps.length h2]
theorem Reps.get : ∀ {ds : List D} {vs : List V} {i : Nat} {d : D}, Reps K w H ds vs → ds[i]? = some d → ∃ v, vs[i]? = some v ∧ Rep K w H d v
  | [], _, _, _, h, e => by simp at e
  | d :: ds, _, 0, d', h, e => by
    simp only [Reps] at h
    obtain ⟨v, r, rfl, h1, h2⟩ := h
    simp at e; subst e
    exact ⟨v, by simp, h1⟩
  | d :: ds, _, i + 1, d', h, e => by
    simp only [Reps] at h
    obtain ⟨v, r, rfl, h1, h2⟩ := h
    simpa using Reps.get (i := i) h2 (by simpa using e)
theorem Reps.nil : Reps K w H [] [] := by simp only [Reps]
theorem Reps.cons {d : D} {v : V} {ds : List D} {vs : List V} (h : Rep K w H d v) (t : Reps K w H ds vs) : Reps K w H (d :: ds) (v :: vs) := by
  simp only [Reps]; exact ⟨v, vs, rfl, h, t⟩
theorem Reps.append : ∀ {ds es : List D} {vs us : List V}, Reps K w H ds vs → Reps K w H es us → Reps K w H (ds ++ es) (vs ++ us)
  | [], _, _, _, h, g => by simp only [Reps] at h; subst h; exact g
  | d :: ds, _, _, _, h, g => by
    simp only [Reps] at h
    obtain ⟨v, r, rfl, h1, h2⟩ := h
    exact .cons h1 (Reps.append h2 g)
theorem Ab.obs {mg : Str → Option Value} {S : Store} (A : Ab K w H mg S) {l : Nat} {o : Ob} (h : S[l]? = some o) : ∃ a u, w.M[l]? = some a ∧ H a = some u ∧ HoOk K w H mg o u := by
  obtain ⟨h1, _⟩ := List.getElem?_eq_some_iff.mp h
  have h2 : l < w.M.length := by rw [A.len]; exact h1
  obtain ⟨u, e, k⟩ := A.ob l w.M[l] o (List.getElem?_eq_getElem h2) h
  exact ⟨_, u, List.getElem?_eq_getElem h2, e, k⟩
theorem Ab.there {mg : Str → Option Value} {S : Store} (A : Ab K w H mg S) {a : Addr} (h : a ∈ w.M) : ∃ u, H a = some u := by
  obtain ⟨l, h1, e⟩ := List.getElem_of_mem h
  have h2 : l < S.length := by rw [← A.len]; exact h1
  obtain ⟨u, e', _⟩ := A.ob l a S[l] (by rw [← e]; exact List.getElem?_eq_getElem h1) (List.getElem?_eq_getElem h2)
  exact ⟨u, e'⟩
theorem Ab.new {mg : Str → Option Value} {S : Store} (A : Ab K w H mg S) {p : Addr} (h : H p = none) : p ∉ w.M := fun z => by
  obtain ⟨u, e⟩ := A.there z
  rw [h] at e; cases e
theorem Ab.newB {mg : Str → Option Value} {S : Store} (A : Ab K w H mg S) {p : Addr} (h : H p = none) : p ∉ w.B := fun z => by
  obtain ⟨u, e⟩ := A.bt p z
  rw [h] at e; cases e
end
section
variable {K : PySem.W.Frag} {mg : Str → Option Value} {w : Wd} {H : Hp} {S : Store}
theorem ne_new {a p : Addr} {u : HO} (h : H a = some u) (hp : H p = none) : a ≠ p := ne_of_none h hp
/-- a new frozen object -/
theorem Ex.new {p : Addr} {o : HO} (hp : H p = none) : Ex w H w (upd H p o) :=
  ⟨⟨[], by simp⟩, rfl, fun a u h n => ⟨by rw [upd_ne (ne_new h hp)]; exact h, n⟩, fun a od u h => by rw [upd_ne (ne_new h hp)]; exact h⟩
theorem HoOk.mono {w' : Wd} {H' : Hp} (e : Ex w H w' H') {o : Ob} {u : HO} (h : HoOk K w H mg o u) : HoOk K w' H' mg o u := h.gen (fun _ _ r => r.mono e) fun _ _ r => r.mono e
theorem Ab.newF (A : Ab K w H mg S) {p : Addr} {o : HO} (hp : H p = none) : Ab K w (upd H p o) mg S :=
  ⟨A.len, A.nd, A.bm, fun a ha => let ⟨u, e⟩ := A.bt a ha; ⟨u, by rw [upd_ne (ne_new e hp)]; exact e⟩, fun l a ob h1 h2 => by
    obtain ⟨u, e, k⟩ := A.ob l a ob h1 h2
    exact ⟨u, by rw [upd_ne (ne_new e hp)]; exact e, k.mono (Ex.new hp)⟩⟩
/-- a new mutable object -/
theorem Ex.newM {p : Addr} {o : HO} (hp : H p = none) : Ex w H ⟨w.M ++ [p], w.B⟩ (upd H p o) :=
  ⟨⟨[p], rfl⟩, rfl, fun a u h n => ⟨by rw [upd_ne (ne_new h hp)]; exact h, by simp only [List.mem_append, List.mem_singleton, not_or]; exact ⟨n, ne_new h hp⟩⟩, fun a od u h => by rw [upd_ne (ne_new h hp)]; exact h⟩
theorem Ab.newM (A : Ab K w H mg S) {p : Addr} {o : HO} {ob : Ob} (hp : H p = none) (k : HoOk K ⟨w.M ++ [p], w.B⟩ (upd H p o) mg ob o) : Ab K ⟨w.M ++ [p], w.B⟩ (upd H p o) mg (S ++ [ob]) := by
  have hn := A.new hp
  have hB := A.newB hp
  refine ⟨by simp [A.len], ?_, fun a hb hm => ?_, fun a ha => let ⟨u, e⟩ := A.bt a ha; ⟨u, by rw [upd_ne (ne_new e hp)]; exact e⟩, fun l a ob' h1 h2 => ?_⟩
  · show (w.M ++ [p]).Nodup
    rw [List.nodup_append]
    exact ⟨A.nd, by simp, fun a ha b hb => by simp only [List.mem_singleton] at hb; subst hb; exact fun e => hn (e ▸ ha)⟩
  · simp only [List.mem_append, List.mem_singleton] at hm
    rcases hm with hm | rfl
    · exact A.bm a hb hm
    · exact hB hb
  · have h1 : (w.M ++ [p])[l]? = some a := h1
    by_cases hl : l < S.length
    · have hl' : l < w.M.length := by rw [A.len]; exact hl
      rw [List.getElem?_append_left hl] at h2
      rw [List.getElem?_append_left hl'] at h1
      obtain ⟨u, e, k'⟩ := A.ob l a ob' h1 h2
      exact ⟨u, by rw [upd_ne (ne_new e hp)]; exact e, k'.mono (Ex.newM hp)⟩
    · have hl' : ¬ l < w.M.length := by rw [A.len]; exact hl
      rw [List.getElem?_append_right (by omega)] at h1 h2
      rw [A.len] at h1
      have h0 : l - S.length = 0 := by
        cases hq : l - S.length with
        | zero => rfl
        | succ n => rw [hq] at h2; simp at h2
      rw [h0] at h1 h2
      simp at h1 h2
      subst h1 h2
      exact ⟨o, upd_same, k⟩
theorem nz_lst {a : Addr} {xs : List V} (h : H a = some (.lst xs)) : ∀ od u, H a ≠ some (.frz od u) := fun od u z => by rw [h] at z; cases z
theorem nz_dK {a : Addr} {xs : List (Key × V)} (h : H a = some (.dK xs)) : ∀ od u, H a ≠ some (.frz od u) := fun od u z => by rw [h] at z; cases z
theorem nz_dT {a : Addr} {xs : List (List Key × V)} (h : H a = some (.dT xs)) : ∀ od u, H a ≠ some (.frz od u) := fun od u z => by rw [h] at z; cases z
theorem nz_ins {a C dx : Addr} {fs : List (Str × V)} (h : H a = some (.ins C dx fs)) : ∀ od u, H a ≠ some (.frz od u) := fun od u z => by rw [h] at z; cases z
/-- a mutable object is written -/
theorem Ex.wr {a : Addr} {o : HO} (hm : a ∈ w.M) (hz : ∀ od u, H a ≠ some (.frz od u)) : Ex w H w (upd H a o) :=
  ⟨⟨[], by simp⟩, rfl, fun b u h n => ⟨by rw [upd_ne (fun z : b = a => n (by rw [z]; exact hm))]; exact h, n⟩, fun b od u h => by rw [upd_ne (fun z : b = a => hz od u (by rw [← z]; exact h))]; exact h⟩
theorem Ab.wr (A : Ab K w H mg S) {l : Nat} {a : Addr} {o : HO} {ob : Ob} (hm : w.M[l]? = some a) (hz : ∀ od u, H a ≠ some (.frz od u)) (k : HoOk K w H mg ob o) : Ab K w (upd H a o) mg (S.set l ob) := by
  have hmem : a ∈ w.M := List.mem_of_getElem? hm
  refine ⟨by simp [A.len], A.nd, A.bm, fun b hb => ?_, fun l' a' ob' h1 h2 => ?_⟩
  · obtain ⟨u, e⟩ := A.bt b hb
    exact ⟨u, by rw [upd_ne (fun z : b = a => A.bm b hb (by rw [z]; exact hmem))]; exact e⟩
  by_cases hl : l' = l
  · subst hl
    rw [hm] at h1; cases h1
    have : l' < S.length := by rw [← A.len]; exact (List.getElem?_eq_some_iff.mp hm).1
    rw [List.getElem?_set_self this] at h2
    cases h2
    exact ⟨o, upd_same, k.mono (Ex.wr hmem hz)⟩
  · rw [List.getElem?_set_ne (Ne.symm hl)] at h2
    obtain ⟨u, e, k'⟩ := A.ob l' a' ob' h1 h2
    have hne : a' ≠ a := fun z => by
      subst z
      obtain ⟨q1, q2⟩ := List.getElem?_eq_some_iff.mp h1
      obtain ⟨q3, q4⟩ := List.getElem?_eq_some_iff.mp hm
      exact hl ((List.getElem_inj A.nd).mp (q2.trans q4.symm))
    exact ⟨u, by rw [upd_ne hne]; exact e, k'.mono (Ex.wr hmem hz)⟩
/-- data that is made at a new place -/
theorem Rep.tupNew {p : Addr} {ds : List D} {vs : List V} (A : Ab K w H mg S) (hp : H p = none) (r : Reps K w H ds vs) : Rep K w (upd H p (.tup vs)) (.tup ds) (.ref p) := by
  simp only [Rep]
  exact ⟨p, vs, rfl, ⟨A.new hp, A.newB hp, upd_same⟩, r.mono (Ex.new hp)⟩
theorem Rep.lstNew {p : Addr} {ds : List D} {vs : List V} (A : Ab K w H mg S) (hp : H p = none) (r : Reps K w H ds vs) : Rep K w (upd H p (.lst vs)) (.lst ds) (.ref p) := by
  simp only [Rep]
  exact ⟨p, vs, rfl, ⟨A.new hp, A.newB hp, upd_same⟩, r.mono (Ex.new hp)⟩
theorem Rep.locNew {p : Addr} {H' : Hp} (A : Ab K w H mg S) : Rep K ⟨w.M ++ [p], w.B⟩ H' (.loc S.length) (.ref p) := by
  simp only [Rep]
  exact ⟨p, by rw [← A.len]; simp, rfl⟩
end
end L3
namespace L3
open PySem PySem.Spec L2

/-! ### what is told of a step's end -/
abbrev XW := Value → Option Addr → L2.St → Hp → Prop
def XRel (K : PySem.W.Frag) (w : Wd) (H : Hp) (fs : List (Str × D)) : Option Addr → Prop
  | none => fs = []
  | some d => fs ≠ [] ∧ ∃ vs, H d = some (.xd vs) ∧ RKv K w H fs vs ∧ d ∉ w.M
def Post {α β : Type} (K : PySem.W.Frag) (mg : Str → Option Value) (R : Wd → Hp → α → β → Prop) (W : XW) (σ : L2.St) (w : Wd) (H : Hp) (r : Res α) (Q : β → Hp → Prop) : Prop :=
  match r with
  | .ok a S' => ∀ w' H' v, Ex w H w' H' → Ab K w' H' mg S' → R w' H' a v → Q v H'
  | .exc c fs S' => ∀ w' H' C od, Ex w H w' H' → Ab K w' H' mg S' → mg c = some (.ref C) → XRel K w' H' fs od → W (.ref C) od σ H'
  | .stuck => False
section
variable {α β γ δ : Type} {K : PySem.W.Frag} {mg : Str → Option Value} {R : Wd → Hp → α → β → Prop} {R' : Wd → Hp → γ → δ → Prop} {W : XW} {σ : L2.St} {w w' : Wd} {H H' : Hp}
theorem Post.ex {r : Res α} {Q : β → Hp → Prop} (h : Post K mg R W σ w H r Q) (e : Ex w H w' H') : Post K mg R W σ w' H' r Q := by
  cases r with
  | ok a S => exact fun w2 H2 v e2 => h w2 H2 v (e.trans e2)
  | exc c fs S => exact fun w2 H2 C od e2 => h w2 H2 C od (e.trans e2)
  | stuck => exact h
theorem Post.bind {r : Res α} {f : α → Store → Res γ} {Q : δ → Hp → Prop} {Q' : β → Hp → Prop} (h : Post K mg R' W σ w H (r.bind f) Q)
    (k : ∀ a S1 w1 H1 v, Ex w H w1 H1 → Ab K w1 H1 mg S1 → R w1 H1 a v → Post K mg R' W σ w1 H1 (f a S1) Q → Q' v H1) : Post K mg R W σ w H r Q' := by
  cases r with
  | ok a S => exact fun w2 H2 v e2 A2 r2 => k a S w2 H2 v e2 A2 r2 (Post.ex h e2)
  | exc c fs S => exact h
  | stuck => exact h
theorem Post.imp {r : Res α} {Q Q' : β → Hp → Prop} (h : Post K mg R W σ w H r Q) (k : ∀ v H', Q v H' → Q' v H') : Post K mg R W σ w H r Q' := by
  cases r with
  | ok a S => exact fun w2 H2 v e2 A2 r2 => k _ _ (h w2 H2 v e2 A2 r2)
  | exc c fs S => exact h
  | stuck => exact h
theorem Post.fin {a : α} {S : Store} {v : β} {Q : β → Hp → Prop} (h : Post K mg R W σ w H (.ok a S) Q) (A : Ab K w H mg S) (r : R w H a v) : Q v H := h w H v (Ex.refl _ _) A r
end
/-- readings by functions -/
def tOf (K : PySem.W.Frag) (mg : Str → Option Value) (W : XW) (m : DSt → Store → Res D) : TE := fun σ H Q => ∃ w dσ S, Ab K w H mg S ∧ RSt K w H dσ σ ∧ Post K mg (Rep K) W σ w H (m dσ S) Q
def RB (w : Wd) (H : Hp) (a b : Bool) : Prop := a = b
def tOfT (K : PySem.W.Frag) (mg : Str → Option Value) (W : XW) (m : DSt → Store → Res Bool) : TT := fun σ H Q => ∃ w dσ S, Ab K w H mg S ∧ RSt K w H dσ σ ∧ Post K mg RB W σ w H (m dσ S) Q
def tOfA (K : PySem.W.Frag) (mg : Str → Option Value) (W : XW) (m : DSt → Store → Res (List D)) : TA := fun σ H Q => ∃ w dσ S, Ab K w H mg S ∧ RSt K w H dσ σ ∧ Post K mg (Reps K) W σ w H (m dσ S) Q
abbrev PM (X : Cx) (W : XW) (e : Expr) (m : DSt → Store → Res D) : Prop := PE X e (tOf X.K X.mg W m)
abbrev PMT (X : Cx) (W : XW) (e : Expr) (m : DSt → Store → Res Bool) : Prop := PT X e (tOfT X.K X.mg W m)
abbrev PMA (X : Cx) (W : XW) (es : List Expr) (m : DSt → Store → Res (List D)) : Prop := PA X es (tOfA X.K X.mg W m)
section
variable {X : Cx} {W : XW}
theorem PE.imp {e : Expr} {t t' : TE} (h : PE X e t) (k : ∀ σ H Q, t' σ H Q → t σ H Q) : PE X e t' := ⟨fun pins s σ H Q I q => h.run pins s σ H Q I (k σ H Q q)⟩
theorem PT.imp {e : Expr} {t t' : TT} (h : PT X e t) (k : ∀ σ H Q, t' σ H Q → t σ H Q) : PT X e t' := ⟨fun pins s σ H Q I q => h.run pins s σ H Q I (k σ H Q q)⟩
theorem PA.imp {e : List Expr} {t t' : TA} (h : PA X e t) (k : ∀ σ H Q, t' σ H Q → t σ H Q) : PA X e t' := ⟨fun pos pins s σ H Q I q => h.run pos pins s σ H Q I (k σ H Q q)⟩
theorem PS.imp {e : Stmt} {t t' : TS} (h : PS X e t) (k : ∀ D σ H, t' D σ H → t D σ H) : PS X e t' := ⟨fun pins s σ H D I q => h.run pins s σ H D I (k D σ H q)⟩
theorem PSs.imp {e : List Stmt} {t t' : TS} (h : PSs X e t) (k : ∀ D σ H, t' D σ H → t D σ H) : PSs X e t' := ⟨fun pins s σ H D I q => h.run pins s σ H D I (k D σ H q)⟩

/-! ### names, constants -/
def mVar (i : Nat) (σ : DSt) (S : Store) : Res D := match σ[i]? with
  | some (some d) => .ok d S
  | _ => .stuck
def mC (d : D) (_ : DSt) (S : Store) : Res D := .ok d S
theorem pm_var (i : Nat) {x : Str} {pos : Pos} (hN : X.N[i]? = some x := by rfl) (hv : Vis X.env.scope x := by first | exact Or.inl rfl | exact Or.inr (Or.inl rfl) | exact Or.inr (Or.inr rfl)) (hd : (x == ("__debug__" : Str)) = false := by decide)
    (hcd : (x == ("__classdict__" : Str)) = false := by decide) : PM X W (.Name x pos) (mVar i) := by
  refine PE.imp (pe_var hN hv hd hcd) fun σ H Q ⟨w, dσ, S, A, R, P⟩ => ?_
  unfold mVar at P
  split at P
  · rename_i d e
    obtain ⟨v, e1, r⟩ := R.2 i d e
    exact ⟨v, e1, P.fin A r⟩
  · exact P.elim
theorem PE.const {e : Expr} {v : V} {d : D} (h : PE X e (tC v)) (r : ∀ w H, Rep X.K w H d v) : PM X W e (mC d) :=
  PE.imp h fun σ H Q ⟨w, dσ, S, A, R, P⟩ => P.fin A (r w H)
theorem pm_int {i j pos} : PM X W (.Constant (.int i) j pos) (mC (.int i)) := PE.const pe_int fun _ _ => by simp only [Rep]
theorem pm_bl {i j pos} : PM X W (.Constant (.bool i) j pos) (mC (.bl i)) := PE.const pe_bl fun _ _ => by simp only [Rep]
theorem pm_non {j pos} : PM X W (.Constant .none j pos) (mC .non) := PE.const pe_non fun _ _ => by simp only [Rep]
theorem pm_str {i j pos} : PM X W (.Constant (.str i) j pos) (mC (.str i)) := PE.const pe_str fun _ _ => by simp only [Rep]
/-- a module's constant -/
theorem pm_glob {x : Str} {v : V} {d : D} {u : Value} {pos : Pos} (hg : Gl X x) (hm : X.mg x = some u) (r : RelV v u) (k : ∀ w H, Rep X.K w H d v) (hd : (x == ("__debug__" : Str)) = false := by decide) : PM X W (.Name x pos) (mC d) :=
  PE.const (pe_glob hg hm r hd) k

/-! ### two values -/
def m2 (ma mb : DSt → Store → Res D) (f : D → D → Store → Res D) (σ : DSt) (S : Store) : Res D := (ma σ S).bind fun a S1 => (mb σ S1).bind fun b S2 => f a b S2
def m1 (ma : DSt → Store → Res D) (f : D → Store → Res D) (σ : DSt) (S : Store) : Res D := (ma σ S).bind fun a S1 => f a S1
/-- a rule for two values, by functions -/
def Op2 (X : Cx) (W : XW) (r : R2) (f : D → D → Store → Res D) : Prop :=
  ∀ w H S d e x y σ Q, Ab X.K w H X.mg S → Rep X.K w H d x → Rep X.K w H e y → Post X.K X.mg (Rep X.K) W σ w H (f d e S) Q → r x y H Q
def OpD (X : Cx) (W : XW) (op : Value → Value → Sem Value) (f : D → D → Store → Res D) : Prop := ∃ r, OpR X op r ∧ Op2 X W r f
theorem tOf_two {ma mb : DSt → Store → Res D} {f : D → D → Store → Res D} {r : R2} (h : Op2 X W r f) {σ : L2.St} {H : Hp} {Q : VK} (q : tOf X.K X.mg W (m2 ma mb f) σ H Q) : tOp r (tOf X.K X.mg W ma) (tOf X.K X.mg W mb) σ H Q := by
  obtain ⟨w, dσ, S, A, R, P⟩ := q
  refine ⟨w, dσ, S, A, R, P.bind fun d S1 w1 H1 x e1 A1 r1 P1 => ⟨w1, dσ, S1, A1, R.mono e1, P1.bind fun e S2 w2 H2 y e2 A2 r2 P2 => ?_⟩⟩
  exact h w2 H2 S2 d e x y σ Q A2 (r1.mono e2) r2 P2
theorem pm_op {a b : Expr} {op : Operator} {pos : Pos} {ma mb : DSt → Store → Res D} {f : D → D → Store → Res D} (ho : OpD X W (binaryOp op) f) (ha : PM X W a ma) (hb : PM X W b mb) : PM X W (.BinOp a op b pos) (m2 ma mb f) :=
  let ⟨_, h1, h2⟩ := ho
  PE.imp (pe_op h1 ha hb) fun _ _ _ => tOf_two h2
theorem pm_cmp {a b : Expr} {op : CmpOp} {pos : Pos} {ma mb : DSt → Store → Res D} {f : D → D → Store → Res D} (ho : OpD X W (compareOp op) f) (ha : PM X W a ma) (hb : PM X W b mb) (hm : behindInMarks op b = false) : PM X W (.Compare a [op] [b] pos) (m2 ma mb f) :=
  let ⟨_, h1, h2⟩ := ho
  PE.imp (pe_cmpR h1 ha hb hm) fun _ _ _ => tOf_two h2
/-- a value's test: it is a truth -/
def mT (m : DSt → Store → Res D) (σ : DSt) (S : Store) : Res Bool := (m σ S).bind fun d S1 => match d with
  | .bl b => .ok b S1
  | _ => .stuck
theorem rep_bl {K : PySem.W.Frag} {w : Wd} {H : Hp} {b : Bool} {v : V} (h : Rep K w H (.bl b) v) : v = .bl b := by simpa only [Rep] using h
theorem rep_int {K : PySem.W.Frag} {w : Wd} {H : Hp} {b : Int} {v : V} (h : Rep K w H (.int b) v) : v = .int b := by simpa only [Rep] using h
theorem rep_str {K : PySem.W.Frag} {w : Wd} {H : Hp} {b : Str} {v : V} (h : Rep K w H (.str b) v) : v = .str b := by simpa only [Rep] using h
theorem rep_non {K : PySem.W.Frag} {w : Wd} {H : Hp} {v : V} (h : Rep K w H .non v) : v = .non := by simpa only [Rep] using h
theorem of_bl {K : PySem.W.Frag} {w : Wd} {H : Hp} (b : Bool) : Rep K w H (.bl b) (.bl b) := by simp only [Rep]
theorem of_int {K : PySem.W.Frag} {w : Wd} {H : Hp} (b : Int) : Rep K w H (.int b) (.int b) := by simp only [Rep]
theorem of_str {K : PySem.W.Frag} {w : Wd} {H : Hp} (b : Str) : Rep K w H (.str b) (.str b) := by simp only [Rep]
theorem of_non {K : PySem.W.Frag} {w : Wd} {H : Hp} : Rep K w H .non .non := by simp only [Rep]
theorem of_loc {K : PySem.W.Frag} {w : Wd} {H : Hp} {l : Nat} {a : Addr} (h : w.M[l]? = some a) : Rep K w H (.loc l) (.ref a) := by simp only [Rep]; exact ⟨a, h, rfl⟩
theorem tOf_test {m : DSt → Store → Res D} {σ : L2.St} {H : Hp} {Q : Bool → Hp → Prop} (q : tOfT X.K X.mg W (mT m) σ H Q) : tTest (tOf X.K X.mg W m) σ H Q := by
  obtain ⟨w, dσ, S, A, R, P⟩ := q
  refine ⟨w, dσ, S, A, R, P.bind fun d S1 w1 H1 x e1 A1 r1 P1 => ?_⟩
  cases d with
  | bl b => exact ⟨b, rep_bl r1, P1.fin A1 rfl⟩
  | _ => exact P1.elim
/-- a comparison as a test -/
theorem pmt_cmp {a b : Expr} {op : CmpOp} {pos : Pos} {ma mb : DSt → Store → Res D} {f : D → D → Store → Res D} (ho : OpD X W (compareOp op) f) (ha : PM X W a ma) (hb : PM X W b mb) (hm : behindInMarks op b = false) : PMT X W (.Compare a [op] [b] pos) (mT (m2 ma mb f)) := by
  obtain ⟨r, h1, h2⟩ := ho
  refine PT.imp (pt_cmpR h1 ha hb hm) fun σ H Q q => ?_
  obtain ⟨w, dσ, S, A, R, P⟩ := q
  refine tOf_two h2 ⟨w, dσ, S, A, R, P.bind fun d S1 w1 H1 x e1 A1 r1 P1 => ?_⟩
  cases d with
  | bl b => exact ⟨b, rep_bl r1, P1.fin A1 rfl⟩
  | _ => exact P1.elim
def mCh (ma mb mc : DSt → Store → Res D) (f g : D → D → Store → Res D) (σ : DSt) (S : Store) : Res D :=
  (ma σ S).bind fun a S1 => (mb σ S1).bind fun b S2 => (f a b S2).bind fun z S3 => match z with
    | .bl true => (mc σ S3).bind fun c S4 => g b c S4
    | .bl false => .ok (.bl false) S3
    | _ => .stuck
theorem tOf_chain {ma mb mc : DSt → Store → Res D} {f g : D → D → Store → Res D} {r r' : R2} (h : Op2 X W r f) (h' : Op2 X W r' g) {σ : L2.St} {H : Hp} {Q : VK} (q : tOf X.K X.mg W (mCh ma mb mc f g) σ H Q) :
    tChain r r' (tOf X.K X.mg W ma) (tOf X.K X.mg W mb) (tOf X.K X.mg W mc) σ H Q := by
  obtain ⟨w, dσ, S, A, R, P⟩ := q
  refine ⟨w, dσ, S, A, R, P.bind fun d S1 w1 H1 x e1 A1 r1 P1 => ⟨w1, dσ, S1, A1, R.mono e1, P1.bind fun e S2 w2 H2 y e2 A2 r2 P2 => ?_⟩⟩
  refine h w2 H2 S2 d e x y σ _ A2 (r1.mono e2) r2 (P2.bind fun z S3 w3 H3 v e3 A3 r3 P3 => ?_)
  cases z with
  | bl b =>
    refine ⟨b, rep_bl r3, ?_⟩
    cases b with
    | true =>
      rw [if_pos rfl]
      refine ⟨w3, dσ, S3, A3, ((R.mono e1).mono e2).mono e3, P3.bind fun c S4 w4 H4 u e4 A4 r4 P4 => ?_⟩
      exact h' w4 H4 S4 e c y u σ Q A4 ((r2.mono e3).mono e4) r4 P4
    | false =>
      rw [if_neg Bool.false_ne_true]
      exact P3.fin A3 (of_bl false)
  | _ => exact P3.elim
theorem pm_chain {a b c : Expr} {op op' : CmpOp} {pos : Pos} {ma mb mc : DSt → Store → Res D} {f g : D → D → Store → Res D} (ho : OpD X W (compareOp op) f) (ho' : OpD X W (compareOp op') g) (ha : PM X W a ma) (hb : PM X W b mb) (hc : PM X W c mc)
    (hm : lastMarks [op, op'] [b, c] = false := by with_unfolding_all rfl) : PM X W (.Compare a [op, op'] [b, c] pos) (mCh ma mb mc f g) :=
  let ⟨_, h1, h2⟩ := ho
  let ⟨_, h3, h4⟩ := ho'
  PE.imp (pe_chain h1 h3 ha hb hc hm) fun _ _ _ => tOf_chain h2 h4
theorem pmt_chain {a b c : Expr} {op op' : CmpOp} {pos : Pos} {ma mb mc : DSt → Store → Res D} {f g : D → D → Store → Res D} (ho : OpD X W (compareOp op) f) (ho' : OpD X W (compareOp op') g) (ha : PM X W a ma) (hb : PM X W b mb) (hc : PM X W c mc)
    (hm : lastMarks [op, op'] [b, c] = false := by with_unfolding_all rfl) : PMT X W (.Compare a [op, op'] [b, c] pos) (mT (mCh ma mb mc f g)) := by
  obtain ⟨r, h1, h2⟩ := ho
  obtain ⟨r', h3, h4⟩ := ho'
  refine PT.imp (pt_chain h1 h3 ha hb hc hm) fun σ H Q q => ?_
  obtain ⟨w, dσ, S, A, R, P⟩ := q
  refine tOf_chain h2 h4 ⟨w, dσ, S, A, R, P.bind fun d S1 w1 H1 x e1 A1 r1 P1 => ?_⟩
  cases d with
  | bl b => exact ⟨b, rep_bl r1, P1.fin A1 rfl⟩
  | _ => exact P1.elim

/-! ### tests -/
theorem pmt_val {e : Expr} {m : DSt → Store → Res D} (h : PM X W e m) (he : ∀ whole, isTrue e X.env whole = (do let v ← whole; standAt e.pos; holding [v] (truthy v)) := by intro _; rfl) : PMT X W e (mT m) := PT.imp (pt_val h he) fun σ H Q q => tOf_test q
def mNotT (m : DSt → Store → Res Bool) (σ : DSt) (S : Store) : Res Bool := (m σ S).bind fun b S1 => .ok (!b) S1
theorem pmt_not {e : Expr} {pos : Pos} {m : DSt → Store → Res Bool} (h : PMT X W e m) : PMT X W (.UnaryOp .Not e pos) (mNotT m) :=
  PT.imp (pt_not h) fun σ H Q ⟨w, dσ, S, A, R, P⟩ => ⟨w, dσ, S, A, R, P.bind fun b S1 w1 H1 x e1 A1 r1 P1 => by
    cases (show b = x from r1)
    exact P1.fin A1 rfl⟩
end
end L3
namespace L3
open PySem PySem.Spec L2
instance {i j : Int} : Decidable (CMul i j) := by unfold CMul; infer_instance
instance {i j : Int} : Decidable (CMulW i j) := by unfold CMulW; infer_instance
instance {i j : Int} : Decidable (CDivW i j) := by unfold CDivW; infer_instance

/-! ### what may be read -/
def exL (S : Store) : D → Option (List D)
  | .lst ds => some ds
  | .loc l => match S[l]? with
    | some (.lst ds) => some ds
    | _ => none
  | _ => none
def rdL (S : Store) : D → Option (List D)
  | .frz ds => some ds
  | d => exL S d
section
variable {K : PySem.W.Frag} {mg : Str → Option Value} {w : Wd} {H : Hp} {S : Store}
theorem exL_rep {d : D} {ds : List D} {v : V} (A : Ab K w H mg S) (h : exL S d = some ds) (r : Rep K w H d v) : ∃ a vs, v = .ref a ∧ H a = some (.lst vs) ∧ Reps K w H ds vs := by
  cases d with
  | lst xs =>
    simp only [exL, Option.some.injEq] at h
    subst h
    simp only [Rep] at r
    obtain ⟨a, vs, e, f, r⟩ := r
    exact ⟨a, vs, e, f.2.2, r⟩
  | loc l =>
    simp only [exL] at h
    simp only [Rep] at r
    obtain ⟨a, e, rfl⟩ := r
    split at h
    · rename_i xs q
      cases h
      obtain ⟨u, e1, vs, e2, k⟩ := A.ob l a _ e q
      subst e2
      exact ⟨a, vs, rfl, e1, k⟩
    · cases h
  | _ => simp [exL] at h
theorem rdL_rep {d : D} {ds : List D} {v : V} (A : Ab K w H mg S) (h : rdL S d = some ds) (r : Rep K w H d v) : ∃ a vs, v = .ref a ∧ SqL K H a vs ∧ Reps K w H ds vs := by
  cases d with
  | frz xs =>
    simp only [rdL, Option.some.injEq] at h
    subst h
    simp only [Rep] at r
    obtain ⟨a, vs, e, f, r⟩ := r
    exact ⟨a, vs, e, f.sq, r⟩
  | _ =>
    obtain ⟨a, vs, e, f, r⟩ := exL_rep A (by simpa only [rdL] using h) r
    exact ⟨a, vs, e, .of f, r⟩
theorem tup_rep {ds : List D} {v : V} (r : Rep K w H (.tup ds) v) : ∃ a vs, v = .ref a ∧ H a = some (.tup vs) ∧ Reps K w H ds vs := by
  simp only [Rep] at r
  obtain ⟨a, vs, e, f, r⟩ := r
  exact ⟨a, vs, e, f.2.2, r⟩
def rdT : D → Option (List D)
  | .tup ds => some ds
  | .ktp ds => some ds
  | _ => none
theorem rdT_rep {d : D} {ds : List D} {v : V} (h : rdT d = some ds) (r : Rep K w H d v) : ∃ a vs, v = .ref a ∧ SqT K H a vs ∧ Reps K w H ds vs := by
  cases d with
  | tup xs =>
    simp only [rdT, Option.some.injEq] at h
    subst h
    obtain ⟨a, vs, e, f, r⟩ := tup_rep r
    exact ⟨a, vs, e, .of f, r⟩
  | ktp xs =>
    simp only [rdT, Option.some.injEq] at h
    subst h
    simp only [Rep] at r
    obtain ⟨a, vs, e, f, r⟩ := r
    exact ⟨a, vs, e, kp_sq f, r⟩
  | _ => simp [rdT] at h
end

/-! ### arithmetic -/
section
variable {X : Cx} {W : XW}
def addD (d e : D) (S : Store) : Res D := match d, e with
  | .int i, .int j => .ok (.int (i + j)) S
  | .str i, .str j => if i.length + j.length ≤ sizeLine then .ok (.str (i ++ j)) S else .stuck
  | .tup a, .tup b => if a.length + b.length ≤ sizeLine then .ok (.tup (a ++ b)) S else .stuck
  | d, e => match exL S d, exL S e with
    | some a, some b => if a.length + b.length ≤ sizeLine then .ok (.lst (a ++ b)) S else .stuck
    | _, _ => .stuck
theorem od_add : OpD X W (binaryOp .Add) addD := by
  refine ⟨_, op_add.or (op_add_str.or (op_catA.or op_cat)), fun w H S d e x y σ Q A rd re P => ?_⟩
  unfold addD at P
  split at P
  · exact .inl ⟨_, _, rep_int rd, rep_int re, P.fin A (of_int _)⟩
  · split at P
    · rename_i hz
      exact .inr (.inl ⟨_, _, rep_str rd, rep_str re, hz, P.fin A (of_str _)⟩)
    · exact P.elim
  · split at P
    · rename_i ds es hz
      refine .inr (.inr (.inl ?_))
      have rd0 := rd
      have re0 := re
      simp only [Rep] at rd re
      obtain ⟨a, vs, rfl, f, r⟩ := rd
      obtain ⟨b, us, rfl, g, r'⟩ := re
      refine ⟨a, b, vs, us, rfl, rfl, f.sq, g.sq, by rw [← r.length, ← r'.length]; exact hz, fun z => ?_, fun _ z => ?_, fun _ _ p hp => ?_⟩
      · subst z
        have : ds = [] := by have := r.length; simpa using this
        subst this
        exact P.fin A re0
      · subst z
        have : es = [] := by have := r'.length; simpa using this
        subst this
        rw [List.append_nil] at P
        exact P.fin A rd0
      · exact P w _ _ (Ex.new hp) (A.newF hp) (Rep.tupNew A hp (r.append r'))
    · exact P.elim
  · split at P
    · rename_i a b ha hb
      split at P
      · rename_i hz
        obtain ⟨l, vs, rfl, f, r⟩ := exL_rep A ha rd
        obtain ⟨l', us, rfl, g, r'⟩ := exL_rep A hb re
        exact .inr (.inr (.inr ⟨l, l', vs, us, rfl, rfl, f, g, by rw [← r.length, ← r'.length]; exact hz, fun p hp => P w _ _ (Ex.new hp) (A.newF hp) (Rep.lstNew A hp (r.append r'))⟩))
      · exact P.elim
    · exact P.elim
def subD (d e : D) (S : Store) : Res D := match d, e with
  | .int i, .int j => .ok (.int (i - j)) S
  | _, _ => .stuck
theorem od_sub : OpD X W (binaryOp .Sub) subD := by
  refine ⟨_, op_sub, fun w H S d e x y σ Q A rd re P => ?_⟩
  unfold subD at P
  split at P
  · exact ⟨_, _, rep_int rd, rep_int re, P.fin A (of_int _)⟩
  · exact P.elim
/-- a text times an int: see HandS.. -/
def mulD (d e : D) (S : Store) : Res D := match d, e with
  | .int i, .int j => if CMul i j ∨ CMulW i j then .ok (.int (i * j)) S else .stuck
  | d, .int k => match exL S d with
    | some a => if -(2 ^ 63) ≤ k ∧ k < 2 ^ 63 ∧ a.length * k.toNat ≤ sizeLine then .ok (.lst (List.replicate k.toNat a).flatten) S else .stuck
    | none => .stuck
  | _, _ => .stuck
theorem Reps.flat {K : PySem.W.Frag} {w : Wd} {H : Hp} {ds : List D} {vs : List V} (r : Reps K w H ds vs) : ∀ k : Nat, Reps K w H (List.replicate k ds).flatten (List.replicate k vs).flatten
  | 0 => .nil
  | k + 1 => by
    simp only [List.replicate_succ, List.flatten_cons]
    exact r.append (Reps.flat r k)
theorem od_mul : OpD X W (binaryOp .Mult) mulD := by
  refine ⟨_, op_mul.or (op_mulW.or op_rep), fun w H S d e x y σ Q A rd re P => ?_⟩
  unfold mulD at P
  split at P
  · split at P
    · rename_i hz
      rcases hz with hz | hz
      · exact .inl ⟨_, _, rep_int rd, rep_int re, hz, P.fin A (of_int _)⟩
      · exact .inr (.inl ⟨_, _, rep_int rd, rep_int re, hz, P.fin A (of_int _)⟩)
    · exact P.elim
  · split at P
    · rename_i a ha
      split at P
      · rename_i hz
        obtain ⟨l, vs, rfl, f, r⟩ := exL_rep A ha rd
        exact .inr (.inr ⟨l, _, vs, rfl, rep_int re, f, hz.1, hz.2.1, by rw [← r.length]; exact hz.2.2, fun p hp => P w _ _ (Ex.new hp) (A.newF hp) (Rep.lstNew A hp (r.flat _))⟩)
      · exact P.elim
    · exact P.elim
  · exact P.elim
def fdivD (d e : D) (S : Store) : Res D := match d, e with
  | .int i, .int j => if CDivW i j then .ok (.int (i / j)) S else .stuck
  | _, _ => .stuck
theorem od_fdiv : OpD X W (binaryOp .FloorDiv) fdivD := by
  refine ⟨_, op_fdivW, fun w H S d e x y σ Q A rd re P => ?_⟩
  unfold fdivD at P
  split at P
  · split at P
    · rename_i hz
      exact ⟨_, _, rep_int rd, rep_int re, hz, P.fin A (of_int _)⟩
    · exact P.elim
  · exact P.elim
def modD (d e : D) (S : Store) : Res D := match d, e with
  | .int i, .int j => if 0 < j then .ok (.int (i % j)) S else .stuck
  | _, _ => .stuck
theorem od_mod : OpD X W (binaryOp .Mod) modD := by
  refine ⟨_, op_mod, fun w H S d e x y σ Q A rd re P => ?_⟩
  unfold modD at P
  split at P
  · split at P
    · rename_i hz
      exact ⟨_, _, rep_int rd, rep_int re, hz, P.fin A (of_int _)⟩
    · exact P.elim
  · exact P.elim
def CPowX (i j : Int) : Prop := 0 ≤ j ∧ (Builtin.Int.intBits i : Int) * j ≤ 2 ^ 27
instance {i j : Int} : Decidable (CPowX i j) := by unfold CPowX; infer_instance
theorem op_powX : OpR X (binaryOp .Pow) (rI CPowX fun i j => .int (i ^ j.toNat)) := opI fun _ _ _ _ _ _ _ hc q => PyProof.Rows.pow_int hc.1 hc.2 q
def powD (d e : D) (S : Store) : Res D := match d, e with
  | .int i, .int j => if CPowX i j then .ok (.int (i ^ j.toNat)) S else .stuck
  | _, _ => .stuck
theorem od_pow : OpD X W (binaryOp .Pow) powD := by
  refine ⟨_, op_powX, fun w H S d e x y σ Q A rd re P => ?_⟩
  unfold powD at P
  split at P
  · split at P
    · rename_i hz
      exact ⟨_, _, rep_int rd, rep_int re, hz, P.fin A (of_int _)⟩
    · exact P.elim
  · exact P.elim

/-! ### order -/
/-- the ints of a tuple -/
def intsOf : List D → Option (List Int)
  | [] => some []
  | .int i :: r => (intsOf r).map (i :: ·)
  | _ => none
theorem intsOf_rep {K : PySem.W.Frag} {w : Wd} {H : Hp} : ∀ {ds : List D} {ns : List Int} {vs : List V}, intsOf ds = some ns → Reps K w H ds vs → vs = ns.map V.int
  | [], ns, vs, h, r => by
    simp only [intsOf, Option.some.injEq] at h
    simp only [Reps] at r
    subst h r
    rfl
  | .int i :: ds, ns, vs, h, r => by
    simp only [intsOf, Option.map_eq_some_iff] at h
    obtain ⟨ms, h1, rfl⟩ := h
    simp only [Reps] at r
    obtain ⟨v, us, rfl, e, r⟩ := r
    rw [rep_int e, intsOf_rep h1 r]
    rfl
  | .non :: _, _, _, h, _ => by simp [intsOf] at h
  | .bl _ :: _, _, _, h, _ => by simp [intsOf] at h
  | .str _ :: _, _, _, h, _ => by simp [intsOf] at h
  | .tup _ :: _, _, _, h, _ => by simp [intsOf] at h
  | .ktp _ :: _, _, _, h, _ => by simp [intsOf] at h
  | .lst _ :: _, _, _, h, _ => by simp [intsOf] at h
  | .frz _ :: _, _, _, h, _ => by simp [intsOf] at h
  | .loc _ :: _, _, _, h, _ => by simp [intsOf] at h
  | .exn _ :: _, _, _, h, _ => by simp [intsOf] at h
  | .exf _ _ _ _ :: _, _, _, h, _ => by simp [intsOf] at h
def strsOf : List D → Option (List Str)
  | [] => some []
  | .str i :: r => (strsOf r).map (i :: ·)
  | _ => none
theorem strsOf_rep {K : PySem.W.Frag} {w : Wd} {H : Hp} : ∀ {ds : List D} {ns : List Str} {vs : List V}, strsOf ds = some ns → Reps K w H ds vs → vs = ns.map V.str
  | [], ns, vs, h, r => by
    simp only [strsOf, Option.some.injEq] at h
    simp only [Reps] at r
    subst h r
    rfl
  | .str i :: ds, ns, vs, h, r => by
    simp only [strsOf, Option.map_eq_some_iff] at h
    obtain ⟨ms, h1, rfl⟩ := h
    simp only [Reps] at r
    obtain ⟨v, us, rfl, e, r⟩ := r
    rw [rep_str e, strsOf_rep h1 r]
    rfl
  | .non :: _, _, _, h, _ => by simp [strsOf] at h
  | .bl _ :: _, _, _, h, _ => by simp [strsOf] at h
  | .int _ :: _, _, _, h, _ => by simp [strsOf] at h
  | .tup _ :: _, _, _, h, _ => by simp [strsOf] at h
  | .ktp _ :: _, _, _, h, _ => by simp [strsOf] at h
  | .lst _ :: _, _, _, h, _ => by simp [strsOf] at h
  | .frz _ :: _, _, _, h, _ => by simp [strsOf] at h
  | .loc _ :: _, _, _, h, _ => by simp [strsOf] at h
  | .exn _ :: _, _, _, h, _ => by simp [strsOf] at h
  | .exf _ _ _ _ :: _, _, _, h, _ => by simp [strsOf] at h
def ltD (d e : D) (S : Store) : Res D := match d, e with
  | .int i, .int j => .ok (.bl (decide (i < j))) S
  | .str i, .str j => .ok (.bl (decide (i.cps.toList < j.cps.toList))) S
  | .tup a, .tup b => match intsOf a, intsOf b with
    | some ns, some ms => .ok (.bl (HT.lexLt ns ms)) S
    | _, _ => .stuck
  | _, _ => .stuck
theorem od_lt (hu : X.A.units < cLine) : OpD X W (compareOp .Lt) ltD := by
  refine ⟨_, op_lt.or (op_lt_str.or (op_ltT hu)), fun w H S d e x y σ Q A rd re P => ?_⟩
  unfold ltD at P
  split at P
  · exact .inl ⟨_, _, rep_int rd, rep_int re, P.fin A (of_bl _)⟩
  · exact .inr (.inl ⟨_, _, rep_str rd, rep_str re, P.fin A (of_bl _)⟩)
  · split at P
    · rename_i ns ms h1 h2
      obtain ⟨a, vs, rfl, f, r⟩ := tup_rep rd
      obtain ⟨b, us, rfl, g, r'⟩ := tup_rep re
      exact .inr (.inr ⟨a, b, ns, ms, rfl, rfl, by rw [← intsOf_rep h1 r]; exact .of f, by rw [← intsOf_rep h2 r']; exact .of g, P.fin A (of_bl _)⟩)
    · exact P.elim
  · exact P.elim
def cmpI (p : Int → Int → Bool) (d e : D) (S : Store) : Res D := match d, e with
  | .int i, .int j => .ok (.bl (p i j)) S
  | _, _ => .stuck
theorem od_le : OpD X W (compareOp .LtE) (cmpI fun i j => decide (i ≤ j)) := by
  refine ⟨_, op_le, fun w H S d e x y σ Q A rd re P => ?_⟩
  unfold cmpI at P
  split at P
  · exact ⟨_, _, rep_int rd, rep_int re, P.fin A (of_bl _)⟩
  · exact P.elim
theorem od_gt : OpD X W (compareOp .Gt) (cmpI fun i j => decide (j < i)) := by
  refine ⟨_, op_gt, fun w H S d e x y σ Q A rd re P => ?_⟩
  unfold cmpI at P
  split at P
  · exact ⟨_, _, rep_int rd, rep_int re, P.fin A (of_bl _)⟩
  · exact P.elim
theorem od_ge : OpD X W (compareOp .GtE) (cmpI fun i j => decide (j ≤ i)) := by
  refine ⟨_, op_ge, fun w H S d e x y σ Q A rd re P => ?_⟩
  unfold cmpI at P
  split at P
  · exact ⟨_, _, rep_int rd, rep_int re, P.fin A (of_bl _)⟩
  · exact P.elim

/-! ### equality of data -/
mutual
def toPy : D → Option PyData
  | .non => some .none
  | .bl b => some (.bool b)
  | .int i => some (.int i)
  | .str x => some (.str x)
  | .tup ds => (toPys ds).map .tuple
  | .lst ds => (toPys ds).map .list
  | .frz ds => (toPys ds).map .list
  | .ktp ds => (toPys ds).map .tuple
  | .loc _ => none
  | .exn _ => none
  | .exf _ _ _ _ => none
def toPys : List D → Option (List PyData)
  | [] => some []
  | d :: ds => match toPy d, toPys ds with
    | some p, some ps => some (p :: ps)
    | _, _ => none
end
section
variable {K : PySem.W.Frag} {mg : Str → Option Value} {w : Wd} {H : Hp} {S : Store}
mutual
theorem toPy_rep : ∀ {d : D} {p : PyData} {v : V}, toPy d = some p → Rep K w H d v → Dp K H v p
  | .non, p, v, h, r => by
    simp only [toPy, Option.some.injEq] at h; subst h; rw [rep_non r]; exact .non
  | .bl b, p, v, h, r => by
    simp only [toPy, Option.some.injEq] at h; subst h; rw [rep_bl r]; exact .bl b
  | .int b, p, v, h, r => by
    simp only [toPy, Option.some.injEq] at h; subst h; rw [rep_int r]; exact .int b
  | .str b, p, v, h, r => by
    simp only [toPy, Option.some.injEq] at h; subst h; rw [rep_str r]; exact .str b
  | .tup ds, p, v, h, r => by
    simp only [toPy, Option.map_eq_some_iff] at h
    obtain ⟨ps, h1, rfl⟩ := h
    simp only [Rep] at r
    obtain ⟨a, vs, rfl, f, r⟩ := r
    exact .tup f.sq (toPys_rep h1 r)
  | .lst ds, p, v, h, r => by
    simp only [toPy, Option.map_eq_some_iff] at h
    obtain ⟨ps, h1, rfl⟩ := h
    simp only [Rep] at r
    obtain ⟨a, vs, rfl, f, r⟩ := r
    exact .lst f.sq (toPys_rep h1 r)
  | .frz ds, p, v, h, r => by
    simp only [toPy, Option.map_eq_some_iff] at h
    obtain ⟨ps, h1, rfl⟩ := h
    simp only [Rep] at r
    obtain ⟨a, vs, rfl, f, r⟩ := r
    exact .lst f.sq (toPys_rep h1 r)
  | .ktp ds, p, v, h, r => by
    simp only [toPy, Option.map_eq_some_iff] at h
    obtain ⟨ps, h1, rfl⟩ := h
    simp only [Rep] at r
    obtain ⟨a, vs, rfl, f, r⟩ := r
    exact .tup (kp_sq f) (toPys_rep h1 r)
  | .loc l, p, v, h, r => by simp [toPy] at h
  | .exn _, p, v, h, r => by simp [toPy] at h
  | .exf _ _ _ _, p, v, h, r => by simp [toPy] at h
theorem toPys_rep : ∀ {ds : List D} {ps : List PyData} {vs : List V}, toPys ds = some ps → Reps K w H ds vs → DpAll K H vs ps
  | [], ps, vs, h, r => by
    simp only [toPys, Option.some.injEq] at h
    simp only [Reps] at r
    subst h r
    exact .nil
  | d :: ds, ps, vs, h, r => by
    simp only [toPys] at h
    split at h
    · rename_i p qs h1 h2
      cases h
      simp only [Reps] at r
      obtain ⟨v, us, rfl, e, r⟩ := r
      exact .cons (toPy_rep h1 e) (toPys_rep h2 r)
    · cases h
end
end
/-- a value as data; of mutable objects the lists alone -/
def pyS (S : Store) : D → Option PyData
  | .loc l => match S[l]? with
    | some (.lst ds) => (toPys ds).map .list
    | _ => none
  | d => toPy d
theorem pyS_rep {K : PySem.W.Frag} {mg : Str → Option Value} {w : Wd} {H : Hp} {S : Store} (A : Ab K w H mg S) {d : D} {p : PyData} {v : V} (h : pyS S d = some p) (r : Rep K w H d v) : Dp K H v p := by
  cases d with
  | loc l =>
    simp only [pyS] at h
    split at h
    · rename_i ds q
      simp only [Option.map_eq_some_iff] at h
      obtain ⟨ps, h1, rfl⟩ := h
      obtain ⟨a, vs, rfl, f, r'⟩ := exL_rep (ds := ds) A (by simp only [exL, q]) r
      exact .lst (.of f) (toPys_rep h1 r')
    · cases h
  | _ => exact toPy_rep (by simpa only [pyS] using h) r
def eqD (neg : Bool) (d e : D) (S : Store) : Res D := match pyS S d, pyS S e with
  | some p, some q => if SeqAt.shaped p = true ∧ SeqAt.shaped q = true then .ok (.bl (xor neg (PyData.eqv p q))) S else .stuck
  | _, _ => .stuck
theorem od_eq (hu : X.A.units + 64 < cLine) : OpD X W (compareOp .Eq) (eqD false) := by
  refine ⟨_, op_eqD hu, fun w H S d e x y σ Q A rd re P => ?_⟩
  unfold eqD at P
  split at P
  · rename_i p q h1 h2
    split at P
    · rename_i hs
      refine ⟨p, q, pyS_rep A h1 rd, pyS_rep A h2 re, hs.1, hs.2, ?_⟩
      rw [Bool.false_xor] at P
      exact P.fin A (of_bl _)
    · exact P.elim
  · exact P.elim
theorem od_ne (hu : X.A.units + 64 < cLine) : OpD X W (compareOp .NotEq) (eqD true) := by
  refine ⟨_, op_neD hu, fun w H S d e x y σ Q A rd re P => ?_⟩
  unfold eqD at P
  split at P
  · rename_i p q h1 h2
    split at P
    · rename_i hs
      refine ⟨p, q, pyS_rep A h1 rd, pyS_rep A h2 re, hs.1, hs.2, ?_⟩
      rw [Bool.true_xor] at P
      exact P.fin A (of_bl _)
    · exact P.elim
  · exact P.elim
def isND (neg : Bool) (d e : D) (S : Store) : Res D := match d, e with
  | .non, .non => .ok (.bl (!neg)) S
  | _, .non => .ok (.bl neg) S
  | _, _ => .stuck
theorem rep_nn {K : PySem.W.Frag} {w : Wd} {H : Hp} {d : D} {v : V} (r : Rep K w H d v) (h : d ≠ .non) : v ≠ .non := by
  intro z
  subst z
  cases d <;> simp [Rep] at r
  exact h rfl
theorem od_is : OpD X W (compareOp .Is) (isND false) := by
  refine ⟨_, op_isN, fun w H S d e x y σ Q A rd re P => ?_⟩
  unfold isND at P
  split at P
  · refine ⟨rep_non re, ?_⟩
    rw [rep_non rd, decide_eq_true rfl]
    exact P.fin A (of_bl _)
  · rename_i hn
    refine ⟨rep_non re, ?_⟩
    rw [decide_eq_false (rep_nn rd fun z => hn z)]
    exact P.fin A (of_bl _)
  · exact P.elim
theorem od_isnot : OpD X W (compareOp .IsNot) (isND true) := by
  refine ⟨_, op_notN, fun w H S d e x y σ Q A rd re P => ?_⟩
  unfold isND at P
  split at P
  · refine ⟨rep_non re, ?_⟩
    rw [rep_non rd, decide_eq_true rfl]
    exact P.fin A (of_bl _)
  · rename_i hn
    refine ⟨rep_non re, ?_⟩
    rw [decide_eq_false (rep_nn rd fun z => hn z)]
    exact P.fin A (of_bl _)
  · exact P.elim
end
end L3
namespace L3
open PySem PySem.Spec L2

section
variable {K : PySem.W.Frag} {mg : Str → Option Value} {w : Wd} {H : Hp} {S : Store}
theorem Reps.take : ∀ {ds : List D} {vs : List V} (n : Nat), Reps K w H ds vs → Reps K w H (ds.take n) (vs.take n)
  | _, _, 0, _ => by simpa using Reps.nil
  | [], _, n + 1, h => by simp only [Reps] at h; subst h; simpa using Reps.nil
  | d :: ds, _, n + 1, h => by
    simp only [Reps] at h
    obtain ⟨v, r, rfl, h1, h2⟩ := h
    exact .cons h1 (Reps.take n h2)
theorem Reps.drop : ∀ {ds : List D} {vs : List V} (n : Nat), Reps K w H ds vs → Reps K w H (ds.drop n) (vs.drop n)
  | _, _, 0, h => by simpa using h
  | [], _, n + 1, h => by simp only [Reps] at h; subst h; simpa using Reps.nil
  | d :: ds, _, n + 1, h => by
    simp only [Reps] at h
    obtain ⟨v, r, rfl, h1, h2⟩ := h
    exact Reps.drop n h2
theorem Reps.set {d : D} {v : V} (r : Rep K w H d v) : ∀ {ds : List D} {vs : List V} (n : Nat), Reps K w H ds vs → Reps K w H (ds.set n d) (vs.set n v)
  | [], _, n, h => by simp only [Reps] at h; subst h; simpa using Reps.nil
  | d :: ds, _, 0, h => by
    simp only [Reps] at h
    obtain ⟨v, us, rfl, h1, h2⟩ := h
    exact .cons r h2
  | d :: ds, _, n + 1, h => by
    simp only [Reps] at h
    obtain ⟨v, us, rfl, h1, h2⟩ := h
    exact .cons h1 (Reps.set r n h2)
theorem Reps.reverse : ∀ {ds : List D} {vs : List V}, Reps K w H ds vs → Reps K w H ds.reverse vs.reverse
  | [], _, h => by simp only [Reps] at h; subst h; simpa using Reps.nil
  | d :: ds, _, h => by
    simp only [Reps] at h
    obtain ⟨v, us, rfl, h1, h2⟩ := h
    rw [List.reverse_cons, List.reverse_cons]
    exact (Reps.reverse h2).append (.cons h1 .nil)
theorem Reps.eraseIdx : ∀ {ds : List D} {vs : List V} (n : Nat), Reps K w H ds vs → Reps K w H (ds.eraseIdx n) (vs.eraseIdx n)
  | [], _, n, h => by simp only [Reps] at h; subst h; simpa using Reps.nil
  | d :: ds, _, 0, h => by
    simp only [Reps] at h
    obtain ⟨v, us, rfl, h1, h2⟩ := h
    simpa using h2
  | d :: ds, _, n + 1, h => by
    simp only [Reps] at h
    obtain ⟨v, us, rfl, h1, h2⟩ := h
    simpa using Reps.cons h1 (Reps.eraseIdx n h2)
theorem Reps.dropLast {ds : List D} {vs : List V} (h : Reps K w H ds vs) : Reps K w H ds.dropLast vs.dropLast := by
  rw [List.dropLast_eq_take, List.dropLast_eq_take, h.length]
  exact h.take _
theorem Reps.at {ds : List D} {vs : List V} {i : Int} {d : D} (h : Reps K w H ds vs) (e : atI ds i = some d) : ∃ v, atI vs i = some v ∧ Rep K w H d v := by
  unfold atI at e ⊢
  rw [h.length] at e
  cases q : ixN vs.length i with
  | none => rw [q] at e; cases e
  | some j =>
    rw [q] at e
    exact h.get (i := j) e
end

/-! ### dicts -/
def keyOf : D → Option Key
  | .int i => some (.inl i)
  | .str x => some (.inr x)
  | _ => none
def keysOf : List D → Option (List Key)
  | [] => some []
  | d :: r => match keyOf d, keysOf r with
    | some k, some ks => some (k :: ks)
    | _, _ => none
def obK : Ob → Option (List (Key × D))
  | .dK kvs => some kvs
  | .lck (.dK kvs) => some kvs
  | _ => none
def obT : Ob → Option (List (List Key × D))
  | .dT kvs => some kvs
  | .lck (.dT kvs) => some kvs
  | _ => none
def lookK {κ : Type} [DecidableEq κ] (kvs : List (κ × D)) (k : κ) : Option D := (kvs.find? fun kv => decide (kv.1 = k)).map (·.2)
def dlook (S : Store) (d k : D) : Option (Option D) := match d with
  | .loc l => match S[l]? with
    | some o => match obK o, keyOf k with
      | some kvs, some key => some (lookK kvs key)
      | _, _ => match obT o, k with
        | some kvs, .tup ks => match keysOf ks with
          | some key => some (lookK kvs key)
          | none => none
        | _, _ => none
    | none => none
  | _ => none
section
variable {K : PySem.W.Frag} {mg : Str → Option Value} {w : Wd} {H : Hp} {S : Store}
theorem keyOf_rep {d : D} {k : Key} {v : V} (h : keyOf d = some k) (r : Rep K w H d v) : v = kV k := by
  cases d <;> simp only [keyOf, Option.some.injEq, reduceCtorEq] at h
  · subst h; exact rep_int r
  · subst h; exact rep_str r
theorem keysOf_rep : ∀ {ds : List D} {ks : List Key} {vs : List V}, keysOf ds = some ks → Reps K w H ds vs → vs = ks.map kV
  | [], ks, vs, h, r => by
    simp only [keysOf, Option.some.injEq] at h
    simp only [Reps] at r
    subst h r
    rfl
  | d :: ds, ks, vs, h, r => by
    simp only [keysOf] at h
    split at h
    · rename_i k ks' h1 h2
      cases h
      simp only [Reps] at r
      obtain ⟨v, us, rfl, e, r⟩ := r
      rw [keyOf_rep h1 e, keysOf_rep h2 r]
      rfl
    · cases h
theorem RKv.look {κ : Type} [DecidableEq κ] (k : κ) : ∀ {kvs : List (κ × D)} {vs : List (κ × V)}, RKv K w H kvs vs → RepO K w H (lookK kvs k) (valV vs k) ∧ (lookK kvs k = none → valV vs k = none)
  | [], _, h => by
    simp only [RKv] at h; subst h
    exact ⟨trivial, fun _ => rfl⟩
  | (j, d) :: kvs, _, h => by
    obtain ⟨v, r, rfl, h1, h2⟩ := h
    unfold lookK
    by_cases e : j = k
    · rw [valV_pos (p := (j, v)) e, List.find?_cons_of_pos (by simp [e])]
      exact ⟨h1, fun z => by cases z⟩
    · rw [valV_neg (p := (j, v)) e, List.find?_cons_of_neg (by simp [e])]
      exact RKv.look k h2
theorem RKv.length {κ : Type} : ∀ {kvs : List (κ × D)} {vs : List (κ × V)}, RKv K w H kvs vs → kvs.length = vs.length
  | [], _, h => by simp only [RKv] at h; subst h; rfl
  | (j, d) :: kvs, _, h => by
    obtain ⟨v, r, rfl, h1, h2⟩ := h
    simp [RKv.length h2]
theorem obK_rep {o : Ob} {u : HO} {kvs : List (Key × D)} (h : obK o = some kvs) (k : HoOk K w H mg o u) {a : Addr} (e : H a = some u) : ∃ vs, Rd H a (.dK vs) ∧ RKv K w H kvs vs := by
  unfold obK at h
  split at h
  · cases h
    obtain ⟨vs, rfl, r⟩ := k
    exact ⟨vs, .inl e, r⟩
  · cases h
    obtain ⟨od, u', rfl, k⟩ := k
    obtain ⟨vs, rfl, r⟩ := k
    exact ⟨vs, .inr ⟨od, e⟩, r⟩
  · cases h
theorem obT_rep {o : Ob} {u : HO} {kvs : List (List Key × D)} (h : obT o = some kvs) (k : HoOk K w H mg o u) {a : Addr} (e : H a = some u) : ∃ vs, Rd H a (.dT vs) ∧ RKv K w H kvs vs := by
  unfold obT at h
  split at h
  · cases h
    obtain ⟨vs, rfl, r⟩ := k
    exact ⟨vs, .inl e, r⟩
  · cases h
    obtain ⟨od, u', rfl, k⟩ := k
    obtain ⟨vs, rfl, r⟩ := k
    exact ⟨vs, .inr ⟨od, e⟩, r⟩
  · cases h
theorem dlook_rep {d k : D} {o : Option D} {x y : V} (A : Ab K w H mg S) (h : dlook S d k = some o) (rd : Rep K w H d x) (rk : Rep K w H k y) :
    ∃ a r, x = .ref a ∧ DGet H a y r ∧ RepO K w H o r ∧ (o = none → r = none) := by
  unfold dlook at h
  split at h
  · rename_i l
    simp only [Rep] at rd
    obtain ⟨a, el, rfl⟩ := rd
    split at h
    · rename_i ob q
      obtain ⟨u, eu, ko⟩ := A.ob l a ob el q
      split at h
      · rename_i kvs key h1 h2
        cases h
        obtain ⟨vs, hr, r⟩ := obK_rep h1 ko eu
        have := r.look key
        exact ⟨a, _, rfl, .inl ⟨vs, key, hr, keyOf_rep h2 rk, rfl⟩, this.1, this.2⟩
      · split at h
        · rename_i kvs ks h1 hno
          split at h
          · rename_i key h2
            cases h
            obtain ⟨vs, hr, r⟩ := obT_rep h1 ko eu
            obtain ⟨b, us, rfl, f, r'⟩ := tup_rep rk
            have := r.look key
            have e2 := keysOf_rep h2 r'
            subst e2
            exact ⟨a, _, rfl, .inr ⟨vs, key, b, hr, rfl, f, rfl⟩, this.1, this.2⟩
          · cases h
        · cases h
    · cases h
  · cases h
end

/-! ### subscripts -/
section
variable {X : Cx} {W : XW}
def rIxDct : R2 := fun x y H Q => ∃ a v, x = .ref a ∧ DGet H a y (some v) ∧ Q v H
theorem ix_dict (hu : X.A.units + 1 < cLine) : IxR X rIxDct := by
  intro value slice pins s σ H x y v u Q I rx ry h hs
  obtain ⟨a, z, rfl, g, q⟩ := h
  cases rx
  exact PyProof.Rows.tail_any (dict_typeIs I g) PySem.F.slot_dict_getitem.lookup (d_getItem hu I g ry fun w' s' I' r' => ⟨z, H, I', r', q⟩) hs
def seqOf (S : Store) (d : D) : Option (List D) := match rdL S d with
  | some ds => some ds
  | none => rdT d
def ixD (d i : D) (S : Store) : Res D := match d, i with
  | .str z, .int n => if z.length ≤ sizeLine then (match atI z.cps.toList n with
    | some c => .ok (.str ⟨#[c]⟩) S
    | none => .stuck) else .stuck
  | d, i => match seqOf S d with
    | some ds => match i with
      | .int n => match atI ds n with
        | some e => .ok e S
        | none => .stuck
      | _ => .stuck
    | none => match dlook S d i with
      | some (some e) => .ok e S
      | _ => .stuck
theorem od_ix (hu : X.A.units + 1 < cLine) : ∃ r, IxR X r ∧ Op2 X W r ixD := by
  refine ⟨_, ix_list.or (ix_tup.or (ix_str.or (ix_dict hu))), fun w H S d e x y σ Q A rd re P => ?_⟩
  unfold ixD at P
  split at P
  · split at P
    · rename_i hz
      split at P
      · rename_i c hc
        exact .inr (.inr (.inl ⟨_, _, c, rep_str rd, rep_int re, hz, hc, P.fin A (of_str _)⟩))
      · exact P.elim
    · exact P.elim
  · split at P
    · rename_i ds hd
      split at P
      · split at P
        · rename_i n d' hn
          unfold seqOf at hd
          split at hd
          · rename_i xs hx
            cases hd
            obtain ⟨a, vs, rfl, f, r⟩ := rdL_rep A hx rd
            obtain ⟨v, hv, rv⟩ := r.at hn
            exact .inl ⟨a, vs, _, v, rfl, rep_int re, f, hv, P.fin A rv⟩
          · obtain ⟨a, vs, rfl, f, r⟩ := rdT_rep hd rd
            obtain ⟨v, hv, rv⟩ := r.at hn
            exact .inr (.inl ⟨a, vs, _, v, rfl, rep_int re, f, hv, P.fin A rv⟩)
        · exact P.elim
      · exact P.elim
    · split at P
      · rename_i hl
        obtain ⟨a, r, rfl, g, ro, _⟩ := dlook_rep A hl rd re
        cases r with
        | none => exact ro.elim
        | some v => exact .inr (.inr (.inr ⟨a, v, rfl, g, P.fin A ro⟩))
      · exact P.elim
theorem pm_ix {a b : Expr} {pos : Pos} {ma mb : DSt → Store → Res D} (hu : X.A.units + 1 < cLine) (ha : PM X W a ma) (hb : PM X W b mb) (hs : PlainIx b) : PM X W (.Subscript a b pos) (m2 ma mb ixD) :=
  let ⟨_, h1, h2⟩ := od_ix hu
  PE.imp (pe_ix h1 ha hb hs) fun _ _ _ => tOf_two h2
/-- a slice's part -/
def PMO (X : Cx) (W : XW) (e : Option Expr) (m : DSt → Store → Res (Option Int)) : Prop := PO X e (fun σ H Q => ∃ w dσ S, Ab X.K w H X.mg S ∧ RSt X.K w H dσ σ ∧ Post X.K X.mg (fun _ _ (a b : Option Int) => a = b) W σ w H (m dσ S) Q)
def mNoPart (_ : DSt) (S : Store) : Res (Option Int) := .ok none S
def mPart (m : DSt → Store → Res D) (σ : DSt) (S : Store) : Res (Option Int) := (m σ S).bind fun d S1 => match d with
  | .int i => .ok (some i) S1
  | _ => .stuck
theorem PO.imp {e : Option Expr} {t t' : TO} (h : PO X e t) (k : ∀ σ H Q, t' σ H Q → t σ H Q) : PO X e t' := ⟨fun pins s σ H Q I q => h.run pins s σ H Q I (k σ H Q q)⟩
theorem pmo_none : PMO X W none mNoPart := PO.imp po_none fun σ H Q ⟨w, dσ, S, A, R, P⟩ => P.fin A rfl
theorem pmo_some {e : Expr} {m : DSt → Store → Res D} (h : PM X W e m) : PMO X W (some e) (mPart m) := PO.imp (po_some h) fun σ H Q ⟨w, dσ, S, A, R, P⟩ =>
  ⟨w, dσ, S, A, R, P.bind fun d S1 w1 H1 x e1 A1 r1 P1 => by
    cases d with
    | int i => exact ⟨i, rep_int r1, P1.fin A1 rfl⟩
    | _ => exact P1.elim⟩
def cut {α : Type} (xs : List α) (lo hi : Option Int) : List α := (xs.drop (HT.sIx xs.length 0 lo)).take (HT.sIx xs.length xs.length hi - HT.sIx xs.length 0 lo)
theorem Reps.cut {K : PySem.W.Frag} {w : Wd} {H : Hp} {ds : List D} {vs : List V} (h : Reps K w H ds vs) (lo hi : Option Int) : Reps K w H (L3.cut ds lo hi) (cutV vs lo hi) := by
  unfold L3.cut cutV
  rw [h.length]
  exact (h.drop _).take _
def sliceD (d : D) (lo hi : Option Int) (S : Store) : Res D := match d with
  | .str z => if z.length ≤ sizeLine then .ok (.str (cutS z lo hi)) S else .stuck
  | .tup ds => .ok (.tup (L3.cut ds lo hi)) S
  | d => match rdL S d with
    | some ds => .ok (.lst (L3.cut ds lo hi)) S
    | none => .stuck
def mSl (m : DSt → Store → Res D) (ml mh : DSt → Store → Res (Option Int)) (σ : DSt) (S : Store) : Res D :=
  (m σ S).bind fun d S1 => (ml σ S1).bind fun lo S2 => (mh σ S2).bind fun hi S3 => sliceD d lo hi S3
theorem pm_slice {e : Expr} {lo hi : Option Expr} {p2 pos : Pos} {m : DSt → Store → Res D} {ml mh : DSt → Store → Res (Option Int)} (he : PM X W e m) (hl : PMO X W lo ml) (hh : PMO X W hi mh) :
    PM X W (.Subscript e (.Slice lo hi none p2) pos) (mSl m ml mh) := by
  refine PE.imp (pe_slice (sl_list.or (sl_tupA.or sl_str)) he hl hh) fun σ H Q ⟨w, dσ, S, A, R, P⟩ => ?_
  refine ⟨w, dσ, S, A, R, P.bind fun d S1 w1 H1 x e1 A1 r1 P1 => ⟨w1, dσ, S1, A1, R.mono e1, P1.bind fun lo' S2 w2 H2 l2 e2 A2 r2 P2 => ⟨w2, dσ, S2, A2, (R.mono e1).mono e2, P2.bind fun hi' S3 w3 H3 h3 e3 A3 r3 P3 => ?_⟩⟩⟩
  subst r2 r3
  have rd := (r1.mono e2).mono e3
  unfold sliceD at P3
  split at P3
  · split at P3
    · rename_i hz
      exact .inr (.inr ⟨_, rep_str rd, hz, P3.fin A3 (of_str _)⟩)
    · exact P3.elim
  · rename_i ds
    obtain ⟨a, vs, rfl, f, r⟩ := tup_rep rd
    refine .inr (.inl ⟨a, vs, rfl, .of f, fun z => ?_, fun _ p hp => P3 w3 _ _ (Ex.new hp) (A3.newF hp) (Rep.tupNew A3 hp (r.cut lo' hi'))⟩)
    have e : L3.cut ds lo' hi' = ds := by
      unfold L3.cut
      rw [← r.length] at z
      rw [z.1, z.2, List.drop_zero, Nat.sub_zero, List.take_length]
    rw [e] at P3
    exact P3.fin A3 rd
  · split at P3
    · rename_i ds hd
      obtain ⟨a, vs, rfl, f, r⟩ := rdL_rep A3 hd rd
      exact .inl ⟨a, vs, rfl, f, fun p hp => P3 w3 _ _ (Ex.new hp) (A3.newF hp) (Rep.lstNew A3 hp (r.cut lo' hi'))⟩
    · exact P3.elim
end
end L3
namespace L3
open PySem PySem.Spec L2

/-! ### argument lists, displays, and, or -/
section
variable {X : Cx} {W : XW}
def mNil (_ : DSt) (S : Store) : Res (List D) := .ok [] S
def mCons (m : DSt → Store → Res D) (ms : DSt → Store → Res (List D)) (σ : DSt) (S : Store) : Res (List D) := (m σ S).bind fun d S1 => (ms σ S1).bind fun ds S2 => .ok (d :: ds) S2
theorem pma_nil : PMA X W [] mNil := PA.imp pa_nil fun σ H Q ⟨w, dσ, S, A, R, P⟩ => P.fin A .nil
theorem pma_cons {e : Expr} {es : List Expr} {m : DSt → Store → Res D} {ms : DSt → Store → Res (List D)} (ha : PM X W e m) (hr : PMA X W es ms) (hs : starEach (e :: es) X.env = (false, eval e X.env) :: starEach es X.env := by rfl) : PMA X W (e :: es) (mCons m ms) :=
  PA.imp (pa_cons ha hr hs) fun σ H Q ⟨w, dσ, S, A, R, P⟩ => ⟨w, dσ, S, A, R, P.bind fun d S1 w1 H1 x e1 A1 r1 P1 => ⟨w1, dσ, S1, A1, R.mono e1, P1.bind fun ds S2 w2 H2 xs e2 A2 r2 P2 => P2.fin A2 (.cons (r1.mono e2) r2)⟩⟩
def mTup (ms : DSt → Store → Res (List D)) (σ : DSt) (S : Store) : Res D := (ms σ S).bind fun ds S1 => if ds.length ≤ sizeLine then .ok (.tup ds) S1 else .stuck
def mLst (ms : DSt → Store → Res (List D)) (σ : DSt) (S : Store) : Res D := (ms σ S).bind fun ds S1 => if ds.length ≤ sizeLine then .ok (.lst ds) S1 else .stuck
/-- a list that will be changed -/
def mLstM (ms : DSt → Store → Res (List D)) (σ : DSt) (S : Store) : Res D := (ms σ S).bind fun ds S1 => if ds.length ≤ sizeLine then .ok (.loc S1.length) (S1 ++ [.lst ds]) else .stuck
theorem pm_tup {es : List Expr} {x1} {pos : Pos} {ms : DSt → Store → Res (List D)} (h : PMA X W es ms) : PM X W (.Tuple es x1 pos) (mTup ms) :=
  PE.imp (pe_tup h) fun σ H Q ⟨w, dσ, S, A, R, P⟩ => ⟨w, dσ, S, A, R, P.bind fun ds S1 w1 H1 xs e1 A1 r1 P1 => by
    split at P1
    · rename_i hz
      exact ⟨by rw [← r1.length]; exact hz, fun p hp => P1 w1 _ _ (Ex.new hp) (A1.newF hp) (Rep.tupNew A1 hp r1)⟩
    · exact P1.elim⟩
theorem pm_lst {es : List Expr} {pos : Pos} {ms : DSt → Store → Res (List D)} (h : PMA X W es ms) : PM X W (.List es pos) (mLst ms) :=
  PE.imp (pe_lst h) fun σ H Q ⟨w, dσ, S, A, R, P⟩ => ⟨w, dσ, S, A, R, P.bind fun ds S1 w1 H1 xs e1 A1 r1 P1 => by
    split at P1
    · rename_i hz
      exact ⟨by rw [← r1.length]; exact hz, fun p hp => P1 w1 _ _ (Ex.new hp) (A1.newF hp) (Rep.lstNew A1 hp r1)⟩
    · exact P1.elim⟩
theorem newLst {K : PySem.W.Frag} {mg : Str → Option Value} {w : Wd} {H : Hp} {S : Store} {p : Addr} {ds : List D} {vs : List V} (A : Ab K w H mg S) (hp : H p = none) (r : Reps K w H ds vs) :
    Ab K ⟨w.M ++ [p], w.B⟩ (upd H p (.lst vs)) mg (S ++ [.lst ds]) := A.newM hp ⟨vs, rfl, r.mono (Ex.newM hp)⟩
theorem pm_lstM {es : List Expr} {pos : Pos} {ms : DSt → Store → Res (List D)} (h : PMA X W es ms) : PM X W (.List es pos) (mLstM ms) :=
  PE.imp (pe_lst h) fun σ H Q ⟨w, dσ, S, A, R, P⟩ => ⟨w, dσ, S, A, R, P.bind fun ds S1 w1 H1 xs e1 A1 r1 P1 => by
    split at P1
    · rename_i hz
      exact ⟨by rw [← r1.length]; exact hz, fun p hp => P1 _ _ _ (Ex.newM hp) (newLst A1 hp r1) (Rep.locNew A1)⟩
    · exact P1.elim⟩
theorem pm_dictK {pos : Pos} : PM X W (.Dict [] [] pos) (fun _ S => .ok (.loc S.length) (S ++ [.dK []])) :=
  PE.imp pe_dnewK fun σ H Q ⟨w, dσ, S, A, R, P⟩ p hp => P _ _ _ (Ex.newM hp) (A.newM hp ⟨[], rfl, rfl⟩) (Rep.locNew A)
theorem pm_dictT {pos : Pos} : PM X W (.Dict [] [] pos) (fun _ S => .ok (.loc S.length) (S ++ [.dT []])) :=
  PE.imp pe_dnewT fun σ H Q ⟨w, dσ, S, A, R, P⟩ p hp => P _ _ _ (Ex.newM hp) (A.newM hp ⟨[], rfl, rfl⟩) (Rep.locNew A)
def mAndT (a b : DSt → Store → Res Bool) (σ : DSt) (S : Store) : Res Bool := (a σ S).bind fun x S1 => if x = true then b σ S1 else .ok false S1
def mOrT (a b : DSt → Store → Res Bool) (σ : DSt) (S : Store) : Res Bool := (a σ S).bind fun x S1 => if x = true then .ok true S1 else b σ S1
abbrev PMW (X : Cx) (W : XW) (e : Expr) (m : DSt → Store → Res Bool) : Prop := PW X e (tOfT X.K X.mg W m)
theorem PW.imp {e : Expr} {t t' : TT} (h : PW X e t) (k : ∀ σ H Q, t' σ H Q → t σ H Q) : PW X e t' := ⟨fun wh pins s σ H Q I q => h.run wh pins s σ H Q I (k σ H Q q)⟩
theorem pmw_and1 {a : Expr} {pos : Pos} {m : DSt → Store → Res Bool} (h : PMT X W a m) : PMW X W (.BoolOp .And [a] pos) m := pw_and1 h
theorem pmw_or1 {a : Expr} {pos : Pos} {m : DSt → Store → Res Bool} (h : PMT X W a m) : PMW X W (.BoolOp .Or [a] pos) m := pw_or1 h
theorem pmw_and {a b : Expr} {rest : List Expr} {pos : Pos} {m n : DSt → Store → Res Bool} (h : PMT X W a m) (h2 : PMW X W (.BoolOp .And (b :: rest) pos) n) : PMW X W (.BoolOp .And (a :: b :: rest) pos) (mAndT m n) :=
  PW.imp (pw_and h h2) fun σ H Q ⟨w, dσ, S, A, R, P⟩ => ⟨w, dσ, S, A, R, P.bind fun d S1 w1 H1 x e1 A1 r1 P1 => by
    cases (show d = x from r1)
    split at P1
    · rename_i hd
      rw [if_pos hd]
      exact ⟨w1, dσ, S1, A1, R.mono e1, P1⟩
    · rename_i hd
      rw [if_neg hd]
      exact P1.fin A1 rfl⟩
theorem pmw_or {a b : Expr} {rest : List Expr} {pos : Pos} {m n : DSt → Store → Res Bool} (h : PMT X W a m) (h2 : PMW X W (.BoolOp .Or (b :: rest) pos) n) : PMW X W (.BoolOp .Or (a :: b :: rest) pos) (mOrT m n) :=
  PW.imp (pw_or h h2) fun σ H Q ⟨w, dσ, S, A, R, P⟩ => ⟨w, dσ, S, A, R, P.bind fun d S1 w1 H1 x e1 A1 r1 P1 => by
    cases (show d = x from r1)
    split at P1
    · rename_i hd
      rw [if_pos hd]
      exact P1.fin A1 rfl
    · rename_i hd
      rw [if_neg hd]
      exact ⟨w1, dσ, S1, A1, R.mono e1, P1⟩⟩
theorem PMW.pt {e : Expr} {m : DSt → Store → Res Bool} (h : PMW X W e m) : PMT X W e m := L2.PW.pt h
/-- and, or, not of truths, as values -/
def mAndV (a b : DSt → Store → Res D) (σ : DSt) (S : Store) : Res D := (a σ S).bind fun x S1 => match x with
  | .bl true => b σ S1
  | .bl false => .ok (.bl false) S1
  | _ => .stuck
def mOrV (a b : DSt → Store → Res D) (σ : DSt) (S : Store) : Res D := (a σ S).bind fun x S1 => match x with
  | .bl true => .ok (.bl true) S1
  | .bl false => b σ S1
  | _ => .stuck
def mNotV (a : DSt → Store → Res D) (σ : DSt) (S : Store) : Res D := (a σ S).bind fun x S1 => match x with
  | .bl k => .ok (.bl (!k)) S1
  | _ => .stuck
theorem pm_one {op} {a : Expr} {pos : Pos} {m : DSt → Store → Res D} (h : PM X W a m) : PM X W (.BoolOp op [a] pos) m := pe_one h
theorem pm_and {a b : Expr} {rest : List Expr} {pos : Pos} {m n : DSt → Store → Res D} (h : PM X W a m) (h2 : PM X W (.BoolOp .And (b :: rest) pos) n) : PM X W (.BoolOp .And (a :: b :: rest) pos) (mAndV m n) :=
  PE.imp (pe_and h h2) fun σ H Q ⟨w, dσ, S, A, R, P⟩ => ⟨w, dσ, S, A, R, P.bind fun d S1 w1 H1 x e1 A1 r1 P1 => by
    split at P1
    · exact ⟨true, rep_bl r1, by rw [if_pos rfl]; exact ⟨w1, dσ, S1, A1, R.mono e1, P1⟩⟩
    · exact ⟨false, rep_bl r1, by rw [if_neg Bool.false_ne_true]; exact P1.fin A1 (of_bl _)⟩
    · exact P1.elim⟩
theorem pm_or {a b : Expr} {rest : List Expr} {pos : Pos} {m n : DSt → Store → Res D} (h : PM X W a m) (h2 : PM X W (.BoolOp .Or (b :: rest) pos) n) : PM X W (.BoolOp .Or (a :: b :: rest) pos) (mOrV m n) :=
  PE.imp (pe_or h h2) fun σ H Q ⟨w, dσ, S, A, R, P⟩ => ⟨w, dσ, S, A, R, P.bind fun d S1 w1 H1 x e1 A1 r1 P1 => by
    split at P1
    · exact ⟨true, rep_bl r1, by rw [if_pos rfl]; exact P1.fin A1 (of_bl _)⟩
    · exact ⟨false, rep_bl r1, by rw [if_neg Bool.false_ne_true]; exact ⟨w1, dσ, S1, A1, R.mono e1, P1⟩⟩
    · exact P1.elim⟩
theorem pm_not {a : Expr} {pos : Pos} {m : DSt → Store → Res D} (h : PM X W a m) : PM X W (.UnaryOp .Not a pos) (mNotV m) :=
  PE.imp (pe_not h) fun σ H Q ⟨w, dσ, S, A, R, P⟩ => ⟨w, dσ, S, A, R, P.bind fun d S1 w1 H1 x e1 A1 r1 P1 => by
    split at P1
    · exact ⟨_, rep_bl r1, P1.fin A1 (of_bl _)⟩
    · exact P1.elim⟩
def mIf (c : DSt → Store → Res Bool) (a b : DSt → Store → Res D) (σ : DSt) (S : Store) : Res D := (c σ S).bind fun x S1 => if x = true then a σ S1 else b σ S1
theorem pm_ifExp {c a b : Expr} {pos : Pos} {mc : DSt → Store → Res Bool} {ma mb : DSt → Store → Res D} (hc : PMT X W c mc) (ha : PM X W a ma) (hb : PM X W b mb) : PM X W (.IfExp c a b pos) (mIf mc ma mb) :=
  PE.imp (pe_ifExp hc ha hb) fun σ H Q ⟨w, dσ, S, A, R, P⟩ => ⟨w, dσ, S, A, R, P.bind fun d S1 w1 H1 x e1 A1 r1 P1 => by
    cases (show d = x from r1)
    split at P1
    · rename_i hd
      rw [if_pos hd]
      exact ⟨w1, dσ, S1, A1, R.mono e1, P1⟩
    · rename_i hd
      rw [if_neg hd]
      exact ⟨w1, dσ, S1, A1, R.mono e1, P1⟩⟩
def mNeg (m : DSt → Store → Res D) (σ : DSt) (S : Store) : Res D := (m σ S).bind fun d S1 => match d with
  | .int i => .ok (.int (-i)) S1
  | _ => .stuck
theorem pm_neg {e : Expr} {pos : Pos} {m : DSt → Store → Res D} (h : PM X W e m) : PM X W (.UnaryOp .USub e pos) (mNeg m) :=
  PE.imp (pe_un un_neg h) fun σ H Q ⟨w, dσ, S, A, R, P⟩ => ⟨w, dσ, S, A, R, P.bind fun d S1 w1 H1 x e1 A1 r1 P1 => by
    cases d with
    | int i => exact ⟨i, rep_int r1, P1.fin A1 (of_int _)⟩
    | _ => exact P1.elim⟩
end

/-! ### statements -/
inductive Fl where
  | nx (σ : DSt) | rt (d : D) | bk (σ : DSt) | ct (σ : DSt) | ex (c : Str) (fs : List (Str × D)) (σ : DSt)
def PostS (K : PySem.W.Frag) (mg : Str → Option Value) (W : XW) (w : Wd) (H : Hp) (r : Res Fl) (D : Ends) : Prop := match r with
  | .ok (.nx dσ) S => ∀ w' H' σ', Ex w H w' H' → Ab K w' H' mg S → RSt K w' H' dσ σ' → D.nx σ' H'
  | .ok (.bk dσ) S => ∀ w' H' σ', Ex w H w' H' → Ab K w' H' mg S → RSt K w' H' dσ σ' → D.bk σ' H'
  | .ok (.ct dσ) S => ∀ w' H' σ', Ex w H w' H' → Ab K w' H' mg S → RSt K w' H' dσ σ' → D.ct σ' H'
  | .ok (.rt d) S => ∀ w' H' v, Ex w H w' H' → Ab K w' H' mg S → Rep K w' H' d v → D.rt v H'
  | .ok (.ex c fs dσ) S => ∀ w' H' σ' C od, Ex w H w' H' → Ab K w' H' mg S → RSt K w' H' dσ σ' → mg c = some (.ref C) → XRel K w' H' fs od → W (.ref C) od σ' H'
  | _ => False
def liftE {α : Type} (r : Res α) (σ : DSt) (f : α → Store → Res Fl) : Res Fl := match r with
  | .ok a S => f a S
  | .exc c fs S => .ok (.ex c fs σ) S
  | .stuck => .stuck
@[simp] theorem liftE_ok {α : Type} (a : α) (S : Store) (σ : DSt) (f : α → Store → Res Fl) : liftE (.ok a S) σ f = f a S := (rfl)
@[simp] theorem liftE_exc {α : Type} (c : Str) (fs : List (Str × D)) (S : Store) (σ : DSt) (f : α → Store → Res Fl) : liftE (.exc c fs S) σ f = .ok (.ex c fs σ) S := (rfl)
@[simp] theorem liftE_stuck {α : Type} (σ : DSt) (f : α → Store → Res Fl) : liftE .stuck σ f = .stuck := (rfl)
def tOfS (K : PySem.W.Frag) (mg : Str → Option Value) (W : XW) (m : DSt → Store → Res Fl) : TS := fun D σ H => ∃ w dσ S, Ab K w H mg S ∧ RSt K w H dσ σ ∧ PostS K mg W w H (m dσ S) D
abbrev PMS (X : Cx) (W : XW) (s : Stmt) (m : DSt → Store → Res Fl) : Prop := PS X s (tOfS X.K X.mg W m)
abbrev PMSs (X : Cx) (W : XW) (s : List Stmt) (m : DSt → Store → Res Fl) : Prop := PSs X s (tOfS X.K X.mg W m)
section
variable {α β : Type} {K : PySem.W.Frag} {mg : Str → Option Value} {R : Wd → Hp → α → β → Prop} {W : XW} {σ : L2.St} {w w' : Wd} {H H' : Hp} {D : Ends}
theorem PostS.ex {r : Res Fl} (h : PostS K mg W w H r D) (e : Ex w H w' H') : PostS K mg W w' H' r D := by
  cases r with
  | ok a S => cases a with
    | nx d => exact fun w2 H2 v e2 => h w2 H2 v (e.trans e2)
    | bk d => exact fun w2 H2 v e2 => h w2 H2 v (e.trans e2)
    | ct d => exact fun w2 H2 v e2 => h w2 H2 v (e.trans e2)
    | rt d => exact fun w2 H2 v e2 => h w2 H2 v (e.trans e2)
    | ex c fs d => exact fun w2 H2 v C od e2 => h w2 H2 v C od (e.trans e2)
  | exc c fs S => exact h
  | stuck => exact h
theorem PostS.bindE {r : Res α} {dσ : DSt} {f : α → Store → Res Fl} {Q' : β → Hp → Prop} (h : PostS K mg W w H (liftE r dσ f) D) (q : RSt K w H dσ σ)
    (k : ∀ a S1 w1 H1 v, Ex w H w1 H1 → Ab K w1 H1 mg S1 → R w1 H1 a v → PostS K mg W w1 H1 (f a S1) D → Q' v H1) : Post K mg R W σ w H r Q' := by
  cases r with
  | ok a S => exact fun w2 H2 v e2 A2 r2 => k a S w2 H2 v e2 A2 r2 (PostS.ex h e2)
  | exc c fs S => exact fun w2 H2 C od e2 A2 g x => h w2 H2 σ C od e2 A2 (q.mono e2) g x
  | stuck => exact h
theorem PostS.nx {dσ : DSt} {S : Store} (h : PostS K mg W w H (.ok (.nx dσ) S) D) (A : Ab K w H mg S) (r : RSt K w H dσ σ) : D.nx σ H := h w H σ (Ex.refl _ _) A r
theorem RSt.set {dσ : DSt} {d : L3.D} {v : V} (h : RSt K w H dσ σ) (r : Rep K w H d v) (i : Nat) : RSt K w H (dσ.set i (some d)) (σ.set i (some v)) := by
  refine ⟨by simpa using h.1, fun j e hj => ?_⟩
  by_cases z : i = j
  · subst z
    by_cases hl : i < dσ.length
    · rw [List.getElem?_set_self hl] at hj
      cases hj
      exact ⟨v, by rw [List.getElem?_set_self (by rw [← h.1]; exact hl)], r⟩
    · rw [List.getElem?_eq_none (by simpa using hl)] at hj
      cases hj
  · rw [List.getElem?_set_ne z] at hj ⊢
    exact h.2 j e hj
end
def mSkip (σ : DSt) (S : Store) : Res Fl := .ok (.nx σ) S
def thenS (r : Res Fl) (f : DSt → Store → Res Fl) : Res Fl := match r with
  | .ok (.nx σ) S => f σ S
  | r => r
@[simp] theorem thenS_nx (σ : DSt) (S : Store) (f : DSt → Store → Res Fl) : thenS (.ok (.nx σ) S) f = f σ S := (rfl)
@[simp] theorem thenS_rt (d : D) (S : Store) (f : DSt → Store → Res Fl) : thenS (.ok (.rt d) S) f = .ok (.rt d) S := (rfl)
@[simp] theorem thenS_bk (d : DSt) (S : Store) (f : DSt → Store → Res Fl) : thenS (.ok (.bk d) S) f = .ok (.bk d) S := (rfl)
@[simp] theorem thenS_ct (d : DSt) (S : Store) (f : DSt → Store → Res Fl) : thenS (.ok (.ct d) S) f = .ok (.ct d) S := (rfl)
@[simp] theorem thenS_ex (c : Str) (fs : List (Str × D)) (d : DSt) (S : Store) (f : DSt → Store → Res Fl) : thenS (.ok (.ex c fs d) S) f = .ok (.ex c fs d) S := (rfl)
@[simp] theorem thenS_stuck (f : DSt → Store → Res Fl) : thenS .stuck f = .stuck := (rfl)
def mSeq (a b : DSt → Store → Res Fl) (σ : DSt) (S : Store) : Res Fl := thenS (a σ S) b
theorem PostS.seq {K : PySem.W.Frag} {mg : Str → Option Value} {W : XW} {w : Wd} {H : Hp} {D : Ends} {r : Res Fl} {f : DSt → Store → Res Fl} (h : PostS K mg W w H (thenS r f) D) : PostS K mg W w H r { D with nx := tOfS K mg W f D } := by
  cases r with
  | ok a S => cases a with
    | nx d => exact fun w2 H2 σ2 e2 A2 r2 => ⟨w2, d, S, A2, r2, PostS.ex h e2⟩
    | bk d => exact h
    | ct d => exact h
    | rt d => exact h
    | ex c fs d => exact h
  | exc c fs S => exact h
  | stuck => exact h
section
variable {X : Cx} {W : XW} {st : Stmt} {rest : List Stmt} {pos : Pos} {e : Expr} {m : DSt → Store → Res D}
theorem pms_nil : PMSs X W [] mSkip := PSs.imp pss_nil fun D σ H ⟨w, dσ, S, A, R, P⟩ => P.nx A R
theorem pms_cons {a b : DSt → Store → Res Fl} (h1 : PMS X W st a) (h2 : PMSs X W rest b) : PMSs X W (st :: rest) (mSeq a b) :=
  PSs.imp (pss_cons h1 h2) fun D σ H ⟨w, dσ, S, A, R, P⟩ => ⟨w, dσ, S, A, R, P.seq⟩
theorem pms_one {a : DSt → Store → Res Fl} (h1 : PMS X W st a) : PMSs X W [st] a := pss_one h1
theorem pms_pass : PMS X W (.Pass pos) mSkip := PS.imp ps_pass fun D σ H ⟨w, dσ, S, A, R, P⟩ => P.nx A R
theorem pms_break : PMS X W (.Break pos) (fun σ S => .ok (.bk σ) S) := PS.imp ps_break fun D σ H ⟨w, dσ, S, A, R, P⟩ => P w H σ (Ex.refl _ _) A R
theorem pms_continue : PMS X W (.Continue pos) (fun σ S => .ok (.ct σ) S) := PS.imp ps_continue fun D σ H ⟨w, dσ, S, A, R, P⟩ => P w H σ (Ex.refl _ _) A R
def mDo (m : DSt → Store → Res D) (σ : DSt) (S : Store) : Res Fl := liftE (m σ S) σ fun _ S1 => .ok (.nx σ) S1
theorem pms_expr (he : PM X W e m) (hs : swapsWith e none pos.line X.env = pure false := by rfl) : PMS X W (.Expr e pos) (mDo m) :=
  PS.imp (ps_expr he hs) fun D σ H ⟨w, dσ, S, A, R, P⟩ => ⟨w, dσ, S, A, R, P.bindE R fun d S1 w1 H1 v e1 A1 r1 P1 => P1.nx A1 (R.mono e1)⟩
def mRet (m : DSt → Store → Res D) (σ : DSt) (S : Store) : Res Fl := liftE (m σ S) σ fun d S1 => .ok (.rt d) S1
theorem pms_ret (he : PM X W e m) : PMS X W (.Return (some e) pos) (mRet m) :=
  PS.imp (ps_ret he) fun D σ H ⟨w, dσ, S, A, R, P⟩ => ⟨w, dσ, S, A, R, P.bindE R fun d S1 w1 H1 v e1 A1 r1 P1 => P1 w1 H1 v (Ex.refl _ _) A1 r1⟩
theorem pms_retN : PMS X W (.Return none pos) (fun _ S => .ok (.rt .non) S) := PS.imp ps_retN fun D σ H ⟨w, dσ, S, A, R, P⟩ => P w H _ (Ex.refl _ _) A of_non
def mIfS (c : DSt → Store → Res Bool) (a b : DSt → Store → Res Fl) (σ : DSt) (S : Store) : Res Fl := liftE (c σ S) σ fun x S1 => if x = true then a σ S1 else b σ S1
theorem pms_if {c : Expr} {a b : List Stmt} {mc : DSt → Store → Res Bool} {ma mb : DSt → Store → Res Fl} (hc : PMT X W c mc) (ha : PMSs X W a ma) (hb : PMSs X W b mb) : PMS X W (.If c a b pos) (mIfS mc ma mb) :=
  PS.imp (ps_if hc ha hb) fun D σ H ⟨w, dσ, S, A, R, P⟩ => ⟨w, dσ, S, A, R, P.bindE R fun d S1 w1 H1 v e1 A1 r1 P1 => by
    cases (show d = v from r1)
    split at P1
    · rename_i hd
      rw [if_pos hd]
      exact ⟨w1, dσ, S1, A1, R.mono e1, P1⟩
    · rename_i hd
      rw [if_neg hd]
      exact ⟨w1, dσ, S1, A1, R.mono e1, P1⟩⟩
def mSet (i : Nat) (m : DSt → Store → Res D) (σ : DSt) (S : Store) : Res Fl := liftE (m σ S) σ fun d S1 => .ok (.nx (σ.set i (some d))) S1
theorem pms_set {i : Nat} {x : Str} {pos' : Pos} (hN : X.N.Nodup) (hi : X.N[i]? = some x) (hx : Loc X.env.scope x) (he : PM X W e m) (hs : swapsWith e (some (.Name x pos')) pos.line X.env = pure false := by rfl)
    (hf : X.fn x = true ∨ X.env.scope.names.lookup x = some .local := by first | exact .inl rfl | exact .inr rfl | assumption) : PMS X W (.Assign [.Name x pos'] e pos) (mSet i m) :=
  PS.imp (ps_set hN hi hx he hs hf) fun D σ H ⟨w, dσ, S, A, R, P⟩ => ⟨w, dσ, S, A, R, P.bindE R fun d S1 w1 H1 v e1 A1 r1 P1 => P1.nx A1 ((R.mono e1).set r1 i)⟩
end
end L3
namespace L3
open PySem PySem.Spec L2

/-! ### targets -/
def bindG {α β : Type} (r : Res α) (f : α → Store → Res β) : Res β := match r with
  | .ok a S => f a S
  | _ => .stuck
@[simp] theorem bindG_ok {α β : Type} (a : α) (S : Store) (f : α → Store → Res β) : bindG (.ok a S) f = f a S := (rfl)
@[simp] theorem bindG_stuck {α β : Type} (f : α → Store → Res β) : bindG (.stuck : Res α) f = .stuck := (rfl)
def PostG (K : PySem.W.Frag) (mg : Str → Option Value) (w : Wd) (H : Hp) (r : Res DSt) (Q : L2.St → Hp → Prop) : Prop := match r with
  | .ok dσ S => ∀ w' H' σ', Ex w H w' H' → Ab K w' H' mg S → RSt K w' H' dσ σ' → Q σ' H'
  | _ => False
def PostU (K : PySem.W.Frag) (mg : Str → Option Value) (w : Wd) (H : Hp) (r : Res Unit) (Q : Hp → Prop) : Prop := match r with
  | .ok _ S => ∀ w' H', Ex w H w' H' → Ab K w' H' mg S → Q H'
  | _ => False
section
variable {α β : Type} {K : PySem.W.Frag} {mg : Str → Option Value} {R : Wd → Hp → α → β → Prop} {W : XW} {σ : L2.St} {w w' : Wd} {H H' : Hp}
theorem PostG.ex {r : Res DSt} {Q : L2.St → Hp → Prop} (h : PostG K mg w H r Q) (e : Ex w H w' H') : PostG K mg w' H' r Q := by
  cases r with
  | ok a S => exact fun w2 H2 v e2 => h w2 H2 v (e.trans e2)
  | exc c fs S => exact h
  | stuck => exact h
theorem PostG.bind {r : Res α} {f : α → Store → Res DSt} {Q : L2.St → Hp → Prop} {Q' : β → Hp → Prop} (h : PostG K mg w H (bindG r f) Q)
    (k : ∀ a S1 w1 H1 v, Ex w H w1 H1 → Ab K w1 H1 mg S1 → R w1 H1 a v → PostG K mg w1 H1 (f a S1) Q → Q' v H1) : Post K mg R W σ w H r Q' := by
  cases r with
  | ok a S => exact fun w2 H2 v e2 A2 r2 => k a S w2 H2 v e2 A2 r2 (PostG.ex h e2)
  | exc c fs S => exact h.elim
  | stuck => exact h
theorem PostG.bindG {r : Res DSt} {f : DSt → Store → Res DSt} {Q Q' : L2.St → Hp → Prop} (h : PostG K mg w H (bindG r f) Q)
    (k : ∀ dσ S1 w1 H1 v, Ex w H w1 H1 → Ab K w1 H1 mg S1 → RSt K w1 H1 dσ v → PostG K mg w1 H1 (f dσ S1) Q → Q' v H1) : PostG K mg w H r Q' := by
  cases r with
  | ok a S => exact fun w2 H2 v e2 A2 r2 => k a S w2 H2 v e2 A2 r2 (PostG.ex h e2)
  | exc c fs S => exact h.elim
  | stuck => exact h
theorem PostG.bindU {r : Res Unit} {f : Unit → Store → Res DSt} {Q : L2.St → Hp → Prop} {Q' : Hp → Prop} (h : PostG K mg w H (L3.bindG r f) Q)
    (k : ∀ S1 w1 H1, Ex w H w1 H1 → Ab K w1 H1 mg S1 → PostG K mg w1 H1 (f () S1) Q → Q' H1) : PostU K mg w H r Q' := by
  cases r with
  | ok a S => exact fun w2 H2 e2 A2 => k S w2 H2 e2 A2 (PostG.ex h e2)
  | exc c fs S => exact h.elim
  | stuck => exact h
theorem PostG.fin {dσ : DSt} {S : Store} {Q : L2.St → Hp → Prop} (h : PostG K mg w H (.ok dσ S) Q) (A : Ab K w H mg S) (r : RSt K w H dσ σ) : Q σ H := h w H σ (Ex.refl _ _) A r
end
def tOfG (K : PySem.W.Frag) (mg : Str → Option Value) (m : D → DSt → Store → Res DSt) : TG := fun v σ H Q => ∃ w dσ S d, Ab K w H mg S ∧ RSt K w H dσ σ ∧ Rep K w H d v ∧ PostG K mg w H (m d dσ S) Q
def tOfGs (K : PySem.W.Frag) (mg : Str → Option Value) (m : List D → DSt → Store → Res DSt) : TGs := fun v σ H Q => ∃ w dσ S d, Ab K w H mg S ∧ RSt K w H dσ σ ∧ Reps K w H d v ∧ PostG K mg w H (m d dσ S) Q
abbrev PMG (X : Cx) (e : Expr) (m : D → DSt → Store → Res DSt) : Prop := PG X e (tOfG X.K X.mg m)
abbrev PMGs (X : Cx) (e : List Expr) (m : List D → DSt → Store → Res DSt) : Prop := PGs X e (tOfGs X.K X.mg m)
section
variable {X : Cx} {W : XW} {pos : Pos}
theorem PG.imp {e : Expr} {t t' : TG} (h : PG X e t) (k : ∀ v σ H Q, t' v σ H Q → t v σ H Q) : PG X e t' := ⟨fun pins s σ H v u Q I r q => h.run pins s σ H v u Q I r (k v σ H Q q)⟩
theorem PGs.imp {e : List Expr} {t t' : TGs} (h : PGs X e t) (k : ∀ v σ H Q, t' v σ H Q → t v σ H Q) : PGs X e t' := ⟨fun pins s σ H v u Q I r q => h.run pins s σ H v u Q I r (k v σ H Q q)⟩
def gtName (i : Nat) (d : D) (σ : DSt) (S : Store) : Res DSt := .ok (σ.set i (some d)) S
theorem pmg_name {i : Nat} {x : Str} (hN : X.N.Nodup) (hi : X.N[i]? = some x) (hx : Loc X.env.scope x) (hf : X.fn x = true ∨ X.env.scope.names.lookup x = some .local := by first | exact .inl rfl | exact .inr rfl | assumption) : PMG X (.Name x pos) (gtName i) :=
  PG.imp (pg_name hN hi hx hf) fun v σ H Q ⟨w, dσ, S, d, A, R, r, P⟩ => P.fin A (R.set r i)
def gtNil (ds : List D) (σ : DSt) (S : Store) : Res DSt := match ds with
  | [] => .ok σ S
  | _ => .stuck
def gtCons (f : D → DSt → Store → Res DSt) (g : List D → DSt → Store → Res DSt) (ds : List D) (σ : DSt) (S : Store) : Res DSt := match ds with
  | d :: r => bindG (f d σ S) fun σ1 S1 => g r σ1 S1
  | [] => .stuck
theorem pmgs_nil : PMGs X [] gtNil := PGs.imp pgs_nil fun v σ H Q ⟨w, dσ, S, d, A, R, r, P⟩ => by
  cases d with
  | nil => simp only [Reps] at r; exact ⟨r, P.fin A R⟩
  | cons d ds => exact P.elim
theorem pmgs_cons {e : Expr} {es : List Expr} {f : D → DSt → Store → Res DSt} {g : List D → DSt → Store → Res DSt} (h1 : PMG X e f) (h2 : PMGs X es g)
    (hs : (assignEach (e :: es) X.env).map (·.2) = assign e X.env :: (assignEach es X.env).map (·.2) := by rfl) : PMGs X (e :: es) (gtCons f g) :=
  PGs.imp (pgs_cons h1 h2 hs) fun v σ H Q ⟨w, dσ, S, d, A, R, r, P⟩ => by
    cases d with
    | nil => exact P.elim
    | cons d ds =>
      simp only [Reps] at r
      obtain ⟨v', r', rfl, r1, r2⟩ := r
      exact ⟨v', r', rfl, w, dσ, S, d, A, R, r1, PostG.bindG P fun dσ1 S1 w1 H1 σ1 e1 A1 R1 P1 => ⟨w1, dσ1, S1, ds, A1, R1, r2.mono e1, P1⟩⟩
def gtTup (n : Nat) (g : List D → DSt → Store → Res DSt) (d : D) (σ : DSt) (S : Store) : Res DSt := match rdT d with
  | some ds => if ds.length = n then g ds σ S else .stuck
  | none => .stuck
theorem pmg_tup {es : List Expr} {k : Nat} {g : List D → DSt → Store → Res DSt} {n : Nat} (hc : X.calm = true) (h : PMGs X es g)
    (hn : (assignEach es X.env).length = n := by rfl) (hst : (assignEach es X.env).findIdx? (·.1) = none := by rfl) : PMG X (.Tuple es k pos) (gtTup n g) :=
  PG.imp (pg_tup hc h hn hst) fun v σ H Q ⟨w, dσ, S, d, A, R, r, P⟩ => by
    unfold gtTup at P
    split at P
    · rename_i ds hd
      split at P
      · rename_i hl
        obtain ⟨a, vs, rfl, f, r'⟩ := rdT_rep hd r
        exact ⟨a, vs, rfl, f, by rw [← r'.length]; exact hl, w, dσ, S, ds, A, R, r', P⟩
      · exact P.elim
    · exact P.elim
/-- stores by values -/
def OpSet (X : Cx) (f : D → D → D → Store → Res Unit) : Prop := ∃ t, PSet X t ∧ ∀ w H S o i v vo vi vv Q, Ab X.K w H X.mg S → Rep X.K w H o vo → Rep X.K w H i vi → Rep X.K w H v vv → PostU X.K X.mg w H (f o i v S) Q → t vo vi vv H Q
theorem PSet.or {t t' : TSet} (h : PSet X t) (h' : PSet X t') : PSet X (fun o i v H Q => t o i v H Q ∨ t' o i v H Q) := by
  intro pins s σ H o i v ov iv u Q I r1 r2 r3 q
  rcases q with q | q
  · exact h pins s σ H o i v ov iv u Q I r1 r2 r3 q
  · exact h' pins s σ H o i v ov iv u Q I r1 r2 r3 q
theorem set_dict (hu : X.A.units + 1 < cLine) : PSet X (fun o i v H Q => ∃ a H4, o = .ref a ∧ DPut H a i v H4 ∧ Q H4) := by
  intro pins s σ H o i v ov iv u Q I r1 r2 r3 ⟨a, H4, e, g, q⟩
  subst e
  obtain rfl : ov = Value.ref a := r1
  exact d_setItem hu I g r2 r3 fun s' I' => ⟨H4, I', q⟩
def putD {κ : Type} [DecidableEq κ] (kvs : List (κ × D)) (k : κ) (v : D) : List (κ × D) := if (kvs.any fun kv => decide (kv.1 = k)) = true then kvs.map (fun kv => if kv.1 = k then (kv.1, v) else kv) else kvs ++ [(k, v)]
theorem RKv.any {κ : Type} [DecidableEq κ] (k : κ) {K : PySem.W.Frag} {w : Wd} {H : Hp} : ∀ {kvs : List (κ × D)} {vs : List (κ × V)}, RKv K w H kvs vs → (kvs.any fun kv => decide (kv.1 = k)) = vs.any fun kv => decide (kv.1 = k)
  | [], _, h => by simp only [RKv] at h; subst h; rfl
  | (j, d) :: kvs, _, h => by
    obtain ⟨v, r, rfl, h1, h2⟩ := h
    simp only [List.any_cons, RKv.any k h2]
theorem RKv.repl {κ : Type} [DecidableEq κ] (k : κ) {K : PySem.W.Frag} {w : Wd} {H : Hp} {d : D} {v : V} (r : Rep K w H d v) : ∀ {kvs : List (κ × D)} {vs : List (κ × V)}, RKv K w H kvs vs →
    RKv K w H (kvs.map fun kv => if kv.1 = k then (kv.1, d) else kv) (vs.map fun kv => if kv.1 = k then (kv.1, v) else kv)
  | [], _, h => by simp only [RKv] at h; subst h; rfl
  | (j, d') :: kvs, _, h => by
    obtain ⟨v', us, rfl, h1, h2⟩ := h
    simp only [List.map_cons]
    by_cases e : j = k
    · rw [if_pos e, if_pos e]
      exact ⟨_, _, rfl, r, RKv.repl k r h2⟩
    · rw [if_neg e, if_neg e]
      exact ⟨_, _, rfl, h1, RKv.repl k r h2⟩
theorem RKv.snoc {κ : Type} (k : κ) {K : PySem.W.Frag} {w : Wd} {H : Hp} {d : D} {v : V} (r : Rep K w H d v) : ∀ {kvs : List (κ × D)} {vs : List (κ × V)}, RKv K w H kvs vs → RKv K w H (kvs ++ [(k, d)]) (vs ++ [(k, v)])
  | [], _, h => by simp only [RKv] at h; subst h; exact ⟨_, _, rfl, r, rfl⟩
  | (j, d') :: kvs, _, h => by
    obtain ⟨v', us, rfl, h1, h2⟩ := h
    exact ⟨_, _, rfl, h1, RKv.snoc k r h2⟩
theorem RKv.put {κ : Type} [DecidableEq κ] (k : κ) {K : PySem.W.Frag} {w : Wd} {H : Hp} {d : D} {v : V} (r : Rep K w H d v) {kvs : List (κ × D)} {vs : List (κ × V)} (h : RKv K w H kvs vs) : RKv K w H (putD kvs k d) (putK vs k v) := by
  have e : putK vs k v = if (vs.any fun kv => decide (kv.1 = k)) = true then vs.map (fun kv => if kv.1 = k then (kv.1, v) else kv) else vs ++ [(k, v)] := rfl
  rw [e]
  unfold putD
  rw [RKv.any k h]
  split
  · exact RKv.repl k r h
  · exact RKv.snoc k r h
def setD (o i v : D) (S : Store) : Res Unit := match o with
  | .loc l => match S[l]? with
    | some (.lst ds) => match i with
      | .int k => match ixN ds.length k with
        | some j => .ok () (S.set l (.lst (ds.set j v)))
        | none => .stuck
      | _ => .stuck
    | some (.dK kvs) => match keyOf i with
      | some k => if kvs.length < sizeLine then .ok () (S.set l (.dK (putD kvs k v))) else .stuck
      | none => .stuck
    | some (.dT kvs) => match i with
      | .tup ks => match keysOf ks with
        | some k => if kvs.length < sizeLine then .ok () (S.set l (.dT (putD kvs k v))) else .stuck
        | none => .stuck
      | _ => .stuck
    | _ => .stuck
  | _ => .stuck
theorem os_set (hu : X.A.units + 1 < cLine) : OpSet X setD := by
  refine ⟨_, PSet.or set_list (set_dict hu), fun w H S o i v vo vi vv Q A ro ri rv P => ?_⟩
  unfold setD at P
  split at P
  · rename_i l
    simp only [Rep] at ro
    obtain ⟨a, el, rfl⟩ := ro
    have hmem : a ∈ w.M := List.mem_of_getElem? el
    split at P
    · rename_i ds q
      obtain ⟨u, eu, vs, rfl, r⟩ := A.ob l a _ el q
      split at P
      · split at P
        · rename_i k _ j hj
          exact .inl ⟨a, vs, k, j, rfl, rep_int ri, eu, by rw [← r.length]; exact hj, P w _ (Ex.wr hmem (nz_lst eu)) (A.wr el (nz_lst eu) ⟨_, rfl, r.set rv j⟩)⟩
        · exact P.elim
      · exact P.elim
    · rename_i kvs q
      obtain ⟨u, eu, vs, rfl, r⟩ := A.ob l a _ el q
      split at P
      · rename_i k hk
        split at P
        · rename_i hz
          refine .inr ⟨a, _, rfl, .inl ⟨vs, k, eu, keyOf_rep hk ri, by rw [← r.length]; exact hz, rfl⟩, P w _ (Ex.wr hmem (nz_dK eu)) (A.wr el (nz_dK eu) ⟨_, rfl, r.put k rv⟩)⟩
        · exact P.elim
      · exact P.elim
    · rename_i kvs q
      obtain ⟨u, eu, vs, rfl, r⟩ := A.ob l a _ el q
      split at P
      · split at P
        · rename_i ks _ k hk
          split at P
          · rename_i hz
            obtain ⟨b, us, rfl, f, r'⟩ := tup_rep ri
            have e2 := keysOf_rep hk r'
            subst e2
            refine .inr ⟨a, _, rfl, .inr ⟨vs, k, b, eu, rfl, f, by rw [← r.length]; exact hz, rfl⟩, P w _ (Ex.wr hmem (nz_dT eu)) (A.wr el (nz_dT eu) ⟨_, rfl, r.put k rv⟩)⟩
          · exact P.elim
        · exact P.elim
      · exact P.elim
    · exact P.elim
  · exact P.elim
def gtSub (mo mi : DSt → Store → Res D) (f : D → D → D → Store → Res Unit) (d : D) (σ : DSt) (S : Store) : Res DSt :=
  bindG (mo σ S) fun o S1 => bindG (mi σ S1) fun i S2 => bindG (f o i d S2) fun _ S3 => .ok σ S3
theorem pmg_sub {o i : Expr} {mo mi : DSt → Store → Res D} {f : D → D → D → Store → Res Unit} (ho : PM X W o mo) (hi : PM X W i mi) (hs : OpSet X f)
    (ha : ∀ v, assign (.Subscript o i pos) X.env v = (do
      let ov ← holding [v] (eval o X.env)
      let iv ← holding [v, ov] (eval i X.env)
      standAt pos
      holding [v, ov, iv] (setItem ov iv v)
      release [v, ov, iv] []) := by intro _; rfl) : PMG X (.Subscript o i pos) (gtSub mo mi f) := by
  obtain ⟨t, h1, h2⟩ := hs
  refine PG.imp (pg_sub ho hi h1 ha) fun v σ H Q ⟨w, dσ, S, d, A, R, r, P⟩ => ?_
  refine ⟨w, dσ, S, A, R, PostG.bind P fun od S1 w1 H1 x e1 A1 r1 P1 => ⟨w1, dσ, S1, A1, R.mono e1, PostG.bind P1 fun id S2 w2 H2 y e2 A2 r2 P2 => ?_⟩⟩
  refine h2 w2 H2 S2 od id d x y v _ A2 (r1.mono e2) r2 ((r.mono e1).mono e2) (PostG.bindU P2 fun S3 w3 H3 e3 A3 P3 => ?_)
  exact P3.fin A3 (((R.mono e1).mono e2).mono e3)
/-- target = value -/
def mAsg (m : DSt → Store → Res D) (g : D → DSt → Store → Res DSt) (σ : DSt) (S : Store) : Res Fl := liftE (m σ S) σ fun d S1 => bindG (g d σ S1) fun σ2 S2 => .ok (.nx σ2) S2
theorem PostS.bindG {K : PySem.W.Frag} {mg : Str → Option Value} {W : XW} {w : Wd} {H : Hp} {D : Ends} {r : Res DSt} {f : DSt → Store → Res Fl} {Q' : L2.St → Hp → Prop} (h : PostS K mg W w H (L3.bindG r f) D)
    (k : ∀ dσ S1 w1 H1 v, Ex w H w1 H1 → Ab K w1 H1 mg S1 → RSt K w1 H1 dσ v → PostS K mg W w1 H1 (f dσ S1) D → Q' v H1) : PostG K mg w H r Q' := by
  cases r with
  | ok a S => exact fun w2 H2 v e2 A2 r2 => k a S w2 H2 v e2 A2 r2 (PostS.ex h e2)
  | exc c fs S => exact h.elim
  | stuck => exact h
theorem pms_asg {tg e : Expr} {m : DSt → Store → Res D} {g : D → DSt → Store → Res DSt} (he : PM X W e m) (hg : PMG X tg g) (hs : swapsWithSole [tg] e pos.line X.env = pure false := by rfl) (hw : swappedStores [tg] e X.env = pure none := by rfl)
    (h1 : (assignEach [tg] X.env).map (·.2) = [assign tg X.env] := by rfl) : PMS X W (.Assign [tg] e pos) (mAsg m g) :=
  PS.imp (ps_asg he hg hs hw h1) fun D σ H ⟨w, dσ, S, A, R, P⟩ => ⟨w, dσ, S, A, R, P.bindE R fun d S1 w1 H1 v e1 A1 r1 P1 =>
    ⟨w1, dσ, S1, d, A1, R.mono e1, r1, PostS.bindG P1 fun dσ2 S2 w2 H2 σ2 e2 A2 R2 P2 => P2.nx A2 R2⟩⟩
/-- a, b = x, y -/
def mPar (i j : Nat) (ms : DSt → Store → Res (List D)) (σ : DSt) (S : Store) : Res Fl := liftE (ms σ S) σ fun ds S1 => match ds with
  | [a, b] => .ok (.nx ((σ.set i (some a)).set j (some b))) S1
  | _ => .stuck
theorem pms_par {i j : Nat} {x y : Str} {a b : Expr} {ms : DSt → Store → Res (List D)} {px py pt : Pos} {kt k2 pt2} (hc : X.calm = true) (hN : X.N.Nodup) (hi : X.N[i]? = some x) (hj : X.N[j]? = some y) (hij : i ≠ j)
    (hx : X.env.scope.names.lookup x = some .local) (hy : X.env.scope.names.lookup y = some .local) (ha : PMA X W [a, b] ms)
    (hw : swappedStores [.Tuple [.Name x px, .Name y py] kt pt] (.Tuple [a, b] k2 pt2) X.env = pure (some [x, y]))
    (hs : swapsWithSole [.Tuple [.Name x px, .Name y py] kt pt] (.Tuple [a, b] k2 pt2) pos.line X.env = pure false := by rfl) :
    PMS X W (.Assign [.Tuple [.Name x px, .Name y py] kt pt] (.Tuple [a, b] k2 pt2) pos) (mPar i j ms) :=
  PS.imp (ps_par hc hN hi hj hij hx hy ha hw hs) fun D σ H ⟨w, dσ, S, A, R, P⟩ => ⟨w, dσ, S, A, R, P.bindE R fun ds S1 w1 H1 vs e1 A1 r1 P1 => by
    split at P1
    · simp only [Reps] at r1
      obtain ⟨v1, u1, rfl, q1, v2, u2, rfl, q2, rfl⟩ := r1
      exact ⟨v1, v2, rfl, P1.nx A1 (((R.mono e1).set q1 i).set q2 j)⟩
    · exact P1.elim⟩
end

/-! ### while -/
/-- n turns at most -/
def whileN (c : DSt → Store → Res Bool) (b : DSt → Store → Res Fl) : Nat → DSt → Store → Option (Res Fl)
  | 0, _, _ => none
  | n + 1, σ, S => match c σ S with
    | .ok true S1 => match b σ S1 with
      | .ok (.nx σ2) S2 => whileN c b n σ2 S2
      | .ok (.ct σ2) S2 => whileN c b n σ2 S2
      | .ok (.bk σ2) S2 => some (.ok (.nx σ2) S2)
      | r => some r
    | .ok false S1 => some (.ok (.nx σ) S1)
    | .exc k fs S1 => some (.ok (.ex k fs σ) S1)
    | .stuck => some .stuck
open Classical in
noncomputable def mWhile (c : DSt → Store → Res Bool) (b : DSt → Store → Res Fl) (σ : DSt) (S : Store) : Res Fl :=
  if h : ∃ n r, whileN c b n σ S = some r then Classical.choose (Classical.choose_spec h) else .stuck
theorem whileN_mono {c : DSt → Store → Res Bool} {b : DSt → Store → Res Fl} : ∀ {n m : Nat} {σ : DSt} {S : Store} {r : Res Fl}, n ≤ m → whileN c b n σ S = some r → whileN c b m σ S = some r
  | 0, _, _, _, _, _, h => by simp [whileN] at h
  | n + 1, 0, _, _, _, h, _ => by omega
  | n + 1, m + 1, σ, S, r, hm, h => by
    simp only [whileN] at h ⊢
    split at h
    · split at h
      · exact whileN_mono (by omega) h
      · exact whileN_mono (by omega) h
      · exact h
      · exact h
    · exact h
    · exact h
    · exact h
theorem mWhile_of {c : DSt → Store → Res Bool} {b : DSt → Store → Res Fl} {n : Nat} {σ : DSt} {S : Store} {r : Res Fl} (h : whileN c b n σ S = some r) : mWhile c b σ S = r := by
  unfold mWhile
  have hx : ∃ n r, whileN c b n σ S = some r := ⟨n, r, h⟩
  rw [dif_pos hx]
  have h2 := Classical.choose_spec (Classical.choose_spec hx)
  generalize Classical.choose (Classical.choose_spec hx) = r' at h2
  generalize Classical.choose hx = n' at h2
  rcases Nat.le_total n n' with z | z
  · rw [whileN_mono z h] at h2
    exact (Option.some.inj h2).symm
  · rw [whileN_mono z h2] at h
    exact Option.some.inj h
section
variable {X : Cx} {W : XW} {pos : Pos}
theorem pms_while {c : Expr} {body : List Stmt} {mc : DSt → Store → Res Bool} {mb : DSt → Store → Res Fl} (hp : PassesOwn (model X.prog X.w) X.A X.env X.xe) (hc : PMT X W c mc) (hb : PMSs X W body mb) : PMS X W (.While c body [] pos) (mWhile mc mb) := by
  refine PS.imp (ps_while hp hc hb) fun D σ H ⟨w, dσ, S, A, R, P⟩ => ?_
  by_cases hx : ∃ n r, whileN mc mb n dσ S = some r
  · obtain ⟨n, r, hn⟩ := hx
    rw [mWhile_of hn] at P
    refine ⟨fun n σ H => ∃ w dσ S r, Ab X.K w H X.mg S ∧ RSt X.K w H dσ σ ∧ whileN mc mb n dσ S = some r ∧ PostS X.K X.mg W w H r D, ⟨n, w, dσ, S, r, A, R, hn, P⟩, ?_⟩
    rintro n σ H ⟨w, dσ, S, r, A, R, hn, P⟩
    cases n with
    | zero => simp [whileN] at hn
    | succ n =>
      refine ⟨w, dσ, S, A, R, ?_⟩
      simp only [whileN] at hn
      split at hn
      · rename_i S1 hc1
        rw [hc1]
        refine fun w1 H1 b e1 A1 hb1 => ?_
        cases (show true = b from hb1)
        rw [if_pos rfl]
        refine ⟨fun σ' H' => ∃ w dσ S r, Ab X.K w H' X.mg S ∧ RSt X.K w H' dσ σ' ∧ whileN mc mb n dσ S = some r ∧ PostS X.K X.mg W w H' r D, fun σ' H' h => ⟨n, by omega, h⟩, w1, dσ, S1, A1, R.mono e1, ?_⟩
        have P1 := P.ex e1
        split at hn
        · rename_i σ2 S2 hb2
          rw [hb2]
          exact fun w2 H2 σ2' e2 A2 R2 => ⟨w2, _, _, r, A2, R2, hn, P1.ex e2⟩
        · rename_i σ2 S2 hb2
          rw [hb2]
          exact fun w2 H2 σ2' e2 A2 R2 => ⟨w2, _, _, r, A2, R2, hn, P1.ex e2⟩
        · rename_i σ2 S2 hb2
          rw [hb2]
          cases hn
          exact P1
        · rename_i hn1 hn2 hn3
          have hr := Option.some.inj hn
          cases hq : mb dσ S1 with
          | ok fl S2 => cases fl with
            | nx σ2 => exact absurd hq (hn1 _ _)
            | ct σ2 => exact absurd hq (hn2 _ _)
            | bk σ2 => exact absurd hq (hn3 _ _)
            | rt d => rw [hq] at hr; subst hr; exact P1
            | ex k fs d => rw [hq] at hr; subst hr; exact P1
          | exc k fs S2 => rw [hq] at hr; subst hr; exact P1.elim
          | stuck => rw [hq] at hr; subst hr; exact P1.elim
      · rename_i S1 hc1
        rw [hc1]
        refine fun w1 H1 b e1 A1 hb1 => ?_
        cases (show false = b from hb1)
        rw [if_neg Bool.false_ne_true]
        cases hn
        exact (P.ex e1).nx A1 (R.mono e1)
      · rename_i k fs S1 hc1
        rw [hc1]
        cases hn
        exact fun w1 H1 C od e1 A1 g x => P w1 H1 σ C od e1 A1 (R.mono e1) g x
      · rename_i hc1
        cases hn
        exact P.elim
  · unfold mWhile at P
    rw [dif_neg hx] at P
    exact P.elim
end
end L3
namespace L3
open PySem PySem.Spec L2
open Classical

/-! ### what is walked -/
structure Src where
  items : List D
  guard : List (Nat × Ob)
def gOk (g : List (Nat × Ob)) (S : Store) : Prop := ∀ p ∈ g, S[p.1]? = some p.2
@[simp] theorem gOk_nil (S : Store) : gOk [] S = True := by simp [gOk]
@[simp] theorem gOk_cons (p : Nat × Ob) (g : List (Nat × Ob)) (S : Store) : gOk (p :: g) S = (S[p.1]? = some p.2 ∧ gOk g S) := by simp [gOk]
/-- later, maybe within a list that is being made -/
structure ExJ (w : Wd) (H : Hp) (w' : Wd) (H' : Hp) : Prop where
  pre : ∃ t, w'.M = w.M ++ t
  bn : ∀ b ∈ w'.B, b ∈ w.B ∨ H b = none
  keep : ∀ a u, H a = some u → a ∉ w.M → a ∉ w.B → H' a = some u ∧ a ∉ w'.M
  fz : ∀ a od u, H a = some (.frz od u) → H' a = some (.frz od u)
theorem Ex.j {w w' : Wd} {H H' : Hp} (e : Ex w H w' H') : ExJ w H w' H' := ⟨e.pre, fun b hb => .inl (by rw [← e.bk]; exact hb), fun a u h n _ => e.keep a u h n, e.fz⟩
section
variable {K : PySem.W.Frag} {mg : Str → Option Value} {w w' : Wd} {H H' : Hp} {S : Store}
theorem ExJ.get (e : ExJ w H w' H') {l : Nat} {a : Addr} (h : w.M[l]? = some a) : w'.M[l]? = some a := by
  obtain ⟨t, ht⟩ := e.pre
  rw [ht]
  obtain ⟨h1, h2⟩ := List.getElem?_eq_some_iff.mp h
  rw [List.getElem?_append_left h1]; exact h
theorem ExJ.at (e : ExJ w H w' H') {a : Addr} {u : HO} (n : a ∉ w.M) (b : a ∉ w.B) (h : H a = some u) : a ∉ w'.M ∧ a ∉ w'.B ∧ H' a = some u := by
  obtain ⟨h1, n1⟩ := e.keep a u h n b
  refine ⟨n1, fun z => ?_, h1⟩
  rcases e.bn a z with z | z
  · exact b z
  · rw [h] at z; cases z
theorem ExJ.rd (e : ExJ w H w' H') {a : Addr} {u : HO} (n : a ∉ w.M) (b : a ∉ w.B) (h : Rd H a u) : a ∉ w'.M ∧ a ∉ w'.B ∧ Rd H' a u := by
  rcases h with h | ⟨o, h⟩
  · obtain ⟨x, y, z⟩ := e.at n b h
    exact ⟨x, y, .inl z⟩
  · obtain ⟨x, y, z⟩ := e.at n b h
    exact ⟨x, y, .inr ⟨o, z⟩⟩
theorem Rep.monoJ (e : ExJ w H w' H') {d : D} {v : V} (h : Rep K w H d v) : Rep K w' H' d v :=
  h.gen (fun _ _ ⟨n, b, f⟩ => e.at n b f) (fun _ _ f => f.elim (fun ⟨n, b, f⟩ => .inl (e.rd n b f)) .inr) (fun _ _ ⟨n, b, f⟩ => e.at n b f) (fun _ _ f => f.by fun a u f n b => e.at n b f) (fun _ _ _ ⟨n, b, f⟩ => e.at n b f) fun _ _ => e.get
theorem Reps.monoJ (e : ExJ w H w' H') {d : List D} {v : List V} (h : Reps K w H d v) : Reps K w' H' d v :=
  h.gen (fun _ _ ⟨n, b, f⟩ => e.at n b f) (fun _ _ f => f.elim (fun ⟨n, b, f⟩ => .inl (e.rd n b f)) .inr) (fun _ _ ⟨n, b, f⟩ => e.at n b f) (fun _ _ f => f.by fun a u f n b => e.at n b f) (fun _ _ _ ⟨n, b, f⟩ => e.at n b f) fun _ _ => e.get
theorem RSt.monoJ (e : ExJ w H w' H') {ds : DSt} {vs : L2.St} (h : RSt K w H ds vs) : RSt K w' H' ds vs := h.gen fun _ _ r => r.monoJ e
theorem HoOk.monoJ (e : ExJ w H w' H') {o : Ob} {u : HO} (h : HoOk K w H mg o u) : HoOk K w' H' mg o u := h.gen (fun _ _ r => r.monoJ e) fun _ _ r => r.monoJ e
end
def JOk (K : PySem.W.Frag) (mg : Str → Option Value) (w : Wd) (H : Hp) (J : It) (src : Src) : Prop := ∀ w' H' S i, ExJ w H w' H' → Ab K w' H' mg S → gOk src.guard S →
  (∀ d, src.items[i]? = some d → J.go i H' ∧ ∀ x H2, J.yld i H' x H2 → ∃ w2, Ex w' H' w2 H2 ∧ Ab K w2 H2 mg S ∧ Rep K w2 H2 d x) ∧ (src.items.length ≤ i → J.stop i H')
def RI (K : PySem.W.Frag) (mg : Str → Option Value) (w : Wd) (H : Hp) (src : Src) (J : It) : Prop := JOk K mg w H J src ∧ src.items.length ≤ sizeLine
def tOfI (K : PySem.W.Frag) (mg : Str → Option Value) (W : XW) (m : DSt → Store → Res Src) : TI := fun σ H R => ∃ w dσ S, Ab K w H mg S ∧ RSt K w H dσ σ ∧ Post K mg (RI K mg) W σ w H (m dσ S) R
abbrev PMI (X : Cx) (W : XW) (tg e : Expr) (m : DSt → Store → Res Src) : Prop := PI X tg e (tOfI X.K X.mg W m)

/-! ### for -/
noncomputable def forGo (gd : List (Nat × Ob)) (g : D → DSt → Store → Res DSt) (b : DSt → Store → Res Fl) : List D → DSt → Store → Res Fl
  | [], σ, S => if gOk gd S then .ok (.nx σ) S else .stuck
  | d :: ds, σ, S => if gOk gd S then bindG (g d σ S) fun σ1 S1 => match b σ1 S1 with
    | .ok (.nx σ2) S2 => forGo gd g b ds σ2 S2
    | .ok (.ct σ2) S2 => forGo gd g b ds σ2 S2
    | .ok (.bk σ2) S2 => .ok (.nx σ2) S2
    | r => r
    else .stuck
noncomputable def mFor (mi : DSt → Store → Res Src) (g : D → DSt → Store → Res DSt) (b : DSt → Store → Res Fl) (σ : DSt) (S : Store) : Res Fl := liftE (mi σ S) σ fun src S1 => forGo src.guard g b src.items σ S1
section
variable {X : Cx} {W : XW} {pos : Pos}
theorem pms_for {tg iter : Expr} {body : List Stmt} {mi : DSt → Store → Res Src} {g : D → DSt → Store → Res DSt} {mb : DSt → Store → Res Fl} (hp : PassesOwn (model X.prog X.w) X.A X.env X.xe) (hc : X.calm = true) (hi : PMI X W tg iter mi) (hg : PMG X tg g) (hb : PMSs X W body mb)
    (hs : ∀ x, foldedSetIterable iter X.env x = pure x := by intro _; rfl) : PMS X W (.For tg iter body [] pos) (mFor mi g mb) := by
  refine PS.imp (ps_for hp hc hi hg hb hs) fun D σ H ⟨w, dσ, S, A, R, P⟩ => ⟨w, dσ, S, A, R, P.bindE R fun src S1 w1 H1 J e1 A1 rj P1 => ?_⟩
  obtain ⟨hJ, _⟩ := rj
  refine ⟨fun i m σ H => m = src.items.length - i ∧ i ≤ src.items.length ∧ ∃ w dσ S, Ex w1 H1 w H ∧ Ab X.K w H X.mg S ∧ RSt X.K w H dσ σ ∧ PostS X.K X.mg W w H (forGo src.guard g mb (src.items.drop i) dσ S) D,
    ⟨_, rfl, Nat.zero_le _, w1, dσ, S1, Ex.refl _ _, A1, R.mono e1, P1⟩, ?_⟩
  rintro i m σ H ⟨rfl, hi, w, dσ, S, ex, A, R, P⟩
  by_cases hlt : i < src.items.length
  · rw [List.drop_eq_getElem_cons hlt] at P
    simp only [forGo] at P
    split at P
    · rename_i hgd
      obtain ⟨go, yl⟩ := (hJ w H S i ex.j A hgd).1 src.items[i] (List.getElem?_eq_getElem hlt)
      refine .inr ⟨go, fun σ' H' => ∃ w dσ S, Ex w1 H1 w H' ∧ Ab X.K w H' X.mg S ∧ RSt X.K w H' dσ σ' ∧ PostS X.K X.mg W w H' (forGo src.guard g mb (src.items.drop (i + 1)) dσ S) D,
        fun σ' H' h => ⟨src.items.length - (i + 1), by omega, rfl, hlt, h⟩, fun x H' y => ?_⟩
      obtain ⟨w2, e2, A2, r2⟩ := yl x H' y
      have P2 := P.ex e2
      refine ⟨w2, dσ, S, src.items[i], A2, R.mono e2, r2, PostS.bindG P2 fun dσ3 S3 w3 H3 σ3 e3 A3 R3 P3 => ?_⟩
      refine ⟨w3, dσ3, S3, A3, R3, ?_⟩
      cases hq : mb dσ3 S3 with
      | ok fl S4 => cases fl with
        | nx σ4 => rw [hq] at P3; exact fun w5 H5 σ5 e5 A5 R5 => ⟨w5, σ4, S4, ((ex.trans e2).trans e3).trans e5, A5, R5, P3.ex e5⟩
        | ct σ4 => rw [hq] at P3; exact fun w5 H5 σ5 e5 A5 R5 => ⟨w5, σ4, S4, ((ex.trans e2).trans e3).trans e5, A5, R5, P3.ex e5⟩
        | bk σ4 => rw [hq] at P3; exact P3
        | rt d => rw [hq] at P3; exact P3
        | ex k fs d => rw [hq] at P3; exact P3
      | exc k fs S4 => rw [hq] at P3; exact P3.elim
      | stuck => rw [hq] at P3; exact P3.elim
    · exact P.elim
  · have e : i = src.items.length := by omega
    subst e
    rw [List.drop_length] at P
    simp only [forGo] at P
    split at P
    · rename_i hgd
      exact .inl ⟨(hJ w H S _ ex.j A hgd).2 (Nat.le_refl _), P.nx A R⟩
    · exact P.elim
end

/-! ### targets that store names alone -/
def FrS (σ σ' : L2.St) (is : List Nat) : Prop := σ'.length = σ.length ∧ ∀ j, j ∉ is → σ'[j]? = σ[j]?
theorem FrS.refl (σ : L2.St) : FrS σ σ [] := ⟨rfl, fun _ _ => rfl⟩
theorem FrS.trans {σ σ1 σ2 : L2.St} {is js : List Nat} (a : FrS σ σ1 is) (b : FrS σ1 σ2 js) : FrS σ σ2 (is ++ js) :=
  ⟨b.1.trans a.1, fun j hj => by
    simp only [List.mem_append, not_or] at hj
    exact (b.2 j hj.2).trans (a.2 j hj.1)⟩
def PostX (K : PySem.W.Frag) (mg : Str → Option Value) (is : List Nat) (σ : L2.St) (w : Wd) (H : Hp) (r : Res DSt) (Q : L2.St → Hp → Prop) : Prop := match r with
  | .ok dσ S => ∀ w' H' σ', Ex w H w' H' → Ab K w' H' mg S → RSt K w' H' dσ σ' → FrS σ σ' is → Q σ' H'
  | _ => False
def tOfX (K : PySem.W.Frag) (mg : Str → Option Value) (is : List Nat) (m : D → DSt → Store → Res DSt) : TG := fun v σ H Q => ∃ w dσ S d, Ab K w H mg S ∧ RSt K w H dσ σ ∧ Rep K w H d v ∧ PostX K mg is σ w H (m d dσ S) Q
def tOfXs (K : PySem.W.Frag) (mg : Str → Option Value) (is : List Nat) (m : List D → DSt → Store → Res DSt) : TGs := fun v σ H Q => ∃ w dσ S d, Ab K w H mg S ∧ RSt K w H dσ σ ∧ Reps K w H d v ∧ PostX K mg is σ w H (m d dσ S) Q
abbrev PMX (X : Cx) (is : List Nat) (e : Expr) (m : D → DSt → Store → Res DSt) : Prop := PG X e (tOfX X.K X.mg is m)
abbrev PMXs (X : Cx) (is : List Nat) (e : List Expr) (m : List D → DSt → Store → Res DSt) : Prop := PGs X e (tOfXs X.K X.mg is m)
section
variable {X : Cx} {pos : Pos}
theorem pmx_name {i : Nat} {x : Str} (hN : X.N.Nodup) (hi : X.N[i]? = some x) (hx : Loc X.env.scope x) (hf : X.fn x = true ∨ X.env.scope.names.lookup x = some .local := by first | exact .inl rfl | exact .inr rfl | assumption) : PMX X [i] (.Name x pos) (gtName i) :=
  PG.imp (pg_name hN hi hx hf) fun v σ H Q ⟨w, dσ, S, d, A, R, r, P⟩ => P w H _ (Ex.refl _ _) A (R.set r i) ⟨by simp, fun j hj => by
    simp only [List.mem_singleton] at hj
    rw [List.getElem?_set_ne (Ne.symm hj)]⟩
theorem pmxs_nil : PMXs X [] [] gtNil := PGs.imp pgs_nil fun v σ H Q ⟨w, dσ, S, d, A, R, r, P⟩ => by
  cases d with
  | nil => simp only [Reps] at r; exact ⟨r, P w H σ (Ex.refl _ _) A R (FrS.refl σ)⟩
  | cons d ds => exact P.elim
theorem pmxs_cons {e : Expr} {es : List Expr} {is js : List Nat} {f : D → DSt → Store → Res DSt} {g : List D → DSt → Store → Res DSt} (h1 : PMX X is e f) (h2 : PMXs X js es g)
    (hs : (assignEach (e :: es) X.env).map (·.2) = assign e X.env :: (assignEach es X.env).map (·.2) := by rfl) : PMXs X (is ++ js) (e :: es) (gtCons f g) :=
  PGs.imp (pgs_cons h1 h2 hs) fun v σ H Q ⟨w, dσ, S, d, A, R, r, P⟩ => by
    cases d with
    | nil => exact P.elim
    | cons d ds =>
      simp only [Reps] at r
      obtain ⟨v', r', rfl, r1, r2⟩ := r
      refine ⟨v', r', rfl, w, dσ, S, d, A, R, r1, ?_⟩
      simp only [gtCons] at P
      cases hq : f d dσ S with
      | ok dσ1 S1 =>
        rw [hq] at P
        refine fun w1 H1 σ1 e1 A1 R1 F1 => ⟨w1, dσ1, S1, ds, A1, R1, r2.mono e1, ?_⟩
        simp only [bindG_ok] at P
        cases hq2 : g ds dσ1 S1 with
        | ok dσ2 S2 =>
          rw [hq2] at P
          exact fun w2 H2 σ2 e2 A2 R2 F2 => P w2 H2 σ2 (e1.trans e2) A2 R2 (F1.trans F2)
        | exc _ _ _ => rw [hq2] at P; exact P.elim
        | stuck => rw [hq2] at P; exact P.elim
      | exc _ _ _ => rw [hq] at P; exact P.elim
      | stuck => rw [hq] at P; exact P.elim
theorem pmx_tup {es : List Expr} {k : Nat} {is : List Nat} {g : List D → DSt → Store → Res DSt} {n : Nat} (hc : X.calm = true) (h : PMXs X is es g)
    (hn : (assignEach es X.env).length = n := by rfl) (hst : (assignEach es X.env).findIdx? (·.1) = none := by rfl) : PMX X is (.Tuple es k pos) (gtTup n g) :=
  PG.imp (pg_tup hc h hn hst) fun v σ H Q ⟨w, dσ, S, d, A, R, r, P⟩ => by
    unfold gtTup at P
    split at P
    · rename_i ds hd
      split at P
      · rename_i hl
        obtain ⟨a, vs, rfl, f, r'⟩ := rdT_rep hd r
        exact ⟨a, vs, rfl, f, by rw [← r'.length]; exact hl, w, dσ, S, ds, A, R, r', P⟩
      · exact P.elim
    · exact P.elim
end

/-! ### list comprehensions -/
/-- the slots of the block's own names -/
def dwipe (σ : DSt) : List Nat → DSt
  | [] => σ
  | v :: vs => (dwipe σ vs).set v none
theorem dwipe_rep {K : PySem.W.Frag} {w : Wd} {H : Hp} {dσ : DSt} {σ : L2.St} (R : RSt K w H dσ σ) : ∀ vs : List Nat, RSt K w H (dwipe dσ vs) (wipe σ vs)
  | [] => R
  | v :: vs => by
    have ih := dwipe_rep R vs
    unfold dwipe wipe
    refine ⟨by simpa using ih.1, fun j d hj => ?_⟩
    by_cases z : v = j
    · subst z
      by_cases hl : v < (dwipe dσ vs).length
      · rw [List.getElem?_set_self hl] at hj; cases hj
      · rw [List.getElem?_eq_none (by simpa using hl)] at hj; cases hj
    · rw [List.getElem?_set_ne z] at hj ⊢
      exact ih.2 j d hj
theorem wipe_len (σ : L2.St) (vs : List Nat) : (wipe σ vs).length = σ.length := wipe_length σ vs
theorem wipe_get (σ : L2.St) : ∀ (vs : List Nat) (j : Nat), (wipe σ vs)[j]? = if j ∈ vs ∧ j < σ.length then some none else σ[j]?
  | [], j => by simp [wipe]
  | v :: vs, j => by
    unfold wipe
    have ih := wipe_get σ vs j
    by_cases z : v = j
    · subst z
      by_cases hl : v < σ.length
      · rw [List.getElem?_set_self (by rw [wipe_len]; exact hl), if_pos ⟨List.mem_cons_self, hl⟩]
      · rw [List.getElem?_eq_none (by rw [List.length_set, wipe_len]; omega), if_neg (fun q => hl q.2), List.getElem?_eq_none (by omega)]
    · rw [List.getElem?_set_ne z, ih]
      have : (j ∈ v :: vs) ↔ j ∈ vs := by
        constructor
        · intro h
          rcases List.mem_cons.mp h with e | h
          · exact absurd e.symm z
          · exact h
        · exact List.mem_cons_of_mem _
      simp only [this]
theorem wipe_fr {σ σ2 : L2.St} {vs is : List Nat} (h : FrS (wipe σ vs) σ2 is) (hs : ∀ i ∈ is, i ∈ vs) : wipe σ2 vs = wipe σ vs := by
  have hlen : σ2.length = σ.length := by rw [h.1, wipe_len]
  refine List.ext_getElem? fun j => ?_
  rw [wipe_get, wipe_get, hlen]
  by_cases c : j ∈ vs ∧ j < σ.length
  · rw [if_pos c, if_pos c]
  · rw [if_neg c, if_neg c]
    by_cases hj : j ∈ vs
    · have : ¬ j < σ.length := fun z => c ⟨hj, z⟩
      rw [List.getElem?_eq_none (by omega), List.getElem?_eq_none (by omega)]
    · rw [h.2 j (fun z => hj (hs j z)), wipe_get, if_neg c]
abbrev W0 : XW := fun _ _ _ _ => False
noncomputable def lcGo (gd : List (Nat × Ob)) (g : D → DSt → Store → Res DSt) (t : DSt → Store → Res Bool) (e : DSt → Store → Res D) (σ : DSt) : List D → Store → Res (List D)
  | [], S => if gOk gd S then .ok [] S else .stuck
  | d :: ds, S => if gOk gd S then bindG (g d σ S) fun σ1 S1 => bindG (t σ1 S1) fun k S2 =>
      if k = true then bindG (e σ1 S2) fun y S3 => bindG (lcGo gd g t e σ ds S3) fun ys S4 => .ok (y :: ys) S4
      else lcGo gd g t e σ ds S2
    else .stuck
noncomputable def mLc (mi : DSt → Store → Res Src) (g : D → DSt → Store → Res DSt) (t : DSt → Store → Res Bool) (e : DSt → Store → Res D) (vs : List Nat) (σ : DSt) (S : Store) : Res D :=
  (mi σ S).bind fun src S1 => bindG (lcGo src.guard g t e (dwipe σ vs) src.items S1) fun ys S2 => .ok (.lst ys) S2
/-- the list will be changed -/
noncomputable def mLcM (mi : DSt → Store → Res Src) (g : D → DSt → Store → Res DSt) (t : DSt → Store → Res Bool) (e : DSt → Store → Res D) (vs : List Nat) (σ : DSt) (S : Store) : Res D :=
  (mi σ S).bind fun src S1 => bindG (lcGo src.guard g t e (dwipe σ vs) src.items S1) fun ys S2 => .ok (.loc S2.length) (S2 ++ [.lst ys])
/-- the state within the making of the list at p -/
structure Mk (w1 : Wd) (H1 : Hp) (p : Addr) (w : Wd) (H : Hp) : Prop where
  pre : ∃ t, w.M = w1.M ++ t
  bk : w.B = p :: w1.B
  keep : ∀ a u, H1 a = some u → a ∉ w1.M → H a = some u ∧ a ∉ w.M
  fz : ∀ a od u, H1 a = some (.frz od u) → H a = some (.frz od u)
section
variable {K : PySem.W.Frag} {mg : Str → Option Value} {w1 w w' : Wd} {H1 H H' : Hp} {p : Addr} {S : Store}
theorem Mk.j (m : L3.Mk w1 H1 p w H) (hp : H1 p = none) : ExJ w1 H1 w H := ⟨m.pre, fun b hb => by
  rw [m.bk] at hb
  rcases List.mem_cons.mp hb with rfl | hb
  · exact .inr hp
  · exact .inl hb, fun a u h n _ => m.keep a u h n, m.fz⟩
theorem Mk.step (m : L3.Mk w1 H1 p w H) (e : Ex w H w' H') : L3.Mk w1 H1 p w' H' := by
  obtain ⟨t, ht⟩ := m.pre
  obtain ⟨t', ht'⟩ := e.pre
  exact ⟨⟨t ++ t', by rw [ht', ht, List.append_assoc]⟩, e.bk.trans m.bk, fun a u h n => let ⟨h1, n1⟩ := m.keep a u h n; e.keep a u h1 n1, fun a od u h => e.fz a od u (m.fz a od u h)⟩
theorem Mk.wr (m : L3.Mk w1 H1 p w H) (hp : H1 p = none) (o : HO) : L3.Mk w1 H1 p w (upd H p o) :=
  ⟨m.pre, m.bk, fun a u h n => let ⟨h1, n1⟩ := m.keep a u h n; ⟨by rw [upd_ne (ne_new h hp)]; exact h1, n1⟩, fun a od u h => by rw [upd_ne (ne_new h hp)]; exact m.fz a od u h⟩
theorem Mk.fin (m : L3.Mk w1 H1 p w H) : Ex w1 H1 ⟨w.M, w1.B⟩ H := ⟨m.pre, rfl, m.keep, m.fz⟩
/-- writing the list that is made -/
theorem Rep.wrB (hb : p ∈ w.B) {o : HO} {d : D} {v : V} (h : Rep K w H d v) : Rep K w (upd H p o) d v := by
  have ne : ∀ {a : Addr}, a ∉ w.B → a ≠ p := fun n z => n (by rw [z]; exact hb)
  refine h.gen (fun a xs ⟨n, b, f⟩ => ⟨n, b, by rw [upd_ne (ne b)]; exact f⟩) (fun a xs f => ?_) (fun a xs ⟨n, b, f⟩ => ⟨n, b, by rw [upd_ne (ne b)]; exact f⟩) (fun a xs f => f.by fun a u f n b => ⟨n, b, by rw [upd_ne (ne b)]; exact f⟩) (fun a _ _ ⟨n, b, f⟩ => ⟨n, b, by rw [upd_ne (ne b)]; exact f⟩) fun _ _ q => q
  rcases f with ⟨n, b, f | ⟨o', f⟩⟩ | f
  · exact .inl ⟨n, b, .inl (by rw [upd_ne (ne b)]; exact f)⟩
  · exact .inl ⟨n, b, .inr ⟨o', by rw [upd_ne (ne b)]; exact f⟩⟩
  · exact .inr f
theorem Reps.wrB (hb : p ∈ w.B) {o : HO} : ∀ {d : List D} {v : List V}, Reps K w H d v → Reps K w (upd H p o) d v
  | [], _, h => by simpa only [Reps] using h
  | d :: ds, _, h => by
    simp only [Reps] at h
    obtain ⟨v, r, rfl, h1, h2⟩ := h
    exact .cons (h1.wrB hb) (Reps.wrB hb h2)
theorem Ab.wrB (A : Ab K w H mg S) (hb : p ∈ w.B) (xs : List V) : Ab K w (upd H p (.lst xs)) mg S := by
  have np := A.bm p hb
  refine ⟨A.len, A.nd, A.bm, fun a ha => ?_, fun l a ob h1 h2 => ?_⟩
  · by_cases z : a = p
    · subst z; exact ⟨xs, upd_same⟩
    · rw [upd_ne z]; exact A.bt a ha
  · obtain ⟨u, e, k⟩ := A.ob l a ob h1 h2
    refine ⟨u, by rw [upd_ne (fun z => np (by rw [← z]; exact List.mem_of_getElem? h1))]; exact e, k.gen (fun _ _ r => r.wrB hb) fun _ _ r => r.wrB hb⟩
theorem Ab.inB (A : Ab K w H mg S) (hp : H p = none) (xs : List V) : Ab K ⟨w.M, p :: w.B⟩ (upd H p (.lst xs)) mg S ∧ L3.Mk w H p ⟨w.M, p :: w.B⟩ (upd H p (.lst xs)) := by
  have m : L3.Mk w H p ⟨w.M, p :: w.B⟩ (upd H p (.lst xs)) := ⟨⟨[], by simp⟩, rfl, fun a u h n => ⟨by rw [upd_ne (ne_new h hp)]; exact h, n⟩, fun a od u h => by rw [upd_ne (ne_new h hp)]; exact h⟩
  refine ⟨⟨A.len, A.nd, fun a ha => ?_, fun a ha => ?_, fun l a ob h1 h2 => ?_⟩, m⟩
  · rcases List.mem_cons.mp ha with rfl | ha
    · exact A.new hp
    · exact A.bm a ha
  · rcases List.mem_cons.mp ha with rfl | ha
    · exact ⟨xs, upd_same⟩
    · obtain ⟨u, e⟩ := A.bt a ha
      exact ⟨u, by rw [upd_ne (ne_new e hp)]; exact e⟩
  · obtain ⟨u, e, k⟩ := A.ob l a ob h1 h2
    exact ⟨u, by rw [upd_ne (ne_new e hp)]; exact e, k.monoJ (m.j hp)⟩
theorem Rep.outB {M B : List Addr} {d : D} {v : V} (h : Rep K ⟨M, p :: B⟩ H d v) : Rep K ⟨M, B⟩ H d v :=
  Rep.gen (w := ⟨M, p :: B⟩) (w' := ⟨M, B⟩) (fun a xs ⟨n, b, f⟩ => ⟨n, fun z => b (List.mem_cons_of_mem _ z), f⟩) (fun a xs f => f.elim (fun ⟨n, b, f⟩ => .inl ⟨n, fun z => b (List.mem_cons_of_mem _ z), f⟩) .inr) (fun a xs ⟨n, b, f⟩ => ⟨n, fun z => b (List.mem_cons_of_mem _ z), f⟩) (fun a xs f => PlT.by (w := ⟨M, p :: B⟩) (w' := ⟨M, B⟩) (fun a u f n b => ⟨n, fun z => b (List.mem_cons_of_mem _ z), f⟩) f) (fun _ _ _ ⟨n, b, f⟩ => ⟨n, fun z => b (List.mem_cons_of_mem _ z), f⟩) (fun _ _ q => q) h
theorem Reps.outB {M B : List Addr} : ∀ {d : List D} {v : List V}, Reps K ⟨M, p :: B⟩ H d v → Reps K ⟨M, B⟩ H d v
  | [], _, h => by simpa only [Reps] using h
  | d :: ds, _, h => by
    simp only [Reps] at h
    obtain ⟨v, r, rfl, h1, h2⟩ := h
    exact .cons h1.outB (Reps.outB h2)
theorem Ab.outB {M B : List Addr} (A : Ab K ⟨M, p :: B⟩ H mg S) : Ab K ⟨M, B⟩ H mg S :=
  ⟨A.len, A.nd, fun a ha => A.bm a (List.mem_cons_of_mem _ ha), fun a ha => A.bt a (List.mem_cons_of_mem _ ha), fun l a ob h1 h2 => let ⟨u, e, k⟩ := A.ob l a ob h1 h2; ⟨u, e, k.gen (fun _ _ r => r.outB) fun _ _ r => r.outB⟩⟩
/-- the made list becomes a mutable object -/
theorem Rep.toM {M B : List Addr} {d : D} {v : V} (h : Rep K ⟨M, p :: B⟩ H d v) : Rep K ⟨M ++ [p], B⟩ H d v := by
  have q : ∀ {a : Addr}, a ∉ M → a ∉ p :: B → a ∉ M ++ [p] ∧ a ∉ B := fun n b =>
    ⟨fun z => by
      rcases List.mem_append.mp z with z | z
      · exact n z
      · simp only [List.mem_singleton] at z
        exact b (by rw [z]; exact List.mem_cons_self), fun z => b (List.mem_cons_of_mem _ z)⟩
  refine h.gen (fun a xs ⟨n, b, f⟩ => ⟨(q n b).1, (q n b).2, f⟩) (fun a xs f => f.elim (fun ⟨n, b, f⟩ => .inl ⟨(q n b).1, (q n b).2, f⟩) .inr) (fun a xs ⟨n, b, f⟩ => ⟨(q n b).1, (q n b).2, f⟩) (fun a xs f => f.by fun a u f n b => ⟨(q n b).1, (q n b).2, f⟩) (fun a f i ⟨n, b, e⟩ => show FzE ⟨M ++ [p], B⟩ H a f i from ⟨(q n b).1, (q n b).2, e⟩) fun l a e => ?_
  have e' : M[l]? = some a := e
  obtain ⟨h1, h2⟩ := List.getElem?_eq_some_iff.mp e'
  show (M ++ [p])[l]? = some a
  rw [List.getElem?_append_left h1]; exact e'
theorem Reps.toM {M B : List Addr} : ∀ {d : List D} {v : List V}, Reps K ⟨M, p :: B⟩ H d v → Reps K ⟨M ++ [p], B⟩ H d v
  | [], _, h => by simpa only [Reps] using h
  | d :: ds, _, h => by
    simp only [Reps] at h
    obtain ⟨v, r, rfl, h1, h2⟩ := h
    exact .cons h1.toM (Reps.toM h2)
theorem Ab.toM {M B : List Addr} {ds : List D} {vs : List V} (A : Ab K ⟨M, p :: B⟩ H mg S) (hB : p ∉ B) (e : H p = some (.lst vs)) (r : Reps K ⟨M, p :: B⟩ H ds vs) : Ab K ⟨M ++ [p], B⟩ H mg (S ++ [.lst ds]) := by
  have hlen : M.length = S.length := A.len
  have np : p ∉ M := A.bm p List.mem_cons_self
  refine ⟨by simp [hlen], ?_, fun a ha hm => ?_, fun a ha => A.bt a (List.mem_cons_of_mem _ ha), fun l a ob h1 h2 => ?_⟩
  · show (M ++ [p]).Nodup
    rw [List.nodup_append]
    exact ⟨A.nd, by simp, fun a ha b hb => by simp only [List.mem_singleton] at hb; subst hb; exact fun z => np (z ▸ ha)⟩
  · rcases List.mem_append.mp hm with z | z
    · exact A.bm a (List.mem_cons_of_mem _ ha) z
    · simp only [List.mem_singleton] at z; exact hB (z ▸ ha)
  · have h1 : (M ++ [p])[l]? = some a := h1
    by_cases hl : l < S.length
    · rw [List.getElem?_append_left hl] at h2
      rw [List.getElem?_append_left (by omega)] at h1
      obtain ⟨u, e', k⟩ := A.ob l a ob h1 h2
      exact ⟨u, e', k.gen (fun _ _ r => r.toM) fun _ _ r => r.toM⟩
    · rw [List.getElem?_append_right (by omega)] at h1 h2
      rw [hlen] at h1
      have h0 : l - S.length = 0 := by
        cases hq : l - S.length with
        | zero => rfl
        | succ n => rw [hq] at h2; simp at h2
      rw [h0] at h1 h2
      simp at h1 h2
      subst h1 h2
      exact ⟨_, e, vs, rfl, r.toM⟩
end
section
variable {X : Cx} {W : XW} {pos : Pos}
/-- both forms: what follows the block is told of the made list at p -/
theorem lc_imp {g : D → DSt → Store → Res DSt} {t : DSt → Store → Res Bool} {e : DSt → Store → Res D} {vs is : List Nat} (hs : ∀ i ∈ is, i ∈ vs) {σ : L2.St} {H : Hp} {Q : VK} {fin : List D → Store → Res D}
    (hfin : ∀ {w1 H1 p w S ys vs'}, Ab X.K w1 H1 X.mg S → w1.B = p :: w.B → H p = none → p ∉ w.B → H1 p = some (.lst vs') → Reps X.K w1 H1 ys vs' → Ex w H ⟨w1.M, w.B⟩ H1 → Post X.K X.mg (Rep X.K) W σ w H (fin ys S) Q → Q (.ref p) H1)
    {w : Wd} {dσ : DSt} {S : Store} (A : Ab X.K w H X.mg S) (R : RSt X.K w H dσ σ) {src : Src} {J : It} (hJ : JOk X.K X.mg w H J src) (hz : src.items.length ≤ sizeLine)
    (P : Post X.K X.mg (Rep X.K) W σ w H (bindG (lcGo src.guard g t e (dwipe dσ vs) src.items S) fin) Q) :
    ∀ p, H p = none → ∃ W' : Nat → Nat → Hp → Prop, (∃ m, W' 0 m (upd H p (.lst []))) ∧ ∀ i m H, W' i m H →
      (J.stop i H ∧ Q (.ref p) H) ∨ (J.go i H ∧ ∃ Nx : Hp → Prop, (∀ H', Nx H' → ∃ m', m' < m ∧ W' (i + 1) m' H') ∧ ∀ x H', J.yld i H x H' → tOfX X.K X.mg is g x (wipe σ vs) H' fun σ2 H2 => wipe σ2 vs = wipe σ vs ∧ tOfT X.K X.mg W0 t σ2 H2 fun b H3 =>
        if b = true then tOf X.K X.mg W0 e σ2 H3 fun y H4 => ∃ acc, H4 p = some (.lst acc) ∧ acc.length < sizeLine ∧ Nx (upd H4 p (.lst (acc ++ [y]))) else Nx H3) := by
  intro p hp
  have pB := A.newB hp
  obtain ⟨A0, m0⟩ := A.inB hp []
  have R0 := dwipe_rep R vs
  -- the invariant
  refine ⟨fun i m H2 => m = src.items.length - i ∧ i ≤ src.items.length ∧ ∃ w2 S2 ys vs', Ab X.K w2 H2 X.mg S2 ∧ L3.Mk w H p w2 H2 ∧ H2 p = some (.lst vs') ∧ Reps X.K w2 H2 ys vs' ∧ vs'.length ≤ i ∧
      Post X.K X.mg (Rep X.K) W σ w H (bindG (lcGo src.guard g t e (dwipe dσ vs) (src.items.drop i) S2) fun zs S3 => fin (ys ++ zs) S3) Q,
    ⟨_, rfl, Nat.zero_le _, _, S, [], [], A0, m0, upd_same, .nil, Nat.le_refl _, P⟩, ?_⟩
  rintro i m H2 ⟨rfl, hi, w2, S2, ys, vs', A2, m2, e2, r2, hl, P2⟩
  by_cases hlt : i < src.items.length
  · rw [List.drop_eq_getElem_cons hlt] at P2
    simp only [lcGo] at P2
    split at P2
    · rename_i hgd
      obtain ⟨go, yl⟩ := (hJ w2 H2 S2 i (m2.j hp) A2 hgd).1 src.items[i] (List.getElem?_eq_getElem hlt)
      refine .inr ⟨go, fun H3 => ∃ w3 S3 ys vs', Ab X.K w3 H3 X.mg S3 ∧ L3.Mk w H p w3 H3 ∧ H3 p = some (.lst vs') ∧ Reps X.K w3 H3 ys vs' ∧ vs'.length ≤ i + 1 ∧
        Post X.K X.mg (Rep X.K) W σ w H (bindG (lcGo src.guard g t e (dwipe dσ vs) (src.items.drop (i + 1)) S3) fun zs S3 => fin (ys ++ zs) S3) Q,
        fun H' h => ⟨src.items.length - (i + 1), by omega, rfl, hlt, h⟩, fun x H' y => ?_⟩
      obtain ⟨w3, e3, A3, r3⟩ := yl x H' y
      have m3 := m2.step e3
      refine ⟨w3, dwipe dσ vs, S2, src.items[i], A3, R0.monoJ (m3.j hp), r3, ?_⟩
      cases hq : g src.items[i] (dwipe dσ vs) S2 with
      | exc _ _ _ => rw [hq] at P2; exact P2.elim
      | stuck => rw [hq] at P2; exact P2.elim
      | ok dσ4 S4 =>
      rw [hq] at P2
      simp only [bindG_ok] at P2
      refine fun w4 H4 σ4 e4 A4 R4 F4 => ⟨wipe_fr F4 hs, w4, dσ4, S4, A4, R4, ?_⟩
      cases hq5 : t dσ4 S4 with
      | exc _ _ _ => rw [hq5] at P2; exact P2.elim
      | stuck => rw [hq5] at P2; exact P2.elim
      | ok k S5 =>
      rw [hq5] at P2
      simp only [bindG_ok] at P2
      refine fun w5 H5 k' e5 A5 hk => ?_
      cases (show k = k' from hk)
      have m5 := (m3.step e4).step e5
      have b2 : p ∉ w2.M := A2.bm p (by rw [m2.bk]; exact List.mem_cons_self)
      have at5 := ((e3.trans e4).trans e5).keep p _ e2 b2
      have r5 := ((r2.mono e3).mono e4).mono e5
      cases k with
      | false =>
        rw [if_neg Bool.false_ne_true] at P2 ⊢
        exact ⟨w5, S5, ys, vs', A5, m5, at5.1, r5, Nat.le_succ_of_le hl, P2⟩
      | true =>
        rw [if_pos rfl] at P2 ⊢
        refine ⟨w5, dσ4, S5, A5, R4.mono e5, ?_⟩
        cases hq6 : e dσ4 S5 with
        | exc _ _ _ => rw [hq6] at P2; exact P2.elim
        | stuck => rw [hq6] at P2; exact P2.elim
        | ok d S6 =>
        rw [hq6] at P2
        simp only [bindG_ok] at P2
        refine fun w6 H6 v e6 A6 r6 => ?_
        have m6 := m5.step e6
        have at6 := e6.keep p _ at5.1 at5.2
        have hb6 : p ∈ w6.B := by rw [m6.bk]; exact List.mem_cons_self
        refine ⟨vs', at6.1, by omega, w6, S6, ys ++ [d], vs' ++ [v], A6.wrB hb6 _, m6.wr hp _, upd_same, ((r5.mono e6).append (.cons r6 .nil)).wrB hb6, by simp; omega, ?_⟩
        cases hq7 : lcGo src.guard g t e (dwipe dσ vs) (src.items.drop (i + 1)) S6 with
        | exc _ _ _ => rw [hq7] at P2; exact P2.elim
        | stuck => rw [hq7] at P2; exact P2.elim
        | ok zs S7 =>
          rw [hq7] at P2
          simp only [bindG_ok, List.append_assoc, List.singleton_append] at P2 ⊢
          exact P2
    · exact P2.elim
  · have ei : i = src.items.length := by omega
    subst ei
    rw [List.drop_length] at P2
    simp only [lcGo] at P2
    split at P2
    · rename_i hgd
      simp only [bindG_ok, List.append_nil] at P2
      exact .inl ⟨(hJ w2 H2 S2 _ (m2.j hp) A2 hgd).2 (Nat.le_refl _), hfin A2 m2.bk hp pB e2 r2 m2.fin P2⟩
    · exact P2.elim
theorem fin_lst {σ : L2.St} {w1 : Wd} {H1 : Hp} {p : Addr} {w : Wd} {H : Hp} {S : Store} {ys : List D} {vs' : List V} {Q : VK} (A : Ab X.K w1 H1 X.mg S) (hb : w1.B = p :: w.B) (hpB : p ∉ w.B) (e : H1 p = some (.lst vs')) (r : Reps X.K w1 H1 ys vs') (ex : Ex w H ⟨w1.M, w.B⟩ H1)
    (P : Post X.K X.mg (Rep X.K) W σ w H (.ok (.lst ys) S) Q) : Q (.ref p) H1 := by
  obtain ⟨M, B⟩ := w1
  simp only at hb
  subst hb
  refine P ⟨M, w.B⟩ H1 _ ex A.outB ?_
  simp only [Rep]
  exact ⟨p, vs', rfl, ⟨A.bm p List.mem_cons_self, hpB, e⟩, r.outB⟩
theorem fin_lstM {σ : L2.St} {w1 : Wd} {H1 : Hp} {p : Addr} {w : Wd} {H : Hp} {S : Store} {ys : List D} {vs' : List V} {Q : VK} (A : Ab X.K w1 H1 X.mg S) (hb : w1.B = p :: w.B) (hpB : p ∉ w.B) (hpH : H p = none) (e : H1 p = some (.lst vs')) (r : Reps X.K w1 H1 ys vs') (ex : Ex w H ⟨w1.M, w.B⟩ H1)
    (P : Post X.K X.mg (Rep X.K) W σ w H (.ok (.loc S.length) (S ++ [.lst ys])) Q) : Q (.ref p) H1 := by
  obtain ⟨M, B⟩ := w1
  simp only at hb
  subst hb
  have hlen : M.length = S.length := A.len
  refine P ⟨M ++ [p], w.B⟩ H1 _ ⟨?_, rfl, fun a u h n => ?_, ex.fz⟩ (A.toM hpB e r) (of_loc ?_)
  · obtain ⟨t, ht⟩ := ex.pre
    exact ⟨t ++ [p], by show M ++ [p] = _; rw [show M = w.M ++ t from ht, List.append_assoc]⟩
  · obtain ⟨h1, h2⟩ := ex.keep a u h n
    refine ⟨h1, fun z => ?_⟩
    rcases List.mem_append.mp z with z | z
    · exact h2 z
    · simp only [List.mem_singleton] at z
      exact ne_new h hpH z
  · show (M ++ [p])[S.length]? = some p
    rw [← hlen]; simp
section
variable {elt tg iter : Expr} {ifs : List Expr} {scope : Scope} {own : List (Str × Nat)} {mi : DSt → Store → Res Src} {g : D → DSt → Store → Res DSt} {t : DSt → Store → Res Bool} {e : DSt → Store → Res D} {is : List Nat}
/-- the tests of a clause -/
theorem pmt_nil : PTs X [] (tOfT X.K X.mg W (fun _ S => .ok true S)) := ⟨fun pins s σ H Q I ⟨w, dσ, S, A, R, P⟩ => pts_nil.run pins s σ H Q I (P.fin A rfl)⟩
theorem pmt_one {c : Expr} {m : DSt → Store → Res Bool} (h : PMT X W c m) : PTs X [c] (tOfT X.K X.mg W m) := pts_one h
theorem pm_lc (hc : X.calm = true) (hN : X.N.Nodup) (hi : PMI X W tg iter mi) (ok : BlkOk X.N X.env.scope scope own)
    (hg : ∀ (s : Shared) (H : Hp) (C : Addr) (cl : List (Str × Addr)) (fp : List Addr), PMX (X.blk s H scope (compEnvC scope cl C X.env) fp) is tg g)
    (ht : ∀ (s : Shared) (H : Hp) (C : Addr) (cl : List (Str × Addr)) (fp : List Addr), PTs (X.blk s H scope (compEnvC scope cl C X.env) fp) ifs (tOfT X.K X.mg W0 t))
    (he : ∀ (s : Shared) (H : Hp) (C : Addr) (cl : List (Str × Addr)) (fp : List Addr), PM (X.blk s H scope (compEnvC scope cl C X.env) fp) W0 elt e) (his : ∀ i ∈ is, i ∈ own.map (·.2)) (hs : ∀ x, foldedSetIterable iter X.env x = pure x := by intro _; rfl) :
    PM X W (.ListComp elt [⟨tg, iter, ifs, 0⟩] scope pos) (mLc mi g t e (own.map (·.2))) :=
  PE.imp (pe_lc hc hN hi ok hg ht he hs) fun σ H Q ⟨w, dσ, S, A, R, P⟩ => ⟨w, dσ, S, A, R, P.bind fun src S1 w1 H1 J e1 A1 rj P1 =>
    lc_imp his (fun A' hb _ hpB e' r' ex P' => fin_lst A' hb hpB e' r' ex P') A1 (R.mono e1) rj.1 rj.2 P1⟩
theorem pm_lcM (hc : X.calm = true) (hN : X.N.Nodup) (hi : PMI X W tg iter mi) (ok : BlkOk X.N X.env.scope scope own)
    (hg : ∀ (s : Shared) (H : Hp) (C : Addr) (cl : List (Str × Addr)) (fp : List Addr), PMX (X.blk s H scope (compEnvC scope cl C X.env) fp) is tg g)
    (ht : ∀ (s : Shared) (H : Hp) (C : Addr) (cl : List (Str × Addr)) (fp : List Addr), PTs (X.blk s H scope (compEnvC scope cl C X.env) fp) ifs (tOfT X.K X.mg W0 t))
    (he : ∀ (s : Shared) (H : Hp) (C : Addr) (cl : List (Str × Addr)) (fp : List Addr), PM (X.blk s H scope (compEnvC scope cl C X.env) fp) W0 elt e) (his : ∀ i ∈ is, i ∈ own.map (·.2)) (hs : ∀ x, foldedSetIterable iter X.env x = pure x := by intro _; rfl) :
    PM X W (.ListComp elt [⟨tg, iter, ifs, 0⟩] scope pos) (mLcM mi g t e (own.map (·.2))) :=
  PE.imp (pe_lc hc hN hi ok hg ht he hs) fun σ H Q ⟨w, dσ, S, A, R, P⟩ => ⟨w, dσ, S, A, R, P.bind fun src S1 w1 H1 J e1 A1 rj P1 p hp =>
    lc_imp his (fun A' hb hp hpB e' r' ex P' => fin_lstM A' hb hpB hp e' r' ex P') A1 (R.mono e1) rj.1 rj.2 P1 p hp⟩
end
end
end L3
namespace L3
open PySem PySem.Spec L2

section
variable {X : Cx} {W : XW} {tg : Expr} {pos : Pos}
theorem PI.imp {iter : Expr} {t t' : TI} (h : PI X tg iter t) (k : ∀ σ H R, t' σ H R → t σ H R) : PI X tg iter t' := ⟨fun pins s σ H R I q => h.run pins s σ H R I (k σ H R q)⟩
/-- a list, a tuple, a text -/
theorem pi_any {l : Expr} {tl : TE} (hl : PE X l tl) : PI X tg l (fun σ H R => tl σ H fun x H1 => (∃ a xs, x = .ref a ∧ SqL X.K H1 a xs ∧ (xs.length ≤ sizeLine → R (Itl X.K a) H1)) ∨
    (∃ a xs, x = .ref a ∧ SqT X.K H1 a xs ∧ (xs.length ≤ sizeLine → R (Itt X.K a) H1)) ∨ (∃ z, x = .str z ∧ R (Its z) H1)) := by
  refine ⟨fun pins s σ H R I h => ?_⟩
  refine thn (hl.run pins s σ H _ I h) fun v s1 ⟨x, H1, I1, r1, q1⟩ => ?_
  rcases q1 with ⟨a, xs, e, hq, q⟩ | ⟨a, xs, e, hq, q⟩ | ⟨z, e, q⟩
  · subst e
    cases r1
    obtain ⟨its, rv, p, hz⟩ := I1.list hq
    refine wpAny_pyIter_list p.isList ?_
    refine ⟨s1.heap.objs.size, [s1.heap.objs.size], _, _, H1, rfl, I1.kept (t' := s1.toks) fun b o e => Heap.get?_push_of_some _ e, turn_list a _, ⟨_, Heap.get?_push_size _ rfl, rfl, rfl⟩, fun b hb => ?_, q hz⟩
    have e : b = s1.heap.objs.size := by simpa using hb
    subst e
    exact I1.fpOk (Nat.le_refl _) (I1.hok.fresh (Nat.le_refl _))
  · subst e
    cases r1
    obtain ⟨its, rv, p, hz⟩ := I1.tuple hq
    refine wpAny_pyIter_tuple (show s1.heap.IsTuple a its.toArray from p) ?_
    refine ⟨s1.heap.objs.size, [s1.heap.objs.size], _, _, H1, rfl, I1.kept (t' := s1.toks) fun b o e => Heap.get?_push_of_some _ e, turn_tuple a _, ⟨_, Heap.get?_push_size _ rfl, rfl, rfl⟩, fun b hb => ?_, q hz⟩
    have e : b = s1.heap.objs.size := by simpa using hb
    subst e
    exact I1.fpOk (Nat.le_refl _) (I1.hok.fresh (Nat.le_refl _))
  · subst e
    obtain ⟨t, rfl⟩ := r1
    cases ha : z.cps.all (· < 128)
    · exact wpAny_pyIter_wide ha (pi_one (tk := s1.toks) I1 _ (turn_str _ z t "str_iterator" (.inr rfl)) ⟨_, Heap.get?_push_size _ rfl, rfl, rfl⟩ q)
    · exact wpAny_pyIter_ascii ha (pi_one (tk := s1.toks) I1 _ (turn_str _ z t "str_ascii_iterator" (.inl rfl)) ⟨_, Heap.get?_push_size _ rfl, rfl, rfl⟩ q)
def signsOf (z : Str) : List D := z.cps.toList.map fun c => .str ⟨#[c]⟩
def seqSrc (d : D) (S : Store) : Option Src := match d with
  | .str z => if z.length ≤ sizeLine then some ⟨signsOf z, []⟩ else none
  | .tup ds => some ⟨ds, []⟩
  | .ktp ds => some ⟨ds, []⟩
  | .lst ds => some ⟨ds, []⟩
  | .frz ds => some ⟨ds, []⟩
  | .loc l => match S[l]? with
    | some (.lst ds) => some ⟨ds, [(l, .lst ds)]⟩
    | _ => none
  | _ => none
def mSeqI (m : DSt → Store → Res D) (σ : DSt) (S : Store) : Res Src := (m σ S).bind fun d S1 => match seqSrc d S1 with
  | some src => .ok src S1
  | none => .stuck
section
variable {K : PySem.W.Frag} {mg : Str → Option Value} {w : Wd} {H : Hp} {S : Store}
theorem jok_list {a : Addr} {ds : List D} {gd : List (Nat × Ob)} (h : ∀ w' H' S', ExJ w H w' H' → Ab K w' H' mg S' → gOk gd S' → ∃ vs', SqL K H' a vs' ∧ Reps K w' H' ds vs') : JOk K mg w H (Itl K a) ⟨ds, gd⟩ := by
  intro w' H' S' i e A g
  obtain ⟨vs', hq, r⟩ := h w' H' S' e A g
  refine ⟨fun d hd => ?_, fun hl => ⟨vs', hq, by rw [← r.length]; exact hl⟩⟩
  obtain ⟨v, hv, rv⟩ := r.get hd
  refine ⟨⟨vs', v, hq, hv⟩, fun x H2 y => ?_⟩
  obtain ⟨e2, y⟩ := y
  subst e2
  have hx := y vs' hq
  rw [hv] at hx
  cases hx
  exact ⟨w', Ex.refl _ _, A, rv⟩
theorem jok_tup {a : Addr} {ds : List D} {gd : List (Nat × Ob)} (h : ∀ w' H' S', ExJ w H w' H' → Ab K w' H' mg S' → gOk gd S' → ∃ vs', SqT K H' a vs' ∧ Reps K w' H' ds vs') : JOk K mg w H (Itt K a) ⟨ds, gd⟩ := by
  intro w' H' S' i e A g
  obtain ⟨vs', hq, r⟩ := h w' H' S' e A g
  refine ⟨fun d hd => ?_, fun hl => ⟨vs', hq, by rw [← r.length]; exact hl⟩⟩
  obtain ⟨v, hv, rv⟩ := r.get hd
  refine ⟨⟨vs', v, hq, hv⟩, fun x H2 y => ?_⟩
  obtain ⟨e2, y⟩ := y
  subst e2
  have hx := y vs' hq
  rw [hv] at hx
  cases hx
  exact ⟨w', Ex.refl _ _, A, rv⟩
theorem jok_str (z : Str) : JOk K mg w H (Its z) ⟨signsOf z, []⟩ := by
  intro w' H' S' i e A g
  have hl : (signsOf z).length = z.cps.size := by simp [signsOf]
  refine ⟨fun d hd => ?_, fun hl' => by show z.cps.size ≤ i; rw [← hl]; exact hl'⟩
  have hi : i < z.cps.size := by
    rw [← hl]; exact (List.getElem?_eq_some_iff.mp hd).1
  refine ⟨hi, fun x H2 y => ?_⟩
  obtain ⟨e2, c, hc, rfl⟩ := y
  subst e2
  refine ⟨w', Ex.refl _ _, A, ?_⟩
  unfold signsOf at hd
  rw [List.getElem?_map, Array.getElem?_toList, hc] at hd
  cases hd
  exact of_str _
/-- a source that stands: frozen, or a mutable list that is left as it is -/
theorem ra_list {d : D} {v : V} {ds : List D} {gd : List (Nat × Ob)} (A : Ab K w H mg S) (h : seqSrc d S = some ⟨ds, gd⟩) (r : Rep K w H d v) :
    (∃ a vs, v = .ref a ∧ SqL K H a vs ∧ Reps K w H ds vs ∧ JOk K mg w H (Itl K a) ⟨ds, gd⟩) ∨ (∃ a vs, v = .ref a ∧ SqT K H a vs ∧ Reps K w H ds vs ∧ JOk K mg w H (Itt K a) ⟨ds, gd⟩) ∨
      ∃ z, d = .str z ∧ z.length ≤ sizeLine ∧ ds = signsOf z ∧ gd = [] := by
  unfold seqSrc at h
  split at h
  · split at h
    · rename_i z hz
      simp only [Option.some.injEq, Src.mk.injEq] at h
      exact .inr (.inr ⟨z, rfl, hz, h.1.symm, h.2.symm⟩)
    · cases h
  · simp only [Option.some.injEq, Src.mk.injEq] at h
    obtain ⟨rfl, rfl⟩ := h
    simp only [Rep] at r
    obtain ⟨a, vs, rfl, ⟨n, b, f⟩, r⟩ := r
    exact .inr (.inl ⟨a, vs, rfl, .of f, r, jok_tup fun w' H' S' e A' g => ⟨vs, .of (e.at n b f).2.2, r.monoJ e⟩⟩)
  · simp only [Option.some.injEq, Src.mk.injEq] at h
    obtain ⟨rfl, rfl⟩ := h
    simp only [Rep] at r
    obtain ⟨a, vs, rfl, f, r⟩ := r
    exact .inr (.inl ⟨a, vs, rfl, kp_sq f, r, jok_tup fun w' H' S' e A' g => ⟨vs, kp_sq (f.imp_right fun f => f.by fun a u f n b => e.at n b f), r.monoJ e⟩⟩)
  · simp only [Option.some.injEq, Src.mk.injEq] at h
    obtain ⟨rfl, rfl⟩ := h
    simp only [Rep] at r
    obtain ⟨a, vs, rfl, ⟨n, b, f⟩, r⟩ := r
    exact .inl ⟨a, vs, rfl, .of f, r, jok_list fun w' H' S' e A' g => ⟨vs, .of (e.at n b f).2.2, r.monoJ e⟩⟩
  · simp only [Option.some.injEq, Src.mk.injEq] at h
    obtain ⟨rfl, rfl⟩ := h
    simp only [Rep] at r
    obtain ⟨a, vs, rfl, f, r⟩ := r
    refine .inl ⟨a, vs, rfl, f.sq, r, jok_list fun w' H' S' e A' g => ⟨vs, ?_, r.monoJ e⟩⟩
    have f' : FzL K w' H' a vs := f.elim (fun ⟨n, b, f⟩ => .inl (e.rd n b f)) .inr
    exact f'.sq
  · split at h
    · rename_i l _ es q
      simp only [Option.some.injEq, Src.mk.injEq] at h
      obtain ⟨rfl, rfl⟩ := h
      simp only [Rep] at r
      obtain ⟨a, el, rfl⟩ := r
      obtain ⟨u, eu, vs, rfl, r⟩ := A.ob l a _ el q
      refine .inl ⟨a, vs, rfl, .of eu, r, jok_list fun w' H' S' e A' g => ?_⟩
      obtain ⟨u', eu', vs', rfl, r'⟩ := A'.ob l a _ (e.get el) (g (l, _) List.mem_cons_self)
      exact ⟨vs', .of eu', r'⟩
    · cases h
  · cases h
end
theorem pmi_seq {l : Expr} {m : DSt → Store → Res D} (h : PM X W l m) : PMI X W tg l (mSeqI m) := by
  refine PI.imp (pi_any h) fun σ H R ⟨w, dσ, S, A, Rs, P⟩ => ⟨w, dσ, S, A, Rs, P.bind fun d S1 w1 H1 v e1 A1 r1 P1 => ?_⟩
  split at P1
  · rename_i src hs
    obtain ⟨ds, gd⟩ := src
    rcases ra_list A1 hs r1 with ⟨a, vs, rfl, hq, r, j⟩ | ⟨a, vs, rfl, hq, r, j⟩ | ⟨z, rfl, hz, rfl, rfl⟩
    · exact .inl ⟨a, vs, rfl, hq, fun hz => P1.fin A1 ⟨j, by show ds.length ≤ sizeLine; rw [r.length]; exact hz⟩⟩
    · exact .inr (.inl ⟨a, vs, rfl, hq, fun hz => P1.fin A1 ⟨j, by show ds.length ≤ sizeLine; rw [r.length]; exact hz⟩⟩)
    · exact .inr (.inr ⟨z, rep_str r1, P1.fin A1 ⟨jok_str z, by show (signsOf z).length ≤ sizeLine; simp only [signsOf, List.length_map]; simpa [Str.length] using hz⟩⟩)
  · exact P1.elim

/-! ### ranges -/
def rangeD (lo c : Int) (n : Nat) : List D := (List.range n).map fun (i : Nat) => D.int (lo + (i : Int) * c)
theorem rangeD_len (lo c : Int) (n : Nat) : (rangeD lo c n).length = n := by simp [rangeD]
theorem rangeD_get {lo c : Int} {n i : Nat} {d : D} (h : (rangeD lo c n)[i]? = some d) : i < n ∧ d = .int (lo + (i : Int) * c) := by
  unfold rangeD at h
  obtain ⟨h1, h2⟩ := List.getElem?_eq_some_iff.mp h
  simp at h1 h2
  exact ⟨h1, h2.symm⟩
theorem jok_range {K : PySem.W.Frag} {mg : Str → Option Value} {w : Wd} {H : Hp} (lo : Int) (n : Nat) : JOk K mg w H (Itr lo n) ⟨rangeD lo 1 n, []⟩ := by
  intro w' H' S' i e A g
  refine ⟨fun d hd => ?_, fun hl => by show n ≤ i; rw [← rangeD_len lo 1 n]; exact hl⟩
  obtain ⟨h1, rfl⟩ := rangeD_get hd
  refine ⟨h1, fun x H2 ⟨e2, y⟩ => ?_⟩
  subst e2 y
  exact ⟨w', Ex.refl _ _, A, by rw [Int.mul_one]; exact of_int _⟩
theorem jok_rangeC {K : PySem.W.Frag} {mg : Str → Option Value} {w : Wd} {H : Hp} (lo c : Int) (n : Nat) : JOk K mg w H (Itc lo c n) ⟨rangeD lo c n, []⟩ := by
  intro w' H' S' i e A g
  refine ⟨fun d hd => ?_, fun hl => by show n ≤ i; rw [← rangeD_len lo c n]; exact hl⟩
  obtain ⟨h1, rfl⟩ := rangeD_get hd
  refine ⟨h1, fun x H2 ⟨e2, y⟩ => ?_⟩
  subst e2 y
  exact ⟨w', Ex.refl _ _, A, of_int _⟩
def mRng1 (ms : DSt → Store → Res (List D)) (σ : DSt) (S : Store) : Res Src := (ms σ S).bind fun ds S1 => match ds with
  | [.int j] => if j ≤ sizeLine ∧ -(2 ^ 62) ≤ j then .ok ⟨rangeD 0 1 j.toNat, []⟩ S1 else .stuck
  | _ => .stuck
def mRng2 (ms : DSt → Store → Res (List D)) (σ : DSt) (S : Store) : Res Src := (ms σ S).bind fun ds S1 => match ds with
  | [.int i, .int j] => if -(2 ^ 62) ≤ i ∧ i < 2 ^ 62 ∧ -(2 ^ 62) ≤ j ∧ j < 2 ^ 62 ∧ (j - i).toNat ≤ sizeLine then .ok ⟨rangeD i 1 (j - i).toNat, []⟩ S1 else .stuck
  | _ => .stuck
/-- downward by ones -/
def mRng3 (ms : DSt → Store → Res (List D)) (σ : DSt) (S : Store) : Res Src := (ms σ S).bind fun ds S1 => match ds with
  | [.int i, .int j, .int c] => if c = -1 ∧ -(2 ^ 62) ≤ i ∧ i < 2 ^ 62 ∧ -(2 ^ 62) ≤ j ∧ j < 2 ^ 62 ∧ (i - j).toNat ≤ sizeLine then .ok ⟨rangeD i (-1) (i - j).toNat, []⟩ S1 else .stuck
  | _ => .stuck
theorem reps1 {K : PySem.W.Frag} {w : Wd} {H : Hp} {d : D} {vs : List V} (h : Reps K w H [d] vs) : ∃ v, vs = [v] ∧ Rep K w H d v := by
  simp only [Reps] at h
  obtain ⟨v, r, rfl, h1, rfl⟩ := h
  exact ⟨v, rfl, h1⟩
theorem reps2 {K : PySem.W.Frag} {w : Wd} {H : Hp} {d e : D} {vs : List V} (h : Reps K w H [d, e] vs) : ∃ v u, vs = [v, u] ∧ Rep K w H d v ∧ Rep K w H e u := by
  simp only [Reps] at h
  obtain ⟨v, r, rfl, h1, u, r', rfl, h2, rfl⟩ := h
  exact ⟨v, u, rfl, h1, h2⟩
theorem reps3 {K : PySem.W.Frag} {w : Wd} {H : Hp} {d e f : D} {vs : List V} (h : Reps K w H [d, e, f] vs) : ∃ v u x, vs = [v, u, x] ∧ Rep K w H d v ∧ Rep K w H e u ∧ Rep K w H f x := by
  simp only [Reps] at h
  obtain ⟨v, r, rfl, h1, u, r', rfl, h2, x, r'', rfl, h3, rfl⟩ := h
  exact ⟨v, u, x, rfl, h1, h2, h3⟩
theorem pmi_range1 {a : Expr} {ms : DSt → Store → Res (List D)} {p : Pos} (hg : Gl X "range") (hm : X.mg "range" = none) (ha : PMA X W [a] ms) (hs : starEach [a] X.env = [(false, eval a X.env)] := by rfl) : PMI X W tg (.Call (.Name "range" p) [a] [] pos) (mRng1 ms) := by
  refine PI.imp (pi_range1 hg hm ha hs) fun σ H R ⟨w, dσ, S, A, Rs, P⟩ => ⟨w, dσ, S, A, Rs, P.bind fun ds S1 w1 H1 vs e1 A1 r1 P1 => ?_⟩
  split at P1
  · split at P1
    · rename_i j hz
      obtain ⟨v, rfl, r⟩ := reps1 r1
      refine ⟨j, by rw [rep_int r], hz.2, ?_, P1.fin A1 ⟨jok_range 0 j.toNat, ?_⟩⟩
      · have : (sizeLine : Int) < 2 ^ 62 := by decide
        omega
      · show (rangeD 0 1 j.toNat).length ≤ sizeLine
        rw [rangeD_len]; omega
    · exact P1.elim
  · exact P1.elim
theorem pmi_range2 {a b : Expr} {ms : DSt → Store → Res (List D)} {p : Pos} (hg : Gl X "range") (hm : X.mg "range" = none) (ha : PMA X W [a, b] ms) (hs : starEach [a, b] X.env = [(false, eval a X.env), (false, eval b X.env)] := by rfl) (hs2 : starEach [b] X.env = [(false, eval b X.env)] := by rfl) : PMI X W tg (.Call (.Name "range" p) [a, b] [] pos) (mRng2 ms) := by
  refine PI.imp (pi_range2 hg hm ha hs hs2) fun σ H R ⟨w, dσ, S, A, Rs, P⟩ => ⟨w, dσ, S, A, Rs, P.bind fun ds S1 w1 H1 vs e1 A1 r1 P1 => ?_⟩
  split at P1
  · split at P1
    · rename_i i j hz
      obtain ⟨v, u, rfl, r, r'⟩ := reps2 r1
      refine ⟨i, j, by rw [rep_int r, rep_int r'], ⟨hz.1, hz.2.1, hz.2.2.1, hz.2.2.2.1⟩, P1.fin A1 ⟨jok_range i _, ?_⟩⟩
      show (rangeD i 1 _).length ≤ sizeLine
      rw [rangeD_len]; exact hz.2.2.2.2
    · exact P1.elim
  · exact P1.elim
theorem pmi_range3 {a b c : Expr} {ms : DSt → Store → Res (List D)} {p : Pos} (hg : Gl X "range") (hm : X.mg "range" = none) (ha : PMA X W [a, b, c] ms)
    (hs : starEach [a, b, c] X.env = (false, eval a X.env) :: starEach [b, c] X.env := by rfl) (hpl : (backTo pos (starEach [b, c] X.env)).any (·.1) = false := by rfl) : PMI X W tg (.Call (.Name "range" p) [a, b, c] [] pos) (mRng3 ms) := by
  refine PI.imp (pi_range3 hg hm ha hs hpl) fun σ H R ⟨w, dσ, S, A, Rs, P⟩ => ⟨w, dσ, S, A, Rs, P.bind fun ds S1 w1 H1 vs e1 A1 r1 P1 => ?_⟩
  split at P1
  · split at P1
    · rename_i i j c hz
      obtain ⟨rfl, h1, h2, h3, h4, h5⟩ := hz
      obtain ⟨v, u, x, rfl, r, r', r''⟩ := reps3 r1
      refine ⟨i, j, -1, _, by rw [rep_int r, rep_int r', rep_int r''], RgC.neg h1 h2 h3 h4, P1.fin A1 ⟨jok_rangeC i (-1) _, ?_⟩⟩
      show (rangeD i (-1) _).length ≤ sizeLine
      rw [rangeD_len]; exact h5
    · exact P1.elim
  · exact P1.elim

/-! ### enumerate, zip -/
def enumD (k : Nat) : List D → List D
  | [] => []
  | d :: ds => .tup [.int k, d] :: enumD (k + 1) ds
theorem enumD_len : ∀ (k : Nat) (ds : List D), (enumD k ds).length = ds.length
  | _, [] => rfl
  | k, d :: ds => by simp [enumD, enumD_len (k + 1) ds]
theorem enumD_get : ∀ {k i : Nat} {ds : List D} {e : D}, (enumD k ds)[i]? = some e → ∃ d, ds[i]? = some d ∧ e = .tup [.int ((k + i : Nat) : Int), d]
  | _, _, [], _, h => by simp [enumD] at h
  | k, 0, d :: ds, e, h => by
    simp [enumD] at h
    exact ⟨d, by simp, by rw [← h]; rfl⟩
  | k, i + 1, d :: ds, e, h => by
    simp [enumD] at h
    obtain ⟨d', h1, h2⟩ := enumD_get h
    exact ⟨d', by simpa using h1, by rw [h2]; congr 3; omega⟩
def zipD : List D → List D → List D
  | a :: as, b :: bs => .tup [a, b] :: zipD as bs
  | _, _ => []
theorem zipD_len : ∀ (as bs : List D), (zipD as bs).length = min as.length bs.length
  | [], _ => by simp [zipD]
  | _ :: _, [] => by simp [zipD]
  | a :: as, b :: bs => by simp [zipD, zipD_len as bs]
theorem zipD_get : ∀ {as bs : List D} {i : Nat} {e : D}, (zipD as bs)[i]? = some e → ∃ a b, as[i]? = some a ∧ bs[i]? = some b ∧ e = .tup [a, b]
  | [], _, _, _, h => by simp [zipD] at h
  | _ :: _, [], _, _, h => by simp [zipD] at h
  | a :: as, b :: bs, 0, e, h => by
    simp [zipD] at h
    exact ⟨a, b, by simp, by simp, h.symm⟩
  | a :: as, b :: bs, i + 1, e, h => by
    simp [zipD] at h
    obtain ⟨a', b', h1, h2, h3⟩ := zipD_get h
    exact ⟨a', b', by simpa using h1, by simpa using h2, h3⟩
theorem yldTup {K : PySem.W.Frag} {mg : Str → Option Value} {w : Wd} {H : Hp} {S : Store} (A : Ab K w H mg S) {T : Addr} {x : V} {d e : D} {y : V} (hT : H T = none) (rd : Rep K w H d x) (re : Rep K w H e y) :
    ∃ w2, Ex w H w2 (upd H T (.tup [x, y])) ∧ Ab K w2 (upd H T (.tup [x, y])) mg S ∧ Rep K w2 (upd H T (.tup [x, y])) (.tup [d, e]) (.ref T) :=
  ⟨w, Ex.new hT, A.newF hT, Rep.tupNew A hT (.cons rd (.cons re .nil))⟩
/-- a list that is read -/
def lstSrc (d : D) (S : Store) : Option Src := match d with
  | .lst ds => some ⟨ds, []⟩
  | .frz ds => some ⟨ds, []⟩
  | .loc l => match S[l]? with
    | some (.lst ds) => some ⟨ds, [(l, .lst ds)]⟩
    | _ => none
  | _ => none
theorem lst_st {K : PySem.W.Frag} {mg : Str → Option Value} {w : Wd} {H : Hp} {S : Store} {d : D} {src : Src} {v : V} (A : Ab K w H mg S) (h : lstSrc d S = some src) (r : Rep K w H d v) :
    ∃ a vs, v = .ref a ∧ SqL K H a vs ∧ Reps K w H src.items vs ∧ ∀ w' H' S', ExJ w H w' H' → Ab K w' H' mg S' → gOk src.guard S' → ∃ vs', SqL K H' a vs' ∧ Reps K w' H' src.items vs' := by
  cases d with
  | lst es =>
    simp only [lstSrc, Option.some.injEq] at h
    subst h
    simp only [Rep] at r
    obtain ⟨a, vs, rfl, ⟨n, b, f⟩, r⟩ := r
    exact ⟨a, vs, rfl, .of f, r, fun w' H' S' e A' g => ⟨vs, .of (e.at n b f).2.2, r.monoJ e⟩⟩
  | frz es =>
    simp only [lstSrc, Option.some.injEq] at h
    subst h
    simp only [Rep] at r
    obtain ⟨a, vs, rfl, f, r⟩ := r
    refine ⟨a, vs, rfl, f.sq, r, fun w' H' S' e A' g => ⟨vs, ?_, r.monoJ e⟩⟩
    have f' : FzL K w' H' a vs := f.elim (fun ⟨n, b, f⟩ => .inl (e.rd n b f)) .inr
    exact f'.sq
  | loc l =>
    simp only [lstSrc] at h
    split at h
    · rename_i es q
      simp only [Option.some.injEq] at h
      subst h
      simp only [Rep] at r
      obtain ⟨a, el, rfl⟩ := r
      obtain ⟨u, eu, vs, rfl, r⟩ := A.ob l a _ el q
      refine ⟨a, vs, rfl, .of eu, r, fun w' H' S' e A' g => ?_⟩
      obtain ⟨u', eu', vs', rfl, r'⟩ := A'.ob l a _ (e.get el) (g (l, _) List.mem_cons_self)
      exact ⟨vs', .of eu', r'⟩
    · cases h
  | _ => simp [lstSrc] at h
theorem tup_st {K : PySem.W.Frag} {w : Wd} {H : Hp} {d : D} {ds : List D} {v : V} (h : rdT d = some ds) (r : Rep K w H d v) :
    ∃ a vs, v = .ref a ∧ SqT K H a vs ∧ Reps K w H ds vs ∧ ∀ w' H', ExJ w H w' H' → ∃ vs', SqT K H' a vs' ∧ Reps K w' H' ds vs' := by
  cases d with
  | tup es =>
    simp only [rdT, Option.some.injEq] at h
    subst h
    simp only [Rep] at r
    obtain ⟨a, vs, rfl, ⟨n, b, f⟩, r⟩ := r
    exact ⟨a, vs, rfl, .of f, r, fun w' H' e => ⟨vs, .of (e.at n b f).2.2, r.monoJ e⟩⟩
  | ktp es =>
    simp only [rdT, Option.some.injEq] at h
    subst h
    simp only [Rep] at r
    obtain ⟨a, vs, rfl, f, r⟩ := r
    exact ⟨a, vs, rfl, kp_sq f, r, fun w' H' e => ⟨vs, kp_sq (f.imp_right fun f => f.by fun a u f n b => e.at n b f), r.monoJ e⟩⟩
  | _ => simp [rdT] at h
/-- an argument list, the sizes of what stands told -/
theorem PA.szd {es : List Expr} {t : TA} (h : PA X es t) : PA X es (fun σ H Q => t σ H fun vs H1 => ((∀ a xs, SqL X.K H1 a xs → xs.length ≤ sizeLine) → (∀ a xs, SqT X.K H1 a xs → xs.length ≤ sizeLine) → Q vs H1)) := by
  refine ⟨fun ps pins s σ H Q I q => ?_⟩
  refine thn (h.run ps pins s σ H _ I q) fun us s1 ⟨vs, H1, I1, r1, q1⟩ => ⟨vs, H1, I1, r1, q1 (fun a xs hq => ?_) fun a xs hq => ?_⟩
  · obtain ⟨_, _, _, hz⟩ := I1.list hq
    exact hz
  · obtain ⟨_, _, _, hz⟩ := I1.tuple hq
    exact hz
def mEnum (ms : DSt → Store → Res (List D)) (σ : DSt) (S : Store) : Res Src := (ms σ S).bind fun ds S1 => match ds with
  | [d] => match lstSrc d S1 with
    | some src => .ok ⟨enumD 0 src.items, src.guard⟩ S1
    | none => .stuck
  | _ => .stuck
theorem pmi_enum {e : Expr} {ms : DSt → Store → Res (List D)} {p tpos : Pos} {elts : List Expr} {kk : Nat} (hg : Gl X "enumerate") (hm : X.mg "enumerate" = none) (ha : PMA X W [e] ms) (hs : starEach [e] X.env = [(false, eval e X.env)] := by rfl) :
    PMI X W (.Tuple elts kk tpos) (.Call (.Name "enumerate" p) [e] [] pos) (mEnum ms) := by
  refine PI.imp (pi_enum hg hm (PA.szd ha) hs) fun σ H R ⟨w, dσ, S, A, Rs, P⟩ => ⟨w, dσ, S, A, Rs, P.bind fun ds S1 w1 H1 vs e1 A1 r1 P1 szL szT => ?_⟩
  split at P1
  · split at P1
    · rename_i d _ src hs
      obtain ⟨v, rfl, r⟩ := reps1 r1
      obtain ⟨a, us, rfl, hq, ru, st⟩ := lst_st A1 hs r
      refine ⟨a, us, rfl, hq, P1.fin A1 ⟨fun w' H' S' i e' A' g => ?_, by show (enumD 0 src.items).length ≤ sizeLine; rw [enumD_len, ru.length]; exact szL a us hq⟩⟩
      obtain ⟨us', hq', ru'⟩ := st w' H' S' e' A' g
      refine ⟨fun d' hd => ?_, fun hl => ⟨us', hq', ?_⟩⟩
      · obtain ⟨d'', h1, rfl⟩ := enumD_get hd
        obtain ⟨u, hu, ru''⟩ := ru'.get h1
        refine ⟨⟨us', u, hq', hu⟩, fun x H2 y => ?_⟩
        obtain ⟨T, x', rfl, hT, rfl, f⟩ := y
        have hx := f us' hq'
        rw [hu] at hx
        cases hx
        rw [Nat.zero_add]
        exact yldTup A' hT (of_int _) ru''
      · have : (enumD 0 src.items).length ≤ i := hl
        rw [enumD_len, ru'.length] at this
        exact this
    · exact P1.elim
  · exact P1.elim
def mZip (ms : DSt → Store → Res (List D)) (σ : DSt) (S : Store) : Res Src := (ms σ S).bind fun ds S1 => match ds with
  | [d, e] => match lstSrc d S1, lstSrc e S1 with
    | some s1, some s2 => .ok ⟨zipD s1.items s2.items, s1.guard ++ s2.guard⟩ S1
    | _, _ => match rdT d, rdT e with
      | some a, some b => .ok ⟨zipD a b, []⟩ S1
      | _, _ => .stuck
  | _ => .stuck
theorem pmi_zip {e e2 : Expr} {ms : DSt → Store → Res (List D)} {p tpos : Pos} {elts : List Expr} {kk : Nat} (hg : Gl X "zip") (hm : X.mg "zip" = none) (ha : PMA X W [e, e2] ms)
    (hs : starEach [e, e2] X.env = (false, eval e X.env) :: starEach [e2] X.env := by rfl) (hpl : (backTo pos (starEach [e2] X.env)).any (·.1) = false := by rfl) :
    PMI X W (.Tuple elts kk tpos) (.Call (.Name "zip" p) [e, e2] [] pos) (mZip ms) := by
  refine PI.imp (RZ.pi_zipA hg hm (PA.szd ha) hs hpl) fun σ H R ⟨w, dσ, S, A, Rs, P⟩ => ⟨w, dσ, S, A, Rs, P.bind fun ds S1 w1 H1 vs e1 A1 r1 P1 szL szT => ?_⟩
  split at P1
  · rename_i d e
    obtain ⟨v, u, rfl, r, r'⟩ := reps2 r1
    split at P1
    · rename_i s1 s2 h1 h2
      obtain ⟨a, vs, rfl, hq, rv, st⟩ := lst_st A1 h1 r
      obtain ⟨b, us, rfl, hq2, ru, st2⟩ := lst_st A1 h2 r'
      have hz := szL a vs hq
      refine ⟨a, b, vs, us, rfl, .inl ⟨hq, hq2, P1.fin A1 ⟨fun w' H' S' i e' A' g => ?_, ?_⟩⟩⟩
      · obtain ⟨vs', hq', rv'⟩ := st w' H' S' e' A' fun p hp => g p (List.mem_append_left _ hp)
        obtain ⟨us', hq2', ru'⟩ := st2 w' H' S' e' A' fun p hp => g p (List.mem_append_right _ hp)
        refine ⟨fun d' hd => ?_, fun hl => ⟨vs', us', hq', hq2', ?_⟩⟩
        · obtain ⟨a', b', g1, g2, rfl⟩ := zipD_get hd
          obtain ⟨x, hx, rx⟩ := rv'.get g1
          obtain ⟨y, hy, ry⟩ := ru'.get g2
          refine ⟨⟨vs', us', x, y, hq', hq2', hx, hy⟩, fun z H2 yl => ?_⟩
          obtain ⟨T, x', y', rfl, hT, rfl, f1, f2⟩ := yl
          have e1 := f1 vs' hq'
          rw [hx] at e1
          cases e1
          have e2 := f2 us' hq2'
          rw [hy] at e2
          cases e2
          exact yldTup A' hT rx ry
        · have : (zipD s1.items s2.items).length ≤ i := hl
          rw [zipD_len, rv'.length, ru'.length] at this
          omega
      · show (zipD s1.items s2.items).length ≤ sizeLine
        rw [zipD_len, rv.length]
        omega
    · split at P1
      · rename_i a0 b0 h1 h2
        obtain ⟨a, vs, rfl, hq, rv, st⟩ := tup_st h1 r
        obtain ⟨b, us, rfl, hq2, ru, st2⟩ := tup_st h2 r'
        have hz := szT a vs hq
        refine ⟨a, b, vs, us, rfl, .inr ⟨hq, hq2, P1.fin A1 ⟨fun w' H' S' i e' A' g => ?_, ?_⟩⟩⟩
        · obtain ⟨vs', hq', rv'⟩ := st w' H' e'
          obtain ⟨us', hq2', ru'⟩ := st2 w' H' e'
          refine ⟨fun d' hd => ?_, fun hl => ⟨vs', us', hq', hq2', ?_⟩⟩
          · obtain ⟨a', b', g1, g2, rfl⟩ := zipD_get hd
            obtain ⟨x, hx, rx⟩ := rv'.get g1
            obtain ⟨y, hy, ry⟩ := ru'.get g2
            refine ⟨⟨vs', us', x, y, hq', hq2', hx, hy⟩, fun z H2 yl => ?_⟩
            obtain ⟨T, x', y', rfl, hT, rfl, f1, f2⟩ := yl
            have e1 := f1 vs' hq'
            rw [hx] at e1
            cases e1
            have e2 := f2 us' hq2'
            rw [hy] at e2
            cases e2
            exact yldTup A' hT rx ry
          · have : (zipD a0 b0).length ≤ i := hl
            rw [zipD_len, rv'.length, ru'.length] at this
            omega
        · show (zipD a0 b0).length ≤ sizeLine
          rw [zipD_len, rv.length]
          omega
      · exact P1.elim
  · exact P1.elim
end
end L3
namespace L3
open PySem PySem.Spec L2

/-! ### defs -/
/-- a def's promise by a function (nothing is raised) -/
def spD (K : PySem.W.Frag) (mg : Str → Option Value) (n : Nat) (den : List D → Store → Res D) : Sp := fun vs H Q _ => ∃ w ds S, Ab K w H mg S ∧ Reps K w H ds vs ∧ ds.length = n ∧
  (match den ds S with
  | .ok d S' => ∀ w' H' v, Ex w H w' H' → Ab K w' H' mg S' → Rep K w' H' d v → Q v H'
  | _ => False)
def noX {α : Type} (r : Res α) : Res α := match r with
  | .ok a S => .ok a S
  | _ => .stuck
@[simp] theorem noX_ok {α : Type} (a : α) (S : Store) : noX (.ok a S) = .ok a S := (rfl)
@[simp] theorem noX_stuck {α : Type} : noX (.stuck : Res α) = .stuck := (rfl)
@[simp] theorem noX_exc {α : Type} (c : Str) (fs : List (Str × D)) (S : Store) : noX (.exc c fs S : Res α) = .stuck := (rfl)
def mCall (n : Nat) (den : List D → Store → Res D) (ms : DSt → Store → Res (List D)) (σ : DSt) (S : Store) : Res D := (ms σ S).bind fun ds S1 => if ds.length = n then noX (den ds S1) else .stuck
section
variable {X : Cx} {W : XW} {k : Nat} {f : Addr} {fd : FuncData} {ps : List Str} {x m : Str} {p pos apos : Pos} {e o : Expr} {es : List Expr} {den : List D → Store → Res D} {n : Nat}
theorem callP {σ : L2.St} {w : Wd} {H : Hp} {S : Store} {ds : List D} {vs : List V} {Q : VK} (A : Ab X.K w H X.mg S) (r : Reps X.K w H ds vs) (P : Post X.K X.mg (Rep X.K) W σ w H (if ds.length = n then noX (den ds S) else .stuck) Q) : spD X.K X.mg n den vs H Q E0 := by
  split at P
  · rename_i hl
    refine ⟨w, ds, S, A, r, hl, ?_⟩
    cases hd : den ds S with
    | ok d S2 => rw [hd] at P; exact P
    | exc c fs S2 => rw [hd] at P; exact P.elim
    | stuck => rw [hd] at P; exact P.elim
  · exact P.elim
theorem pm_call {ms : DSt → Store → Res (List D)} (F : FnOk X.prog X.w X.K X.mg X.base CX0 k f fd ps (spD X.K X.mg n den)) (hr : Room k X.A) (hg : Gl X x) (hm : X.mg x = some (.ref f)) (hk : PySem.W.keepIn X.K (.ref f) = true) (hb : Binds X.K fd ps [])
    (ha : PMA X W (e :: es) ms) (hdb : (x == ("__debug__" : Str)) = false := by decide) (he : starEach (e :: es) X.env = (false, eval e X.env) :: starEach es X.env := by rfl) (hpl : (backTo pos (starEach es X.env)).any (·.1) = false := by rfl) :
    PM X W (.Call (.Name x p) (e :: es) [] pos) (mCall n den ms) :=
  PE.imp (pe_call F hr hg hm hk hb .nil pass0 ha hdb he hpl) fun σ H Q ⟨w, dσ, S, A, R, P⟩ => ⟨w, dσ, S, A, R, P.bind fun ds S1 w1 H1 vs e1 A1 r1 P1 => by
    rw [List.append_nil]
    exact callP A1 r1 P1⟩
theorem pm_call0 (F : FnOk X.prog X.w X.K X.mg X.base CX0 k f fd ps (spD X.K X.mg 0 den)) (hr : Room k X.A) (hg : Gl X x) (hm : X.mg x = some (.ref f)) (hk : PySem.W.keepIn X.K (.ref f) = true) (hb : Binds X.K fd ps [])
    (hdb : (x == ("__debug__" : Str)) = false := by decide) : PM X W (.Call (.Name x p) [] [] pos) (mCall 0 den mNil) :=
  PE.imp (pe_call0 F hr hg hm hk hb .nil pass0 hdb) fun σ H Q ⟨w, dσ, S, A, R, P⟩ => callP A .nil P
/-- a new instance; C's own name in the store -/
def mMake (n : Nat) (C : Str) (den : List D → Store → Res D) (ms : DSt → Store → Res (List D)) (σ : DSt) (S : Store) : Res D := (ms σ S).bind fun ds S1 => if ds.length + 1 = n then (match den (.loc S1.length :: ds) (S1 ++ [.ins C []]) with
  | .ok .non S2 => .ok (.loc S1.length) S2
  | _ => .stuck) else .stuck
theorem Ex.newI {w : Wd} {H : Hp} {x dx C : Addr} (hx : H x = none) (hd : H dx = none) : Ex w H ⟨w.M ++ [x], w.B⟩ (upd (upd H dx (.own x)) x (.ins C dx [])) :=
  ⟨⟨[x], rfl⟩, rfl, fun a u h n => ⟨by rw [upd_ne (ne_new h hx), upd_ne (ne_new h hd)]; exact h, by simp only [List.mem_append, List.mem_singleton, not_or]; exact ⟨n, ne_new h hx⟩⟩, fun a od u h => by rw [upd_ne (ne_new h hx), upd_ne (ne_new h hd)]; exact h⟩
theorem Ab.newI {K : PySem.W.Frag} {mg : Str → Option Value} {w : Wd} {H : Hp} {S : Store} {x dx C : Addr} {c : Str} (A : Ab K w H mg S) (hx : H x = none) (hd : H dx = none) (hc : mg c = some (.ref C)) (hne : dx ≠ x) :
    Ab K ⟨w.M ++ [x], w.B⟩ (upd (upd H dx (.own x)) x (.ins C dx [])) mg (S ++ [.ins c []]) := by
  have A1 : Ab K w (upd H dx (.own x)) mg S := A.newF hd
  exact A1.newM (by rw [upd_ne (Ne.symm hne)]; exact hx) ⟨C, dx, [], hc, rfl, rfl⟩
theorem pm_make {C : Addr} {ms : DSt → Store → Res (List D)} (M : L2.Mk X.K C f) (F : FnOk X.prog X.w X.K X.mg X.base CX0 k f fd ps (spD X.K X.mg n den)) (hr : Room (k + 1) X.A) (hg : Gl X x) (hm : X.mg x = some (.ref C)) (hb : Binds X.K fd ps [])
    (ha : PMA X W (e :: es) ms) (hdb : (x == ("__debug__" : Str)) = false := by decide) (he : starEach (e :: es) X.env = (false, eval e X.env) :: starEach es X.env := by rfl) (hpl : (backTo pos (starEach es X.env)).any (·.1) = false := by rfl) :
    PM X W (.Call (.Name x p) (e :: es) [] pos) (mMake n x den ms) :=
  PE.imp (pe_make M F hr hg hm hb .nil pass0 ha hdb he hpl) fun σ H Q ⟨w, dσ, S, A, R, P⟩ => ⟨w, dσ, S, A, R, P.bind fun ds S1 w1 H1 vs e1 A1 r1 P1 => by
    rw [List.append_nil]
    intro y dy hy hdy hne
    split at P1
    · rename_i hl
      have ex := Ex.newI (w := w1) (C := C) hy hdy
      refine ⟨⟨w1.M ++ [y], w1.B⟩, .loc S1.length :: ds, S1 ++ [.ins x []], A1.newI hy hdy hm hne, .cons (Rep.locNew A1) (r1.mono ex), by simpa using hl, ?_⟩
      split at P1
      · rename_i S2 hd
        rw [hd]
        refine fun w2 H2 v e2 A2 r2 => ⟨rep_non r2, P1 w2 H2 _ (ex.trans e2) A2 (of_loc (e2.get ?_))⟩
        show (w1.M ++ [y])[S1.length]? = some y
        rw [← A1.len]; simp
      · exact P1.elim
    · exact P1.elim⟩
/-- o.m(..) -/
def insOf (S : Store) (d : D) : Option (Str × List (Str × D)) := match d with
  | .loc l => match S[l]? with
    | some (.ins C fs) => some (C, fs)
    | _ => none
  | _ => none
def mMeth (n : Nat) (C m : Str) (den : List D → Store → Res D) (mo : DSt → Store → Res D) (ms : DSt → Store → Res (List D)) (σ : DSt) (S : Store) : Res D := (mo σ S).bind fun o S1 => match insOf S1 o with
  | some (C', fs) => if C' = C ∧ fs.lookup m = none then (ms σ S1).bind fun ds S2 => if ds.length + 1 = n then noX (den (o :: ds) S2) else .stuck else .stuck
  | none => .stuck
theorem lookup_rep {K : PySem.W.Frag} {w : Wd} {H : Hp} (m : Str) : ∀ {fs : List (Str × D)} {vs : List (Str × V)}, RKv K w H fs vs → RepO K w H (fs.lookup m) (vs.lookup m) ∧ (fs.lookup m = none → vs.lookup m = none)
  | [], _, h => by simp only [RKv] at h; subst h; exact ⟨trivial, fun _ => rfl⟩
  | (j, d) :: fs, _, h => by
    obtain ⟨v, r, rfl, h1, h2⟩ := h
    simp only [List.lookup_cons]
    cases hq : m == j with
    | true => exact ⟨h1, fun z => by cases z⟩
    | false => exact lookup_rep m h2
theorem ins_rep {K : PySem.W.Frag} {mg : Str → Option Value} {w : Wd} {H : Hp} {S : Store} {d : D} {C : Str} {fs : List (Str × D)} {v : V} (A : Ab K w H mg S) (h : insOf S d = some (C, fs)) (r : Rep K w H d v) :
    ∃ (l : Nat) (a A' dx : Addr) (vs : List (Str × V)), d = .loc l ∧ w.M[l]? = some a ∧ S[l]? = some (.ins C fs) ∧ v = .ref a ∧ mg C = some (.ref A') ∧ H a = some (.ins A' dx vs) ∧ RKv K w H fs vs := by
  unfold insOf at h
  split at h
  · rename_i l
    split at h
    · rename_i C' fs' q
      simp only [Option.some.injEq, Prod.mk.injEq] at h
      obtain ⟨rfl, rfl⟩ := h
      simp only [Rep] at r
      obtain ⟨a, el, rfl⟩ := r
      obtain ⟨u, eu, A', dx, vs, hm, rfl, r'⟩ := A.ob l a _ el q
      exact ⟨l, a, A', dx, vs, rfl, el, q, rfl, hm, eu, r'⟩
    · cases h
  · cases h
theorem pm_meth {pl : Sem Bool} {C : Addr} {c : Str} {mo : DSt → Store → Res D} {ms : DSt → Store → Res (List D)} (ho : PM X W o mo) (hmc : X.mg c = some (.ref C)) (cl : Cls X.K C) (hm : Meth X.K C m f) (F : FnOk X.prog X.w X.K X.mg X.base CX0 k f fd ps (spD X.K X.mg n den)) (hr : Room k X.A) (hb : Binds X.K fd ps []) (ha : PMA X W (e :: es) ms)
    (hst : starEach (e :: es) X.env = (false, eval e X.env) :: starEach es X.env := by rfl) (hpl : (backTo pos (starEach es X.env)).any (·.1) = false := by rfl)
    (ht : eval (.Call (.Attribute o m apos) (e :: es) [] pos) X.env = (do
      let ov ← eval o X.env
      standAt apos.atName
      let (f, first) ← holding [ov] (getMethod ov m pl)
      callWith pos f first (backTo pos (starEach (e :: es) X.env)) (backToKw pos (keywordEach [] X.env))) := by rfl) :
    PM X W (.Call (.Attribute o m apos) (e :: es) [] pos) (mMeth n c m den mo ms) :=
  PE.imp (pe_meth ho cl hm F hr hb .nil pass0 ha hst hpl ht) fun σ H Q ⟨w, dσ, S, A, R, P⟩ => ⟨w, dσ, S, A, R, P.bind fun od S1 w1 H1 v e1 A1 r1 P1 => by
    split at P1
    · rename_i C' fs hi
      split at P1
      · rename_i hc
        obtain ⟨l, a, A', dx, vs, rfl, el, q, rfl, hm', eu, r'⟩ := ins_rep A1 hi r1
        rw [hc.1, hmc] at hm'
        cases hm'
        refine ⟨a, dx, vs, rfl, eu, (lookup_rep m r').2 hc.2, w1, dσ, S1, A1, R.mono e1, P1.bind fun ds S2 w2 H2 us e2 A2 r2 P2 => ?_⟩
        rw [List.append_nil]
        split at P2
        · rename_i hl
          exact callP (W := W) (σ := σ) A2 (.cons (r1.mono e2) r2) (by rw [if_pos (by simpa using hl)]; exact P2)
        · exact P2.elim
      · exact P1.elim
    · exact P1.elim⟩
theorem pm_meth0 {pl : Sem Bool} {C : Addr} {c : Str} {mo : DSt → Store → Res D} (ho : PM X W o mo) (hmc : X.mg c = some (.ref C)) (cl : Cls X.K C) (hm : Meth X.K C m f) (F : FnOk X.prog X.w X.K X.mg X.base CX0 k f fd ps (spD X.K X.mg n den)) (hr : Room k X.A) (hb : Binds X.K fd ps [])
    (ht : eval (.Call (.Attribute o m apos) [] [] pos) X.env = (do
      let ov ← eval o X.env
      standAt apos.atName
      let (f, first) ← holding [ov] (getMethod ov m pl)
      callWith pos f first (backTo pos (starEach [] X.env)) (backToKw pos (keywordEach [] X.env))) := by rfl) :
    PM X W (.Call (.Attribute o m apos) [] [] pos) (mMeth n c m den mo mNil) :=
  PE.imp (pe_meth0 ho cl hm F hr hb .nil pass0 ht) fun σ H Q ⟨w, dσ, S, A, R, P⟩ => ⟨w, dσ, S, A, R, P.bind fun od S1 w1 H1 v e1 A1 r1 P1 => by
    split at P1
    · rename_i C' fs hi
      split at P1
      · rename_i hc
        obtain ⟨l, a, A', dx, vs, rfl, el, q, rfl, hm', eu, r'⟩ := ins_rep A1 hi r1
        rw [hc.1, hmc] at hm'
        cases hm'
        refine ⟨a, dx, vs, rfl, eu, (lookup_rep m r').2 hc.2, ?_⟩
        show spD X.K X.mg n den ([V.ref a] ++ []) H1 Q E0
        rw [List.append_nil]
        simp only [mNil, Res.bind_ok] at P1
        split at P1
        · rename_i hl
          exact callP (W := W) (σ := σ) A1 (.cons r1 .nil) (by rw [if_pos (by simpa using hl)]; exact P1)
        · exact P1.elim
      · exact P1.elim
    · exact P1.elim⟩
/-- o.f -/
def mFld (f : Str) (mo : DSt → Store → Res D) (σ : DSt) (S : Store) : Res D := (mo σ S).bind fun o S1 => match insOf S1 o with
  | some (_, fs) => match fs.lookup f with
    | some d => .ok d S1
    | none => .stuck
  | none => .stuck
/-- every own class of which instances are made: its facts -/
def ClsF (X : Cx) (f : Str) (cs : List Str) : Prop := ∀ c ∈ cs, ∃ C, X.mg c = some (.ref C) ∧ Cls X.K C ∧ NoAttr X.K C f
def mFldC (cs : List Str) (f : Str) (mo : DSt → Store → Res D) (σ : DSt) (S : Store) : Res D := (mo σ S).bind fun o S1 => match insOf S1 o with
  | some (C, fs) => if C ∈ cs then (match fs.lookup f with
    | some d => .ok d S1
    | none => .stuck) else .stuck
  | none => .stuck
theorem pm_fld {g : Str} {cs : List Str} {mo : DSt → Store → Res D} (ho : PM X W o mo) (hf : ClsF X g cs) (hb : attributeBase o g X.env (eval o X.env) = eval o X.env := by rfl) : PM X W (.Attribute o g pos) (mFldC cs g mo) :=
  PE.imp (pe_fld ho hb) fun σ H Q ⟨w, dσ, S, A, R, P⟩ => ⟨w, dσ, S, A, R, P.bind fun od S1 w1 H1 v e1 A1 r1 P1 => by
    split at P1
    · rename_i C' fs hi
      split at P1
      · rename_i hc
        split at P1
        · rename_i d hl
          obtain ⟨l, a, A', dx, vs, rfl, el, q, rfl, hm', eu, r'⟩ := ins_rep A1 hi r1
          obtain ⟨C, h1, h2, h3⟩ := hf C' hc
          rw [h1] at hm'
          cases hm'
          have lk := (lookup_rep g r').1
          rw [hl] at lk
          cases hv : vs.lookup g with
          | none => rw [hv] at lk; exact lk.elim
          | some v => rw [hv] at lk; exact ⟨a, _, dx, vs, v, rfl, eu, h2, h3, hv, P1.fin A1 lk⟩
        · exact P1.elim
      · exact P1.elim
    · exact P1.elim⟩
end

/-! ### a def's own promise -/
def denOf (n : Nat) (m : DSt → Store → Res Fl) (ds : List D) (S : Store) : Res D := match m (ds.map some ++ List.replicate (n - ds.length) none) S with
  | .ok (.rt d) S' => .ok d S'
  | .ok (.nx _) S' => .ok .non S'
  | .ok (.ex c fs _) S' => .exc c fs S'
  | _ => .stuck
theorem start_rep {K : PySem.W.Frag} {w : Wd} {H : Hp} {ds : List D} {vs : List V} (r : Reps K w H ds vs) (N : List Str) : RSt K w H (ds.map some ++ List.replicate (N.length - ds.length) none) (L2.start N vs) := by
  have hl := r.length
  unfold L2.start
  refine ⟨by simp [hl], fun i d h => ?_⟩
  by_cases hi : i < ds.length
  · rw [List.getElem?_append_left (by simpa using hi), List.getElem?_map] at h
    cases hd : ds[i]? with
    | none => rw [hd] at h; cases h
    | some d' =>
      rw [hd] at h
      have e : d' = d := by simpa using h
      subst e
      obtain ⟨v, hv, rv⟩ := r.get hd
      exact ⟨v, by rw [List.getElem?_append_left (by simp; omega), List.getElem?_map, hv]; rfl, rv⟩
  · rw [List.getElem?_append_right (by simpa using hi)] at h
    have := List.mem_of_getElem? h
    simp at this
section
variable {P : Program} {w : World} {K : PySem.W.Frag} {mg : Str → Option Value} {base : Heap}
theorem fn_den {x qual : Str} {st : Stmt} {f : Addr} {fd : FuncData} {N ps : List Str} {k : Nat} {m : DSt → Store → Res Fl} (F : Fun K x qual st f fd) (S : FnScope N ps (defScope st))
    (hbody : ∀ (cdv : Value) (A : Around) (outer : List Env) (s : Shared) (H : Hp) (E : XK), Room k (A.deeper (PyProof.Rows.envOfC qual (defScope st) s.heap.objs.size f cdv)) →
      PMSs (cxOf CX0 P w K mg base N qual (defScope st) f cdv A outer s H E).nox W0 (defBody st) m) : FnOk P w K mg base CX0 (k + 1) f fd ps (spD K mg ps.length (denOf N.length m)) := by
  refine F.ok S (fun vs H Q E h => ?_) (fun cdv A outer s H vs Q E hr h => ⟨_, hbody cdv A outer s H E hr, ?_⟩)
  · obtain ⟨w, ds, S, A, r, hl, _⟩ := h
    rw [← r.length]; exact hl
  · obtain ⟨w, ds, S, A, r, hl, P⟩ := h
    refine ⟨w, _, S, A, start_rep r N, ?_⟩
    unfold denOf at P
    split at P
    · rename_i d S' hd
      split at hd
      · rename_i d' S'' hm
        cases hd
        rw [hm]
        exact P
      · rename_i σ' S'' hm
        cases hd
        rw [hm]
        exact fun w' H' σ2 e A' R => P w' H' _ e A' of_non
      · cases hd
      · cases hd
    · exact P.elim
end

/-! ### what a call has made and left behind may be forgotten -/
mutual
def D.sc (n : Nat) : D → Bool
  | .tup ds => D.scs n ds
  | .ktp ds => D.scs n ds
  | .lst ds => D.scs n ds
  | .frz ds => D.scs n ds
  | .loc l => decide (l < n)
  | .exf _ _ _ _ => true
  | _ => true
def D.scs (n : Nat) : List D → Bool
  | [] => true
  | d :: ds => d.sc n && D.scs n ds
end
def scK {κ : Type} (n : Nat) (kvs : List (κ × D)) : Bool := kvs.all fun p => p.2.sc n
def Ob.sc (n : Nat) : Ob → Bool
  | .lst ds => D.scs n ds
  | .dK kvs => scK n kvs
  | .dT kvs => scK n kvs
  | .ins _ fs => scK n fs
  | .lck o => o.sc n
section
variable {K : PySem.W.Frag} {mg : Str → Option Value} {w w' : Wd} {H H' : Hp}
mutual
theorem rep_sc : ∀ {d : D} {v : V}, Rep K w H d v → d.sc w.M.length = true
  | .non, _, _ => rfl
  | .bl _, _, _ => rfl
  | .int _, _, _ => rfl
  | .str _, _, _ => rfl
  | .tup ds, _, h => by
    simp only [Rep] at h
    obtain ⟨a, vs, rfl, f, r⟩ := h
    simp only [D.sc]
    exact reps_sc r
  | .ktp ds, _, h => by
    simp only [Rep] at h
    obtain ⟨a, vs, rfl, f, r⟩ := h
    simp only [D.sc]
    exact reps_sc r
  | .lst ds, _, h => by
    simp only [Rep] at h
    obtain ⟨a, vs, rfl, f, r⟩ := h
    simp only [D.sc]
    exact reps_sc r
  | .frz ds, _, h => by
    simp only [Rep] at h
    obtain ⟨a, vs, rfl, f, r⟩ := h
    simp only [D.sc]
    exact reps_sc r
  | .loc l, _, h => by
    simp only [Rep] at h
    obtain ⟨a, e, _⟩ := h
    simp only [D.sc]
    exact decide_eq_true (List.getElem?_eq_some_iff.mp e).1
  | .exn _, _, _ => rfl
  | .exf _ _ _ _, _, _ => rfl
theorem reps_sc : ∀ {ds : List D} {vs : List V}, Reps K w H ds vs → D.scs w.M.length ds = true
  | [], _, _ => rfl
  | d :: ds, _, h => by
    simp only [Reps] at h
    obtain ⟨v, r, rfl, h1, h2⟩ := h
    simp only [D.scs, Bool.and_eq_true]
    exact ⟨rep_sc h1, reps_sc h2⟩
end
theorem rkv_sc {κ : Type} : ∀ {kvs : List (κ × D)} {vs : List (κ × V)}, RKv K w H kvs vs → scK w.M.length kvs = true
  | [], _, _ => rfl
  | (j, d) :: kvs, _, h => by
    obtain ⟨v, r, rfl, h1, h2⟩ := h
    have := rkv_sc h2
    unfold scK at this ⊢
    rw [List.all_cons, Bool.and_eq_true]
    exact ⟨rep_sc h1, this⟩
theorem ho_sc : ∀ {o : Ob} {u : HO}, HoOk K w H mg o u → o.sc w.M.length = true
  | .lst ds, _, h => let ⟨_, _, r⟩ := h; reps_sc r
  | .dK ds, _, h => let ⟨_, _, r⟩ := h; rkv_sc r
  | .dT ds, _, h => let ⟨_, _, r⟩ := h; rkv_sc r
  | .ins C ds, _, h => let ⟨_, _, _, _, _, r⟩ := h; rkv_sc r
  | .lck o, _, h => let ⟨_, _, _, r⟩ := h; ho_sc (o := o) r
/-- the later world cut to the earlier one -/
theorem cutL (hM : ∃ t, w'.M = w.M ++ t) (hB : w'.B = w.B) {a : Addr} {xs : List V} (h : FzL K w' H' a xs) : FzL K w H' a xs := by
  obtain ⟨t, ht⟩ := hM
  rcases h with ⟨n, b, h⟩ | h
  · exact .inl ⟨fun z => n (by rw [ht]; exact List.mem_append_left _ z), by rw [← hB]; exact b, h⟩
  · exact .inr h
mutual
theorem rep_cut (hM : ∃ t, w'.M = w.M ++ t) (hB : w'.B = w.B) : ∀ {d : D} {v : V}, Rep K w' H' d v → d.sc w.M.length = true → Rep K w H' d v
  | .non, _, h, _ => by simpa only [Rep] using h
  | .exn _, _, h, _ => by simpa only [Rep] using h
  | .exf _ _ _ _, _, h, _ => by
    obtain ⟨t, ht⟩ := hM
    simp only [Rep] at h ⊢
    exact ⟨h.1, fun z => h.2.1 (by rw [ht]; exact List.mem_append_left _ z), by rw [← hB]; exact h.2.2.1, h.2.2.2⟩
  | .bl _, _, h, _ => by simpa only [Rep] using h
  | .int _, _, h, _ => by simpa only [Rep] using h
  | .str _, _, h, _ => by simpa only [Rep] using h
  | .tup ds, _, h, s => by
    simp only [Rep] at h ⊢
    simp only [D.sc] at s
    obtain ⟨a, vs, e, ⟨n, b, f⟩, r⟩ := h
    obtain ⟨t, ht⟩ := id hM
    exact ⟨a, vs, e, ⟨fun z => n (by rw [ht]; exact List.mem_append_left _ z), by rw [← hB]; exact b, f⟩, reps_cut hM hB r s⟩
  | .ktp ds, _, h, s => by
    simp only [Rep] at h ⊢
    simp only [D.sc] at s
    obtain ⟨a, vs, e, f, r⟩ := h
    obtain ⟨t, ht⟩ := id hM
    exact ⟨a, vs, e, f.imp_right fun f => f.by fun a u f n b => ⟨fun z => n (by rw [ht]; exact List.mem_append_left _ z), by rw [← hB]; exact b, f⟩, reps_cut hM hB r s⟩
  | .lst ds, _, h, s => by
    simp only [Rep] at h ⊢
    simp only [D.sc] at s
    obtain ⟨a, vs, e, ⟨n, b, f⟩, r⟩ := h
    obtain ⟨t, ht⟩ := id hM
    exact ⟨a, vs, e, ⟨fun z => n (by rw [ht]; exact List.mem_append_left _ z), by rw [← hB]; exact b, f⟩, reps_cut hM hB r s⟩
  | .frz ds, _, h, s => by
    simp only [Rep] at h ⊢
    simp only [D.sc] at s
    obtain ⟨a, vs, e, f, r⟩ := h
    exact ⟨a, vs, e, cutL hM hB f, reps_cut hM hB r s⟩
  | .loc l, _, h, s => by
    simp only [Rep] at h ⊢
    simp only [D.sc] at s
    obtain ⟨a, e, rfl⟩ := h
    obtain ⟨t, ht⟩ := hM
    refine ⟨a, ?_, rfl⟩
    rw [ht, List.getElem?_append_left (of_decide_eq_true s)] at e
    exact e
theorem reps_cut (hM : ∃ t, w'.M = w.M ++ t) (hB : w'.B = w.B) : ∀ {ds : List D} {vs : List V}, Reps K w' H' ds vs → D.scs w.M.length ds = true → Reps K w H' ds vs
  | [], _, h, _ => by simpa only [Reps] using h
  | d :: ds, _, h, s => by
    simp only [Reps] at h ⊢
    simp only [D.scs, Bool.and_eq_true] at s
    obtain ⟨v, r, e, h1, h2⟩ := h
    exact ⟨v, r, e, rep_cut hM hB h1 s.1, reps_cut hM hB h2 s.2⟩
end
theorem rkv_cut {κ : Type} (hM : ∃ t, w'.M = w.M ++ t) (hB : w'.B = w.B) : ∀ {kvs : List (κ × D)} {vs : List (κ × V)}, RKv K w' H' kvs vs → scK w.M.length kvs = true → RKv K w H' kvs vs
  | [], _, h, _ => h
  | (j, d) :: kvs, _, h, s => by
    obtain ⟨v, r, e, h1, h2⟩ := h
    unfold scK at s
    rw [List.all_cons, Bool.and_eq_true] at s
    exact ⟨v, r, e, rep_cut hM hB h1 s.1, rkv_cut hM hB h2 s.2⟩
theorem ho_cut (hM : ∃ t, w'.M = w.M ++ t) (hB : w'.B = w.B) : ∀ {o : Ob} {u : HO}, HoOk K w' H' mg o u → o.sc w.M.length = true → HoOk K w H' mg o u
  | .lst ds, _, h, s => let ⟨vs, e, r⟩ := h; ⟨vs, e, reps_cut hM hB r s⟩
  | .dK ds, _, h, s => let ⟨vs, e, r⟩ := h; ⟨vs, e, rkv_cut hM hB r s⟩
  | .dT ds, _, h, s => let ⟨vs, e, r⟩ := h; ⟨vs, e, rkv_cut hM hB r s⟩
  | .ins C ds, _, h, s => let ⟨A, dx, vs, m, e, r⟩ := h; ⟨A, dx, vs, m, e, rkv_cut hM hB r s⟩
  | .lck o, _, h, s => let ⟨od, u', e, r⟩ := h; ⟨od, u', e, ho_cut (o := o) hM hB r s⟩
end
open Classical in
noncomputable def gcD (den : List D → Store → Res D) (ds : List D) (S : Store) : Res D := match den ds S with
  | .ok d S' => if S.length ≤ S'.length ∧ d.sc S.length = true ∧ (∀ i < S.length, S'[i]? = S[i]? ∨ ∃ o, S'[i]? = some o ∧ o.sc S.length = true) then .ok d (S'.take S.length) else .ok d S'
  | r => r
theorem spD_gc {K : PySem.W.Frag} {mg : Str → Option Value} {n : Nat} {den : List D → Store → Res D} {vs : List V} {H : Hp} {Q : VK} {E : XK} (h : spD K mg n (gcD den) vs H Q E) : spD K mg n den vs H Q E := by
  obtain ⟨w, ds, S, A, r, hl, P⟩ := h
  refine ⟨w, ds, S, A, r, hl, ?_⟩
  unfold gcD at P
  cases hd : den ds S with
  | exc c fs S' => rw [hd] at P; exact P
  | stuck => rw [hd] at P; exact P
  | ok d S' =>
    rw [hd] at P
    simp only at P
    by_cases hc : S.length ≤ S'.length ∧ d.sc S.length = true ∧ (∀ i < S.length, S'[i]? = S[i]? ∨ ∃ o, S'[i]? = some o ∧ o.sc S.length = true)
    · rw [if_pos hc] at P
      obtain ⟨hlen, hds, hob⟩ := hc
      intro w' H' v e A' rv
      have hB := e.bk
      obtain ⟨t, ht⟩ := id e.pre
      rw [← A.len] at hds hob
      refine P w H' v ⟨⟨[], by simp⟩, rfl, fun a u ha n => ?_, e.fz⟩ ⟨?_, A.nd, fun a ha hm => ?_, fun a ha => ?_, fun l a o h1 h2 => ?_⟩ (rep_cut e.pre hB rv hds)
      · exact ⟨(e.keep a u ha n).1, n⟩
      · rw [List.length_take, A.len]; omega
      · exact A.bm a ha hm
      · exact A'.bt a (by rw [hB]; exact ha)
      · have hl1 : l < w.M.length := (List.getElem?_eq_some_iff.mp h1).1
        rw [List.getElem?_take_of_lt (by rw [← A.len]; exact hl1)] at h2
        obtain ⟨u, eu, k⟩ := A'.ob l a o (e.get h1) h2
        refine ⟨u, eu, ho_cut e.pre hB k ?_⟩
        rcases hob l hl1 with z | ⟨o', z, s⟩
        · rw [h2] at z
          obtain ⟨u0, _, k0⟩ := A.ob l a o h1 z.symm
          exact ho_sc k0
        · rw [h2] at z
          cases z
          exact s
    · rw [if_neg hc] at P
      exact P
theorem fn_gc {P : Program} {w : World} {K : PySem.W.Frag} {mg : Str → Option Value} {base : Heap} {k : Nat} {f : Addr} {fd : FuncData} {ps : List Str} {n : Nat} {den : List D → Store → Res D} (F : FnOk P w K mg base CX0 k f fd ps (spD K mg n den)) : FnOk P w K mg base CX0 k f fd ps (spD K mg n (gcD den)) :=
  F.imp fun _ _ _ _ h => spD_gc h
theorem gcD_ok {den : List D → Store → Res D} {ds : List D} {S S1 g : Store} {d : D} (h : den ds S = .ok d (S1 ++ g)) (hl : S1.length = S.length) (hd : d.sc S.length = true) (ho : ∀ i < S.length, S1[i]? = S[i]? ∨ ∃ o, S1[i]? = some o ∧ o.sc S.length = true) : gcD den ds S = .ok d S1 := by
  unfold gcD
  rw [h]
  simp only
  have hc : S.length ≤ (S1 ++ g).length ∧ d.sc S.length = true ∧ (∀ i < S.length, (S1 ++ g)[i]? = S[i]? ∨ ∃ o, (S1 ++ g)[i]? = some o ∧ o.sc S.length = true) :=
    ⟨by rw [List.length_append]; omega, hd, fun i hi => by rw [List.getElem?_append_left (by omega)]; exact ho i hi⟩
  rw [if_pos hc, ← hl, List.take_left]
theorem gcD_pure {den : List D → Store → Res D} {ds : List D} {S g : Store} {d : D} (h : den ds S = .ok d (S ++ g)) (hd : d.sc S.length = true) : gcD den ds S = .ok d S := gcD_ok h rfl hd fun _ _ => .inl rfl
end L3
namespace L3
open PySem PySem.Spec L2

/-! ### built-in functions -/
def mCB (g : List D → Store → Res D) (ms : DSt → Store → Res (List D)) (σ : DSt) (S : Store) : Res D := (ms σ S).bind fun ds S1 => g ds S1
def CallD (X : Cx) (W : XW) (f : Value) (g : List D → Store → Res D) : Prop := ∃ r, CallR X f r ∧ ∀ w H S ds vs σ Q, Ab X.K w H X.mg S → Reps X.K w H ds vs → Post X.K X.mg (Rep X.K) W σ w H (g ds S) Q → r vs H Q
section
variable {X : Cx} {W : XW} {x : Str} {p pos cpos apos : Pos} {e o : Expr} {es : List Expr} {g : List D → Store → Res D} {ms : DSt → Store → Res (List D)} {bid T : String}
theorem pm_callB (hc : CallD X W (.builtin bid) g) (hg : Gl X x) (hm : X.mg x = none) (hv : bootBuiltins x = some (.builtin bid)) (ha : PMA X W (e :: es) ms) (hn : x ≠ "__name__" := by decide) (hdb : (x == ("__debug__" : Str)) = false := by decide)
    (he : starEach (e :: es) X.env = (false, eval e X.env) :: starEach es X.env := by rfl) (hpl : (backTo pos (starEach es X.env)).any (·.1) = false := by rfl) : PM X W (.Call (.Name x p) (e :: es) [] pos) (mCB g ms) := by
  obtain ⟨r, h1, h2⟩ := hc
  exact PE.imp (pe_callB h1 hg hm hv ha hn hdb he hpl) fun σ H Q ⟨w, dσ, S, A, R, P⟩ => ⟨w, dσ, S, A, R, P.bind fun ds S1 w1 H1 vs e1 A1 r1 P1 => h2 w1 H1 S1 ds vs σ Q A1 r1 P1⟩
theorem pm_callTy (hc : CallD X W (.type T) g) (hg : Gl X x) (hm : X.mg x = none) (hv : bootBuiltins x = some (.type T)) (ha : PMA X W (e :: es) ms) (hn : x ≠ "__name__" := by decide) (hdb : (x == ("__debug__" : Str)) = false := by decide)
    (he : starEach (e :: es) X.env = (false, eval e X.env) :: starEach es X.env := by rfl) (hpl : (backTo pos (starEach es X.env)).any (·.1) = false := by rfl) : PM X W (.Call (.Name x p) (e :: es) [] pos) (mCB g ms) := by
  obtain ⟨r, h1, h2⟩ := hc
  exact PE.imp (pe_callTy h1 hg hm hv ha hn hdb he hpl) fun σ H Q ⟨w, dσ, S, A, R, P⟩ => ⟨w, dσ, S, A, R, P.bind fun ds S1 w1 H1 vs e1 A1 r1 P1 => h2 w1 H1 S1 ds vs σ Q A1 r1 P1⟩
def lenD (ds : List D) (S : Store) : Res D := match ds with
  | [.str z] => if z.length ≤ sizeLine then .ok (.int z.length) S else .stuck
  | [d] => match seqOf S d with
    | some es => .ok (.int es.length) S
    | none => .stuck
  | _ => .stuck
theorem cd_len : CallD X W (.builtin "len") lenD := by
  refine ⟨_, call_len, fun w H S ds vs σ Q A r P => ?_⟩
  unfold lenD at P
  split at P
  · split at P
    · rename_i z hz
      obtain ⟨v, rfl, r1⟩ := reps1 r
      exact ⟨_, _, rfl, by rw [rep_str r1]; exact ⟨hz, rfl⟩, P.fin A (of_int _)⟩
    · exact P.elim
  · split at P
    · rename_i d hno _ es hs
      obtain ⟨v, rfl, r1⟩ := reps1 r
      unfold seqOf at hs
      split at hs
      · rename_i es' h
        cases hs
        obtain ⟨a, vs, rfl, f, r'⟩ := rdL_rep A h r1
        exact ⟨_, _, rfl, .inl ⟨vs, f, rfl⟩, by rw [← r'.length]; exact P.fin A (of_int _)⟩
      · obtain ⟨a, vs, rfl, f, r'⟩ := rdT_rep hs r1
        exact ⟨_, _, rfl, .inr ⟨vs, f, rfl⟩, by rw [← r'.length]; exact P.fin A (of_int _)⟩
    · exact P.elim
  · exact P.elim
def absD (ds : List D) (S : Store) : Res D := match ds with
  | [.int i] => .ok (.int (if i < 0 then -i else i)) S
  | _ => .stuck
theorem cd_abs : CallD X W (.builtin "abs") absD := by
  refine ⟨_, call_abs, fun w H S ds vs σ Q A r P => ?_⟩
  unfold absD at P
  split at P
  · obtain ⟨v, rfl, r1⟩ := reps1 r
    exact ⟨_, by rw [rep_int r1], P.fin A (of_int _)⟩
  · exact P.elim
def max2D (ds : List D) (S : Store) : Res D := match ds with
  | [.int i, .int j] => .ok (.int (if j > i then j else i)) S
  | _ => .stuck
theorem cd_max2 (hc : X.calm = true) : CallD X W (.builtin "max") max2D := by
  refine ⟨_, call_max2 hc, fun w H S ds vs σ Q A r P => ?_⟩
  unfold max2D at P
  split at P
  · obtain ⟨v, u, rfl, r1, r2⟩ := reps2 r
    exact ⟨_, _, by rw [rep_int r1, rep_int r2], P.fin A (of_int _)⟩
  · exact P.elim
def min2D (ds : List D) (S : Store) : Res D := match ds with
  | [.int i, .int j] => .ok (.int (if j < i then j else i)) S
  | _ => .stuck
theorem cd_min2 (hc : X.calm = true) : CallD X W (.builtin "min") min2D := by
  refine ⟨_, call_min2 hc, fun w H S ds vs σ Q A r P => ?_⟩
  unfold min2D at P
  split at P
  · obtain ⟨v, u, rfl, r1, r2⟩ := reps2 r
    exact ⟨_, _, by rw [rep_int r1, rep_int r2], P.fin A (of_int _)⟩
  · exact P.elim
def intD (ds : List D) (S : Store) : Res D := match ds with
  | [.int i] => .ok (.int i) S
  | [.bl k] => .ok (.int (if k = true then 1 else 0)) S
  | [.str z] => match PySem.intText? z with
    | some n => if z.length ≤ 640 then .ok (.int n) S else .stuck
    | none => .stuck
  | _ => .stuck
theorem cd_int : CallD X W (.type "int") intD := by
  refine ⟨_, call_int1.or call_int_str, fun w H S ds vs σ Q A r P => ?_⟩
  unfold intD at P
  split at P
  · obtain ⟨v, rfl, r1⟩ := reps1 r
    exact .inl (.inl ⟨_, by rw [rep_int r1], P.fin A (of_int _)⟩)
  · obtain ⟨v, rfl, r1⟩ := reps1 r
    exact .inl (.inr ⟨_, by rw [rep_bl r1], P.fin A (of_int _)⟩)
  · split at P
    · rename_i z _ n hn
      split at P
      · rename_i hz
        obtain ⟨v, rfl, r1⟩ := reps1 r
        exact .inr ⟨z, n, by rw [rep_str r1], hn, hz, P.fin A (of_int _)⟩
      · exact P.elim
    · exact P.elim
  · exact P.elim
def strD (ds : List D) (S : Store) : Res D := match ds with
  | [.int i] => if i.natAbs.log2 < 1920 then .ok (.str (toString i)) S else .stuck
  | _ => .stuck
theorem cd_str : CallD X W (.type "str") strD := by
  refine ⟨_, call_str_int, fun w H S ds vs σ Q A r P => ?_⟩
  unfold strD at P
  split at P
  · split at P
    · rename_i hz
      obtain ⟨v, rfl, r1⟩ := reps1 r
      exact ⟨_, by rw [rep_int r1], hz, P.fin A (of_str _)⟩
    · exact P.elim
  · exact P.elim
def blsOf : List D → Option (List Bool)
  | [] => some []
  | .bl i :: r => (blsOf r).map (i :: ·)
  | _ => none
theorem blsOf_rep {K : PySem.W.Frag} {w : Wd} {H : Hp} : ∀ {ds : List D} {ns : List Bool} {vs : List V}, blsOf ds = some ns → Reps K w H ds vs → vs = ns.map V.bl
  | [], ns, vs, h, r => by
    simp only [blsOf, Option.some.injEq] at h
    simp only [Reps] at r
    subst h r
    rfl
  | .bl i :: ds, ns, vs, h, r => by
    simp only [blsOf, Option.map_eq_some_iff] at h
    obtain ⟨ms, h1, rfl⟩ := h
    simp only [Reps] at r
    obtain ⟨v, us, rfl, e, r⟩ := r
    rw [rep_bl e, blsOf_rep h1 r]
    rfl
  | .non :: _, _, _, h, _ => by simp [blsOf] at h
  | .int _ :: _, _, _, h, _ => by simp [blsOf] at h
  | .str _ :: _, _, _, h, _ => by simp [blsOf] at h
  | .tup _ :: _, _, _, h, _ => by simp [blsOf] at h
  | .ktp _ :: _, _, _, h, _ => by simp [blsOf] at h
  | .lst _ :: _, _, _, h, _ => by simp [blsOf] at h
  | .frz _ :: _, _, _, h, _ => by simp [blsOf] at h
  | .loc _ :: _, _, _, h, _ => by simp [blsOf] at h
  | .exn _ :: _, _, _, h, _ => by simp [blsOf] at h
  | .exf _ _ _ _ :: _, _, _, h, _ => by simp [blsOf] at h
def onBls (f : List Bool → D) (ds : List D) (S : Store) : Res D := match ds with
  | [d] => match rdL S d with
    | some es => match blsOf es with
      | some bs => .ok (f bs) S
      | none => .stuck
    | none => .stuck
  | _ => .stuck
theorem cd_all (hc : X.calm = true) : CallD X W (.builtin "all") (onBls fun bs => .bl (bs.all id)) := by
  refine ⟨_, cr_all hc, fun w H S ds vs σ Q A r P => ?_⟩
  unfold onBls at P
  split at P
  · split at P
    · split at P
      · rename_i d _ es h1 _ bs h2
        obtain ⟨v, rfl, r1⟩ := reps1 r
        obtain ⟨a, us, rfl, f, r'⟩ := rdL_rep A h1 r1
        have e := blsOf_rep h2 r'
        subst e
        exact ⟨a, bs, rfl, f, P.fin A (of_bl _)⟩
      · exact P.elim
    · exact P.elim
  · exact P.elim
theorem cd_any (hc : X.calm = true) : CallD X W (.builtin "any") (onBls fun bs => .bl (bs.any id)) := by
  refine ⟨_, cr_any hc, fun w H S ds vs σ Q A r P => ?_⟩
  unfold onBls at P
  split at P
  · split at P
    · split at P
      · rename_i d _ es h1 _ bs h2
        obtain ⟨v, rfl, r1⟩ := reps1 r
        obtain ⟨a, us, rfl, f, r'⟩ := rdL_rep A h1 r1
        have e := blsOf_rep h2 r'
        subst e
        exact ⟨a, bs, rfl, f, P.fin A (of_bl _)⟩
      · exact P.elim
    · exact P.elim
  · exact P.elim
def sumD (ds : List D) (S : Store) : Res D := match ds with
  | [d] => match rdL S d with
    | some es => match intsOf es with
      | some ns => .ok (.int ns.sum) S
      | none => .stuck
    | none => .stuck
  | _ => .stuck
theorem cd_sum (hc : X.calm = true) : CallD X W (.builtin "sum") sumD := by
  refine ⟨_, cr_sum hc, fun w H S ds vs σ Q A r P => ?_⟩
  unfold sumD at P
  split at P
  · split at P
    · split at P
      · rename_i d _ es h1 _ bs h2
        obtain ⟨v, rfl, r1⟩ := reps1 r
        obtain ⟨a, us, rfl, f, r'⟩ := rdL_rep A h1 r1
        have e := intsOf_rep h2 r'
        subst e
        exact ⟨a, bs, rfl, f, P.fin A (of_int _)⟩
      · exact P.elim
    · exact P.elim
  · exact P.elim
/-- list(text) -/
theorem call_list_text (hc : X.calm = true) : CallR X (.type "list") (fun xs H Q => ∃ z : Str, xs = [.str z] ∧ z.length ≤ sizeLine ∧ ∀ l, H l = none → Q (.ref l) (upd H l (.lst (z.cps.toList.map fun c => V.str ⟨#[c]⟩)))) := by
  intro pins s σ H xs us Q I r h
  obtain ⟨z, rfl, hz, q⟩ := h
  obtain ⟨u, rfl, t, rfl⟩ := vals1 r
  have hz' : z.cps.size ≤ sizeLine := hz
  refine PySem.call_list_str (hn := hz') (I.ok.hd hc) z t fun h' tk acc' c' hk hS' hacc => ?_
  have hl : acc'.size = z.cps.size := hacc.1
  have rv : Vals (z.cps.toList.map fun c => V.str ⟨#[c]⟩) acc'.toList := by
    have key : ∀ (cs : List Nat) (vs : List Value), vs.length = cs.length → (∀ (i : Nat) (v : Value), vs[i]? = some v → ∃ c u, cs[i]? = some c ∧ v = .str ⟨#[c]⟩ u) → Vals (cs.map fun c => V.str ⟨#[c]⟩) vs := by
      intro cs
      induction cs with
      | nil => intro vs h _; cases vs with
        | nil => exact .nil
        | cons v vs => simp at h
      | cons c cs ih =>
        intro vs h hv
        cases vs with
        | nil => simp at h
        | cons v vs =>
          obtain ⟨c', u, e1, e2⟩ := hv 0 v (by simp)
          simp at e1
          subst e1
          exact .cons ⟨u, e2⟩ (ih vs (by simpa using h) fun i v' e => by
            obtain ⟨c'', u', e3, e4⟩ := hv (i + 1) v' (by simpa using e)
            exact ⟨c'', u', by simpa using e3, e4⟩)
    refine key _ _ (by simp [hl]) fun i v e => ?_
    have hi : i < acc'.size := by
      have := (List.getElem?_eq_some_iff.mp e).1
      simpa using this
    have hv : acc'[i]? = some v := by simpa using e
    obtain ⟨c, u', hc1, rfl⟩ := hacc.2 i v hv
    exact ⟨c, u', by simpa using hc1, rfl⟩
  exact ⟨.ref _, upd H s.heap.objs.size (.lst (z.cps.toList.map fun c => V.str ⟨#[c]⟩)), I.laid (t' := tk) hk (Nat.le_refl _) ⟨by simpa using hz', acc'.toList, c', rv, by simpa using hS'⟩, rfl, q _ (I.hok.fresh (Nat.le_refl _))⟩
end
end L3
namespace L3
open PySem PySem.Spec L2

section
variable {X : Cx} {W : XW} {x : Str} {p pos cpos apos : Pos} {e o : Expr} {es : List Expr} {ms : DSt → Store → Res (List D)} {T : String}
/-! ### list(..), tuple(..) -/
def itemsOf (S : Store) (d : D) : Option (List D) := match d with
  | .str z => if z.length ≤ sizeLine then some (signsOf z) else none
  | d => seqOf S d
theorem signs_rep {K : PySem.W.Frag} {w : Wd} {H : Hp} : ∀ cs : List Nat, Reps K w H (cs.map fun c => D.str ⟨#[c]⟩) (cs.map fun c => V.str ⟨#[c]⟩)
  | [] => .nil
  | c :: cs => .cons (of_str _) (signs_rep cs)
def listD (mu : Bool) (ds : List D) (S : Store) : Res D := match ds with
  | [d] => match itemsOf S d with
    | some es => if mu = true then .ok (.loc S.length) (S ++ [.lst es]) else .ok (.lst es) S
    | none => .stuck
  | _ => .stuck
theorem newL {K : PySem.W.Frag} {mg : Str → Option Value} {W : XW} {σ : L2.St} {w : Wd} {H : Hp} {S : Store} {Q : VK} {es : List D} {vs : List V} {mu : Bool} (A : Ab K w H mg S) (r : Reps K w H es vs)
    (P : Post K mg (Rep K) W σ w H (if mu = true then .ok (.loc S.length) (S ++ [.lst es]) else .ok (.lst es) S) Q) : ∀ l, H l = none → Q (.ref l) (upd H l (.lst vs)) := by
  intro l hl
  split at P
  · exact P _ _ _ (Ex.newM hl) (newLst A hl r) (Rep.locNew A)
  · exact P w _ _ (Ex.new hl) (A.newF hl) (Rep.lstNew A hl r)
theorem cd_list (hc : X.calm = true) (mu : Bool) : CallD X W (.type "list") (listD mu) := by
  refine ⟨_, call_list_of.or (call_list_text hc), fun w H S ds vs σ Q A r P => ?_⟩
  unfold listD at P
  split at P
  · rename_i d
    obtain ⟨v, rfl, r1⟩ := reps1 r
    split at P
    · rename_i es h1
      unfold itemsOf at h1
      split at h1
      · split at h1
        · rename_i z hz
          cases h1
          exact .inr ⟨z, by rw [rep_str r1], hz, newL A (signs_rep _) P⟩
        · cases h1
      · unfold seqOf at h1
        split at h1
        · rename_i h2
          cases h1
          obtain ⟨a, us, rfl, f, r'⟩ := rdL_rep A h2 r1
          exact .inl ⟨a, us, rfl, .inl f, newL A r' P⟩
        · obtain ⟨a, us, rfl, f, r'⟩ := rdT_rep h1 r1
          exact .inl ⟨a, us, rfl, .inr f, newL A r' P⟩
    · exact P.elim
  · exact P.elim
def tupleD (ds : List D) (S : Store) : Res D := match ds with
  | [d] => match rdL S d with
    | some es => .ok (.tup es) S
    | none => match d with
      | .tup es => .ok (.tup es) S
      | _ => .stuck
  | _ => .stuck
theorem cd_tuple : CallD X W (.type "tuple") tupleD := by
  refine ⟨_, call_tuple_of, fun w H S ds vs σ Q A r P => ?_⟩
  unfold tupleD at P
  split at P
  · rename_i d
    obtain ⟨v, rfl, r1⟩ := reps1 r
    split at P
    · rename_i es h1
      obtain ⟨a, us, rfl, f, r'⟩ := rdL_rep A h1 r1
      exact ⟨a, us, rfl, .inl ⟨f, fun l hl => P w _ _ (Ex.new hl) (A.newF hl) (Rep.tupNew A hl r')⟩⟩
    · split at P
      · obtain ⟨a, us, rfl, f, r'⟩ := tup_rep r1
        exact ⟨a, us, rfl, .inr ⟨.of f, P.fin A r1⟩⟩
      · exact P.elim
  · exact P.elim

/-! ### isinstance(x, a built-in class) -/
def tyName (S : Store) : D → Option String
  | .non => some "NoneType"
  | .bl _ => some "bool"
  | .int _ => some "int"
  | .str _ => some "str"
  | .tup _ => some "tuple"
  | .ktp _ => none
  | .lst _ => some "list"
  | .frz _ => none
  | .loc l => match S[l]? with
    | some (.lst _) => some "list"
    | some (.dK _) => some "dict"
    | some (.dT _) => some "dict"
    | _ => none
  | .exn _ => none
  | .exf _ _ _ _ => none
def isiD (T : String) (d : D) (S : Store) : Res D := match tyName S d with
  | some n => match kitB n T with
    | some b => .ok (.bl b) S
    | none => .stuck
  | none => .stuck
theorem tyName_rep {K : PySem.W.Frag} {mg : Str → Option Value} {w : Wd} {H : Hp} {S : Store} (A : Ab K w H mg S) {d : D} {n : String} {v : V} (h : tyName S d = some n) (r : Rep K w H d v) : TyX K H v (.type n) := by
  cases d with
  | non => cases h; rw [rep_non r]; exact .base .non
  | bl b => cases h; rw [rep_bl r]; exact .base (.bl b)
  | int b => cases h; rw [rep_int r]; exact .base (.int b)
  | str b => cases h; rw [rep_str r]; exact .base (.str b)
  | tup ds =>
    cases h
    obtain ⟨a, vs, rfl, f, _⟩ := tup_rep r
    exact .base (.tup f)
  | ktp ds => cases h
  | exn a => cases h
  | exf _ _ _ _ => cases h
  | lst ds =>
    cases h
    simp only [Rep] at r
    obtain ⟨a, vs, rfl, f, _⟩ := r
    exact .base (.lst f.2.2)
  | frz ds => cases h
  | loc l =>
    simp only [tyName] at h
    simp only [Rep] at r
    obtain ⟨a, el, rfl⟩ := r
    split at h
    · rename_i q
      cases h
      obtain ⟨u, eu, vs, rfl, _⟩ := A.ob l a _ el q
      exact .base (.lst eu)
    · rename_i q
      cases h
      obtain ⟨u, eu, vs, rfl, _⟩ := A.ob l a _ el q
      exact .base (.dK eu)
    · rename_i q
      cases h
      obtain ⟨u, eu, vs, rfl, _⟩ := A.ob l a _ el q
      exact .base (.dT eu)
    · cases h
theorem pm_isi {m : DSt → Store → Res D} {tn : Str} {p2 : Pos} (hg : Gl X "isinstance") (hm : X.mg "isinstance" = none) (hv : bootBuiltins "isinstance" = some (.builtin "isinstance")) (ha : PM X W e m)
    (hg2 : Gl X tn) (hm2 : X.mg tn = none) (hv2 : bootBuiltins tn = some (.type T)) (hn2 : tn ≠ "__name__" := by decide) (hdb2 : (tn == ("__debug__" : Str)) = false := by decide)
    (he : starEach [e, .Name tn p2] X.env = (false, eval e X.env) :: starEach [.Name tn p2] X.env := by rfl) (hpl : (backTo pos (starEach [.Name tn p2] X.env)).any (·.1) = false := by rfl)
    (he2 : starEach [.Name tn p2] X.env = (false, eval (.Name tn p2) X.env) :: starEach [] X.env := by rfl) : PM X W (.Call (.Name "isinstance" p) [e, .Name tn p2] [] pos) (m1 m (isiD T)) := by
  refine PE.imp (pe_callB call_isi hg hm hv (pa_cons ha (pa_cons (pe_bltn hg2 hm2 hv2 (v := .ty T) rfl hn2 hdb2) pa_nil he2) he) (by decide) (by decide) he hpl) fun σ H Q ⟨w, dσ, S, A, R, P⟩ => ?_
  refine ⟨w, dσ, S, A, R, P.bind fun d S1 w1 H1 v e1 A1 r1 P1 => ?_⟩
  unfold isiD at P1
  split at P1
  · rename_i n h1
    split at P1
    · rename_i b h2
      exact ⟨v, .ty T, .type n, .type T, b, rfl, .ty T, tyName_rep A1 h1 r1, kit_ty h2, P1.fin A1 (of_bl _)⟩
    · exact P1.elim
  · exact P1.elim

/-! ### methods of built-in types -/
def MtD (X : Cx) (W : XW) (T : String) (bid : String) (g : D → List D → Store → Res D) : Prop := ∃ r, MtR X bid r ∧ ∀ w H S d ds v vs σ Q, Ab X.K w H X.mg S → Rep X.K w H d v → Reps X.K w H ds vs → Post X.K X.mg (Rep X.K) W σ w H (g d ds S) Q → r v vs H Q
/-- the receiver is of the type -/
def tyOk (T : String) (S : Store) (d : D) : Bool := match d with
  | .str _ => T == "str"
  | .lst _ => T == "list"
  | .frz _ => T == "list"
  | .loc l => match S[l]? with
    | some (.lst _) => T == "list"
    | some (.dK _) => T == "dict"
    | some (.dT _) => T == "dict"
    | _ => false
  | _ => false
theorem tyOk_rep {K : PySem.W.Frag} {mg : Str → Option Value} {w : Wd} {H : Hp} {S : Store} (A : Ab K w H mg S) {d : D} {v : V} (h : tyOk T S d = true) (r : Rep K w H d v) : tyV K T v H := by
  cases d with
  | str b => rw [rep_str r]; exact beq_iff_eq.mp h
  | lst ds =>
    simp only [Rep] at r
    obtain ⟨a, vs, rfl, f, _⟩ := r
    exact .inl ⟨beq_iff_eq.mp h, vs, f.sq⟩
  | frz ds =>
    simp only [Rep] at r
    obtain ⟨a, vs, rfl, f, _⟩ := r
    exact .inl ⟨beq_iff_eq.mp h, vs, f.sq⟩
  | loc l =>
    simp only [tyOk] at h
    simp only [Rep] at r
    obtain ⟨a, el, rfl⟩ := r
    split at h
    · rename_i q
      obtain ⟨u, eu, vs, rfl, _⟩ := A.ob l a _ el q
      exact .inl ⟨beq_iff_eq.mp h, vs, .of eu⟩
    · rename_i q
      obtain ⟨u, eu, vs, rfl, _⟩ := A.ob l a _ el q
      exact .inr (.inr (.inl ⟨beq_iff_eq.mp h, .inl ⟨vs, eu⟩⟩))
    · rename_i q
      obtain ⟨u, eu, vs, rfl, _⟩ := A.ob l a _ el q
      exact .inr (.inr (.inl ⟨beq_iff_eq.mp h, .inr ⟨vs, eu⟩⟩))
    · cases h
  | _ => simp [tyOk] at h
def mBM (T : String) (g : D → List D → Store → Res D) (mo : DSt → Store → Res D) (ms : DSt → Store → Res (List D)) (σ : DSt) (S : Store) : Res D :=
  (mo σ S).bind fun d S1 => if tyOk T S1 d = true then (ms σ S1).bind fun ds S2 => g d ds S2 else .stuck
theorem pm_bm {mo : DSt → Store → Res D} {name : Str} {bid : String} {g : D → List D → Store → Res D} (hm : MtD X W T bid g) (pa : PlainAttrs T) (slot : Slot T name bid) (hty : typeOf (.builtin bid) = pure (.type "method_descriptor")) (ho : PM X W o mo) (ha : PMA X W (e :: es) ms)
    (hbase : attributeBase o name X.env (eval o X.env) = eval o X.env := by rfl)
    (hfew : ((backTo cpos (starEach (e :: es) X.env)).all (fun x => !x.1) && (backToKw cpos (keywordEach [] X.env)).all (fun x => x.1.isSome)
      && decide ((e :: es).length + ([] : List Keyword).length + (if ([] : List Keyword).isEmpty then 0 else 1) < 30)) = true := by rfl)
    (hline : (apos.endLine == cpos.line) = true := by rfl) (hs : starEach (e :: es) X.env = (false, eval e X.env) :: starEach es X.env := by rfl) (hplain : (backTo cpos (starEach es X.env)).any (·.1) = false := by rfl) :
    PM X W (.Call (.Attribute o name apos) (e :: es) [] cpos) (mBM T g mo ms) := by
  obtain ⟨r, h1, h2⟩ := hm
  refine PE.imp (pe_bm pa slot hty h1 ho ha hbase hfew hline hs hplain) fun σ H Q ⟨w, dσ, S, A, R, P⟩ => ⟨w, dσ, S, A, R, P.bind fun d S1 w1 H1 v e1 A1 r1 P1 => ?_⟩
  split at P1
  · rename_i ht
    exact ⟨tyOk_rep A1 ht r1, w1, dσ, S1, A1, R.mono e1, P1.bind fun ds S2 w2 H2 vs e2 A2 r2 P2 => h2 w2 H2 S2 d ds v vs σ Q A2 (r1.mono e2) r2 P2⟩
  · exact P1.elim
theorem pm_bm0 {mo : DSt → Store → Res D} {name : Str} {bid : String} {g : D → List D → Store → Res D} (hm : MtD X W T bid g) (pa : PlainAttrs T) (slot : Slot T name bid) (hty : typeOf (.builtin bid) = pure (.type "method_descriptor")) (ho : PM X W o mo)
    (hbase : attributeBase o name X.env (eval o X.env) = eval o X.env := by rfl) (hline : (apos.endLine == cpos.line) = true := by rfl) : PM X W (.Call (.Attribute o name apos) [] [] cpos) (mBM T g mo mNil) := by
  obtain ⟨r, h1, h2⟩ := hm
  refine PE.imp (pe_bm0 pa slot hty h1 ho hbase hline) fun σ H Q ⟨w, dσ, S, A, R, P⟩ => ⟨w, dσ, S, A, R, P.bind fun d S1 w1 H1 v e1 A1 r1 P1 => ?_⟩
  split at P1
  · rename_i ht
    exact ⟨tyOk_rep A1 ht r1, h2 w1 H1 S1 d [] v [] σ Q A1 r1 .nil P1⟩
  · exact P1.elim
/-- a mutable list -/
def mutL (S : Store) : D → Option (Nat × List D)
  | .loc l => match S[l]? with
    | some (.lst ds) => some (l, ds)
    | _ => none
  | _ => none
theorem mutL_rep {K : PySem.W.Frag} {mg : Str → Option Value} {w : Wd} {H : Hp} {S : Store} (A : Ab K w H mg S) {d : D} {v : V} {l : Nat} {ds : List D} (h : mutL S d = some (l, ds)) (r : Rep K w H d v) :
    ∃ a vs, v = .ref a ∧ w.M[l]? = some a ∧ a ∈ w.M ∧ H a = some (.lst vs) ∧ Reps K w H ds vs := by
  cases d with
  | loc l' =>
    simp only [mutL] at h
    split at h
    · rename_i q
      cases h
      simp only [Rep] at r
      obtain ⟨a, el, rfl⟩ := r
      obtain ⟨u, eu, vs, rfl, r⟩ := A.ob _ a _ el q
      exact ⟨a, vs, rfl, el, List.mem_of_getElem? el, eu, r⟩
    · cases h
  | _ => simp [mutL] at h
def appendD (d : D) (ds : List D) (S : Store) : Res D := match mutL S d, ds with
  | some (l, es), [e] => if es.length < sizeLine then .ok .non (S.set l (.lst (es ++ [e]))) else .stuck
  | _, _ => .stuck
theorem md_append : MtD X W "list" "list.append" appendD := by
  refine ⟨_, mt_append, fun w H S d ds v vs σ Q A r rs P => ?_⟩
  unfold appendD at P
  split at P
  · split at P
    · rename_i l es e h1 hz
      obtain ⟨a, us, rfl, el, hm, eu, r'⟩ := mutL_rep A h1 r
      obtain ⟨u, rfl, r1⟩ := reps1 rs
      exact ⟨a, us, u, rfl, rfl, eu, by rw [← r'.length]; exact hz, P w _ _ (Ex.wr hm (nz_lst eu)) (A.wr el (nz_lst eu) ⟨_, rfl, r'.append (.cons r1 .nil)⟩) of_non⟩
    · exact P.elim
  · exact P.elim
def extendD (d : D) (ds : List D) (S : Store) : Res D := match mutL S d, ds with
  | some (l, es), [e] => match exL S e with
    | some fs => if es.length + fs.length ≤ sizeLine then .ok .non (S.set l (.lst (es ++ fs))) else .stuck
    | none => .stuck
  | _, _ => .stuck
theorem md_extend : MtD X W "list" "list.extend" extendD := by
  refine ⟨_, mt_extend, fun w H S d ds v vs σ Q A r rs P => ?_⟩
  unfold extendD at P
  split at P
  · rename_i l es e h1
    split at P
    · rename_i fs h2
      split at P
      · rename_i hz
        obtain ⟨a, us, rfl, el, hm, eu, r'⟩ := mutL_rep A h1 r
        obtain ⟨u, rfl, r1⟩ := reps1 rs
        obtain ⟨b, us2, rfl, f, r2⟩ := exL_rep A h2 r1
        exact ⟨a, b, us, us2, rfl, rfl, eu, f, by rw [← r'.length, ← r2.length]; exact hz, P w _ _ (Ex.wr hm (nz_lst eu)) (A.wr el (nz_lst eu) ⟨_, rfl, r'.append r2⟩) of_non⟩
      · exact P.elim
    · exact P.elim
  · exact P.elim
def popD (d : D) (ds : List D) (S : Store) : Res D := match mutL S d, ds with
  | some (l, es), [] => match es[es.length - 1]? with
    | some e => .ok e (S.set l (.lst es.dropLast))
    | none => .stuck
  | some (l, es), [.int i] => if -(2 ^ 63) ≤ i ∧ i < 2 ^ 63 then (match seqIndex? i es.length with
    | some k => match es[k]? with
      | some e => .ok e (S.set l (.lst (es.eraseIdx k)))
      | none => .stuck
    | none => .stuck) else .stuck
  | _, _ => .stuck
theorem md_pop : MtD X W "list" "list.pop" popD := by
  refine ⟨_, L2.MtR.or (r := rPop) (r' := rPopAt) mt_pop mt_popAt, fun w H S d ds v vs σ Q A r rs P => ?_⟩
  unfold popD at P
  split at P
  · rename_i l es h1
    split at P
    · rename_i e h2
      obtain ⟨a, us, rfl, el, hm, eu, r'⟩ := mutL_rep A h1 r
      simp only [Reps] at rs
      obtain ⟨u, hu, ru⟩ := r'.get h2
      rw [r'.length] at hu
      exact .inl ⟨a, us, u, rfl, rs, eu, hu, P w _ _ (Ex.wr hm (nz_lst eu)) (A.wr el (nz_lst eu) ⟨_, rfl, r'.dropLast⟩) (ru.mono (Ex.wr hm (nz_lst eu)))⟩
    · exact P.elim
  · rename_i l es i h1
    split at P
    · rename_i hz
      split at P
      · rename_i k hk
        split at P
        · rename_i e h2
          obtain ⟨a, us, rfl, el, hm, eu, r'⟩ := mutL_rep A h1 r
          obtain ⟨u, rfl, r1⟩ := reps1 rs
          obtain ⟨y, hy, ry⟩ := r'.get h2
          exact .inr ⟨a, us, i, k, y, rfl, by rw [rep_int r1], eu, hz.1, hz.2, by rw [← r'.length]; exact hk, hy, P w _ _ (Ex.wr hm (nz_lst eu)) (A.wr el (nz_lst eu) ⟨_, rfl, r'.eraseIdx k⟩) (ry.mono (Ex.wr hm (nz_lst eu)))⟩
        · exact P.elim
      · exact P.elim
    · exact P.elim
  · exact P.elim
/-- texts -/
def joinD (d : D) (ds : List D) (S : Store) : Res D := match d, ds with
  | .str z, [e] => match seqOf S e with
    | some es => match strsOf es with
      | some ys => if (ys.map (·.length)).sum + ys.length * z.length ≤ 16777216 then .ok (.str (Txt.join z ys)) S else .stuck
      | none => .stuck
    | none => .stuck
  | _, _ => .stuck
theorem md_join : MtD X W "str" "str.join" joinD := by
  refine ⟨_, mt_join, fun w H S d ds v vs σ Q A r rs P => ?_⟩
  unfold joinD at P
  split at P
  · rename_i z e
    obtain ⟨u, rfl, r1⟩ := reps1 rs
    split at P
    · rename_i es h1
      split at P
      · rename_i ys h2
        split at P
        · rename_i hz
          unfold seqOf at h1
          split at h1
          · rename_i h3
            cases h1
            obtain ⟨a, us, rfl, f, r'⟩ := rdL_rep A h3 r1
            have e2 := strsOf_rep h2 r'
            subst e2
            exact ⟨z, a, ys, rep_str r, rfl, .inl f, hz, P.fin A (of_str _)⟩
          · obtain ⟨a, us, rfl, f, r'⟩ := rdT_rep h1 r1
            have e2 := strsOf_rep h2 r'
            subst e2
            exact ⟨z, a, ys, rep_str r, rfl, .inr f, hz, P.fin A (of_str _)⟩
        · exact P.elim
      · exact P.elim
    · exact P.elim
  · exact P.elim
theorem mt_sindex : MtR X "str.index" (fun x xs H Q => ∃ (a b : Str) (k : Nat), x = .str a ∧ xs = [.str b] ∧ Txt.index0 a b = some k ∧ Q (.int (k : Nat)) H) := by
  intro pins s σ H x xs v us Q I rx rs h
  obtain ⟨a, b, k, rfl, rfl, hy, q⟩ := h
  obtain ⟨t, rfl⟩ := rx
  obtain ⟨u, rfl, t', rfl⟩ := vals1 rs
  cases qo : Builtin.Str.occurrences a b 0 a.length 1 with
  | nil => unfold Txt.index0 at hy; rw [qo] at hy; cases hy
  | cons k' rest =>
    unfold Txt.index0 at hy
    rw [qo] at hy
    cases hy
    exact PySem.SC.index qo ⟨.int (k : Nat), H, I.tok _, ⟨_, rfl⟩, q⟩
def sindexD (d : D) (ds : List D) (S : Store) : Res D := match d, ds with
  | .str z, [.str y] => match Txt.index0 z y with
    | some k => .ok (.int (k : Nat)) S
    | none => .stuck
  | _, _ => .stuck
theorem md_sindex : MtD X W "str" "str.index" sindexD := by
  refine ⟨_, mt_sindex, fun w H S d ds v vs σ Q A r rs P => ?_⟩
  unfold sindexD at P
  split at P
  · split at P
    · rename_i z y _ k hk
      obtain ⟨u, rfl, r1⟩ := reps1 rs
      exact ⟨z, y, k, rep_str r, by rw [rep_str r1], hk, P.fin A (of_int _)⟩
    · exact P.elim
  · exact P.elim

/-! ### a text times an int; a text backwards -/
def repS (z : Str) (n : Nat) : Str := ⟨(List.replicate n z.cps.toList).flatten.toArray⟩
theorem op_mul_str : OpR X (binaryOp .Mult) (fun x y H Q => ∃ (z : Str) (i : Int), x = .str z ∧ y = .int i ∧ -(2 ^ 63) ≤ i ∧ i < 2 ^ 63 ∧ z.length * i.toNat ≤ 16777216 ∧ Q (.str (repS z i.toNat)) H) := by
  intro pins s σ H x y v u Q I rx ry h
  obtain ⟨z, i, rfl, rfl, h1, h2, h3, q⟩ := h
  obtain ⟨t, rfl⟩ := rx
  obtain ⟨t', rfl⟩ := ry
  have hlong : Builtin.Str.tooLong (z.length * i.toNat) = false := PyProof.Rows.short24 h3
  refine PySem.P.mul_str (by rw [decide_eq_false (by omega), decide_eq_false (by omega)]; rfl) (fun a b => ?_) (fun _ _ => hlong) ?_
  · have hi : 1 ≤ i := by omega
    have e : (2 ^ 63 - 1 : Int) / i ≥ z.length := by
      have : (z.length : Int) * i ≤ 16777216 := by
        have e2 : ((z.length * i.toNat : Nat) : Int) = z.length * i := by
          rw [Int.natCast_mul, Int.toNat_of_nonneg (by omega)]
        omega
      exact (Int.le_ediv_iff_mul_le (by omega)).mpr (by omega)
    omega
  · have hz0 : z.length = z.cps.size := rfl
    split
    · rename_i hlt
      have e : i.toNat = 0 := by omega
      rw [e] at q
      exact ⟨by decide, ⟨.str (repS z 0), H, I.tok _, ⟨_, rfl⟩, q⟩⟩
    · split
      · rename_i hlt hone
        have e : repS z i.toNat = z := by
          unfold repS
          rcases Bool.or_eq_true _ _ ▸ hone with a | a
          · have : i = 1 := beq_iff_eq.mp a
            subst this
            simp
          · have e0 : z.cps.size = 0 := by have := beq_iff_eq.mp a; rw [← hz0]; exact this
            have e1 : z.cps = #[] := Array.eq_empty_of_size_eq_zero e0
            have e2 : (List.replicate i.toNat z.cps.toList).flatten = [] := by
              rw [e1]
              induction i.toNat with
              | zero => rfl
              | succ n ih => rw [List.replicate_succ, List.flatten_cons, ih]; rfl
            rw [e2]
            cases z
            simp at e1
            subst e1
            rfl
        rw [e] at q
        exact ⟨.str z, H, I.tok s.toks, ⟨_, rfl⟩, q⟩
      · have key : ∀ (n : Nat) (acc : List Nat), (List.replicate n z.cps).foldl (· ++ ·) acc.toArray = (acc ++ (List.replicate n z.cps.toList).flatten).toArray := by
          intro n
          induction n with
          | zero => intro acc; simp
          | succ n ih =>
            intro acc
            rw [List.replicate_succ, List.foldl_cons, List.replicate_succ, List.flatten_cons]
            have e : acc.toArray ++ z.cps = (acc ++ z.cps.toList).toArray := by
              apply Array.toList_inj.mp
              simp
            rw [e, ih, List.append_assoc]
        have e : (⟨(List.replicate i.toNat z.cps).foldl (· ++ ·) #[]⟩ : Str) = repS z i.toNat := by
          have := key i.toNat []
          rw [List.nil_append] at this
          unfold repS
          rw [← this]
        rw [e]
        refine ⟨?_, ⟨.str (repS z i.toNat), H, I.tok _, ⟨_, rfl⟩, q⟩⟩
        have hl : (repS z i.toNat).length = z.length * i.toNat := by
          unfold repS Str.length
          simp [Nat.mul_comm]
        rw [hl]
        exact Nat.le_trans h3 (by decide)
def mulX (d e : D) (S : Store) : Res D := match d, e with
  | .str z, .int i => if -(2 ^ 63) ≤ i ∧ i < 2 ^ 63 ∧ z.length * i.toNat ≤ 16777216 then .ok (.str (repS z i.toNat)) S else .stuck
  | d, e => mulD d e S
theorem od_mulX : OpD X W (binaryOp .Mult) mulX := by
  obtain ⟨r, h1, h2⟩ := (od_mul : OpD X W (binaryOp .Mult) mulD)
  refine ⟨_, op_mul_str.or h1, fun w H S d e x y σ Q A rd re P => ?_⟩
  unfold mulX at P
  split at P
  · split at P
    · rename_i hz
      exact .inl ⟨_, _, rep_str rd, rep_int re, hz.1, hz.2.1, hz.2.2, P.fin A (of_str _)⟩
    · exact P.elim
  · exact .inr (h2 w H S _ _ x y σ Q A rd re P)
end
end L3
namespace L3
open PySem PySem.Spec L2
theorem revIdx (n : Nat) : Builtin.Str.strSliceIndices none none (-1) n = (List.range n).map fun k => n - 1 - k := by
  unfold Builtin.Str.strSliceIndices sliceRange
  simp only [show ¬ ((-1 : Int) > 0) by omega, if_false]
  have hc : (if ((n : Int) - 1 > -1) then ((n : Int) - 1 - -1 - -1 - 1) / (- -1) else 0).toNat = n := by
    split
    · have : ((n : Int) - 1 - -1 - -1 - 1) / (- -1) = n := by
        rw [show (- -1 : Int) = 1 by decide, Int.ediv_one]; omega
      rw [this]; rfl
    · omega
  rw [hc]
  refine List.map_congr_left fun k hk => ?_
  have := List.mem_range.mp hk
  omega
theorem pick_rev (l : List Nat) : ((List.range l.length).map fun k => l.length - 1 - k).filterMap (fun k => l[k]?) = l.reverse := by
  rw [List.filterMap_map]
  have h : ∀ m, m ≤ l.length → (List.range m).filterMap ((fun k => l[k]?) ∘ fun k => l.length - 1 - k) = (l.drop (l.length - m)).reverse := by
    intro m
    induction m with
    | zero => intro _; simp
    | succ m ih =>
      intro hm
      rw [List.range_succ, List.filterMap_append, ih (by omega)]
      have e : l[l.length - 1 - m]? = some l[l.length - 1 - m] := List.getElem?_eq_getElem (by omega)
      have e2 : l.drop (l.length - (m + 1)) = l[l.length - 1 - m] :: l.drop (l.length - m) := by
        have : l.length - (m + 1) = l.length - 1 - m := by omega
        rw [this, List.drop_eq_getElem_cons (by omega)]
        congr 2
        omega
      rw [e2, List.reverse_cons]
      simp [e]
  have := h l.length (Nat.le_refl _)
  simpa using this
def revS (z : Str) : Str := ⟨z.cps.toList.reverse.toArray⟩
theorem pe_revS {X : Cx} {e : Expr} {te : TE} {k : Nat} {p1 p2 p3 pos : Pos} (he : PE X e te) : PE X (.Subscript e (.Slice none none (some (.UnaryOp .USub (.Constant (.int 1) k p1) p2)) p3) pos)
    (fun σ H Q => te σ H fun x H1 => (∃ a xs, x = .ref a ∧ SqL X.K H1 a xs ∧ ∀ p, H1 p = none → Q (.ref p) (upd H1 p (.lst xs.reverse))) ∨ ∃ z, x = .str z ∧ z.length ≤ sizeLine ∧ Q (.str (revS z)) H1) := by
  refine ⟨fun pins s σ H Q I h => ?_⟩
  refine PyProof.Rows.Subscript_ (thn (he.run pins s σ H _ I h) fun v s1 ⟨x, H1, I1, r1, q1⟩ => ?_)
  have hst : PO X (some (.UnaryOp .USub (.Constant (.int 1) k p1) p2)) (tPart (tUn (rU fun i => .int (-i)) (tC (.int 1)))) := po_some (pe_un un_neg pe_int)
  refine wpAny_Slice (thn (po_none.run pins s1 σ H1 (fun o H2 => o = none ∧ H2 = H1) I1 ⟨rfl, rfl⟩) fun vl s2 ⟨l, H2, I2, pl, el, e2⟩ => ?_)
  subst el e2
  refine thn (po_none.run pins s2 σ H2 (fun o H3 => o = none ∧ H3 = H2) I2 ⟨rfl, rfl⟩) fun vu s3 ⟨u, H3, I3, pu, eu, e3⟩ => ?_
  subst eu e3
  refine thn (hst.run pins s3 σ H3 (fun o H4 => o = some (-1) ∧ H4 = H3) I3 ⟨1, rfl, -1, rfl, rfl, rfl⟩) fun vs s4 ⟨o, H4, I4, ps, eo, e4⟩ => ?_
  subst eo e4
  have I5 : Inv X pins σ H4 { s4 with heap := s4.heap.push { cls := .type "slice", data := .fields #[vl, vu, vs] } } := I4.kept (t' := s4.toks) fun b ob q => Heap.get?_push_of_some _ q
  rcases q1 with ⟨a, xs, ex, hx, q⟩ | ⟨z, ex, hzl, q⟩
  · subst ex
    cases r1
    obtain ⟨its, r, ht, hz⟩ := I5.list hx
    have hlen := r.length
    show wpAny (model X.prog X.w) X.A (PyProof.Rows.subscriptTail e (.Slice none none (some (.UnaryOp .USub (.Constant (.int 1) k p1) p2)) p3) (.ref a) (.ref s4.heap.objs.size)) (EP X pins σ Q) X.xe { s4 with heap := s4.heap.push { cls := .type "slice", data := .fields #[vl, vu, vs] } }
    refine PyProof.Rows.tail_any (ops := [.ref a, .ref s4.heap.objs.size]) ht.isList.typeIs (PySem.slot_list_getitem.lookup) ?_ (by with_unfolding_all rfl)
    refine wpAny_getItem_list_slice ht.isList (Heap.IsSliceOf.new _ vl vu vs) pl pu ps (by decide) ?_ (by rw [List.size_toArray]; have := I5.list hx; obtain ⟨_, _, _, hz⟩ := this; omega)
    rw [PySem.W.krv_pick]
    refine ⟨.ref _, _, I5.laid (t' := s4.toks) (o := .lst xs.reverse) (fun b ob q => Heap.get?_push_of_some _ q) (Nat.le_refl _) ?_, rfl, q _ (I5.hok.fresh (Nat.le_refl _))⟩
    exact ⟨by rw [List.length_reverse]; exact hz, _, 0, r.reverse, Heap.get?_push_size _ rfl⟩
  · subst ex
    obtain ⟨t, rfl⟩ := r1
    show wpAny (model X.prog X.w) X.A (PyProof.Rows.subscriptTail e (.Slice none none (some (.UnaryOp .USub (.Constant (.int 1) k p1) p2)) p3) (.str z t) (.ref s4.heap.objs.size)) (EP X pins σ Q) X.xe { s4 with heap := s4.heap.push { cls := .type "slice", data := .fields #[vl, vu, vs] } }
    refine PyProof.Rows.tail_any (ops := [.str z t, .ref s4.heap.objs.size]) (typeIs_str _ z t) PySem.F.slot_str_getitem.lookup ?_ (by with_unfolding_all rfl)
    cases pl
    cases pu
    cases ps with
    | int i tk =>
    refine wpAny_getItem_str_slice (l := none) (u := none) (st := some (-1, tk)) ⟨_, Heap.get?_push_size _ rfl, rfl, rfl⟩ rfl ?_
    have e1 : slicePicked z none none (some (-1, tk)) = (List.range z.length).map fun k => z.length - 1 - k := revIdx z.length
    unfold sliceMade
    rw [e1]
    have e2 : ¬ ((((some ((-1 : Int), tk)).map (·.1)).getD 1 == 1 && ((List.range z.length).map fun k => z.length - 1 - k).length == z.length) = true) := by
      simp
    rw [if_neg e2]
    have e3 : (⟨(((List.range z.length).map fun k => z.length - 1 - k).filterMap (z.cps[·]?)).toArray⟩ : Str) = revS z := by
      have h := pick_rev z.cps.toList
      unfold revS
      rw [← h]
      simp [Str.length]
    rw [e3]
    refine ⟨?_, ⟨.str (revS z), H4, I5.tok _, ⟨_, rfl⟩, q⟩⟩
    have hl : (revS z).length = z.length := by simp [revS, Str.length]
    rw [hl]
    exact hzl
def revD (d : D) (S : Store) : Res D := match d with
  | .str z => if z.length ≤ sizeLine then .ok (.str (revS z)) S else .stuck
  | d => match rdL S d with
    | some ds => .ok (.lst ds.reverse) S
    | none => .stuck
theorem pm_rev {X : Cx} {W : XW} {e : Expr} {m : DSt → Store → Res D} {k : Nat} {p1 p2 p3 pos : Pos} (he : PM X W e m) : PM X W (.Subscript e (.Slice none none (some (.UnaryOp .USub (.Constant (.int 1) k p1) p2)) p3) pos) (m1 m revD) :=
  PE.imp (pe_revS he) fun σ H Q ⟨w, dσ, S, A, R, P⟩ => ⟨w, dσ, S, A, R, P.bind fun d S1 w1 H1 v e1 A1 r1 P1 => by
    unfold revD at P1
    split at P1
    · split at P1
      · rename_i z hz
        exact .inr ⟨z, rep_str r1, hz, P1.fin A1 (of_str _)⟩
      · exact P1.elim
    · split at P1
      · rename_i ds hd
        obtain ⟨a, vs, rfl, f, r⟩ := rdL_rep A1 hd r1
        exact .inl ⟨a, vs, rfl, f, fun p hp => P1 w1 _ _ (Ex.new hp) (A1.newF hp) (Rep.lstNew A1 hp r.reverse)⟩
      · exact P1.elim⟩
section
variable {X : Cx} {W : XW} {pos : Pos} {elt tg iter : Expr} {ifs : List Expr} {scope : Scope} {own : List (Str × Nat)} {mi : DSt → Store → Res Src} {g : D → DSt → Store → Res DSt} {t : DSt → Store → Res Bool} {e : DSt → Store → Res D} {is : List Nat}
theorem pms_setLc {i : Nat} {y : Str} {py spos : Pos} (hc : X.calm = true) (hN : X.N.Nodup) (hy : X.N[i]? = some y) (hyl : X.env.scope.names.lookup y = some .local)
    (hsw : swapsWith (.ListComp elt [⟨tg, iter, ifs, 0⟩] scope pos) (some (.Name y py)) spos.line X.env = pure true) (hi : PMI X W tg iter mi) (ok : BlkOk X.N X.env.scope scope own)
    (hg : ∀ (s : Shared) (H : Hp) (C : Addr) (cl : List (Str × Addr)) (fp : List Addr), PMX (X.blk s H scope (compEnvC scope cl C X.env) fp) is tg g)
    (ht : ∀ (s : Shared) (H : Hp) (C : Addr) (cl : List (Str × Addr)) (fp : List Addr), PTs (X.blk s H scope (compEnvC scope cl C X.env) fp) ifs (tOfT X.K X.mg W0 t))
    (he : ∀ (s : Shared) (H : Hp) (C : Addr) (cl : List (Str × Addr)) (fp : List Addr), PM (X.blk s H scope (compEnvC scope cl C X.env) fp) W0 elt e) (his : ∀ i ∈ is, i ∈ own.map (·.2)) (hs : ∀ x, foldedSetIterable iter X.env x = pure x := by intro _; rfl) :
    PMS X W (.Assign [.Name y py] (.ListComp elt [⟨tg, iter, ifs, 0⟩] scope pos) spos) (mSet i (mLc mi g t e (own.map (·.2)))) :=
  PS.imp (ps_setLc hc hN hy hyl hsw hi ok hg ht he hs) fun D σ H ⟨w, dσ, S, A, R, P⟩ => by
    have P' : Post X.K X.mg (Rep X.K) W σ w H (mLc mi g t e (own.map (·.2)) dσ S) (fun x H1 => gName i x σ H1 D.nx) := P.bindE R fun d S1 w1 H1 v e1 A1 r1 P1 => P1.nx A1 ((R.mono e1).set r1 i)
    exact ⟨w, dσ, S, A, R, P'.bind fun src S1 w1 H1 J e1 A1 rj P1 => lc_imp his (fun A' hb _ hpB e' r' ex P' => fin_lst A' hb hpB e' r' ex P') A1 (R.mono e1) rj.1 rj.2 P1⟩
theorem pms_setLcM {i : Nat} {y : Str} {py spos : Pos} (hc : X.calm = true) (hN : X.N.Nodup) (hy : X.N[i]? = some y) (hyl : X.env.scope.names.lookup y = some .local)
    (hsw : swapsWith (.ListComp elt [⟨tg, iter, ifs, 0⟩] scope pos) (some (.Name y py)) spos.line X.env = pure true) (hi : PMI X W tg iter mi) (ok : BlkOk X.N X.env.scope scope own)
    (hg : ∀ (s : Shared) (H : Hp) (C : Addr) (cl : List (Str × Addr)) (fp : List Addr), PMX (X.blk s H scope (compEnvC scope cl C X.env) fp) is tg g)
    (ht : ∀ (s : Shared) (H : Hp) (C : Addr) (cl : List (Str × Addr)) (fp : List Addr), PTs (X.blk s H scope (compEnvC scope cl C X.env) fp) ifs (tOfT X.K X.mg W0 t))
    (he : ∀ (s : Shared) (H : Hp) (C : Addr) (cl : List (Str × Addr)) (fp : List Addr), PM (X.blk s H scope (compEnvC scope cl C X.env) fp) W0 elt e) (his : ∀ i ∈ is, i ∈ own.map (·.2)) (hs : ∀ x, foldedSetIterable iter X.env x = pure x := by intro _; rfl) :
    PMS X W (.Assign [.Name y py] (.ListComp elt [⟨tg, iter, ifs, 0⟩] scope pos) spos) (mSet i (mLcM mi g t e (own.map (·.2)))) :=
  PS.imp (ps_setLc hc hN hy hyl hsw hi ok hg ht he hs) fun D σ H ⟨w, dσ, S, A, R, P⟩ => by
    have P' : Post X.K X.mg (Rep X.K) W σ w H (mLcM mi g t e (own.map (·.2)) dσ S) (fun x H1 => gName i x σ H1 D.nx) := P.bindE R fun d S1 w1 H1 v e1 A1 r1 P1 => P1.nx A1 ((R.mono e1).set r1 i)
    exact ⟨w, dσ, S, A, R, P'.bind fun src S1 w1 H1 J e1 A1 rj P1 p hp => lc_imp his (fun A' hb hp hpB e' r' ex P' => fin_lstM A' hb hpB hp e' r' ex P') A1 (R.mono e1) rj.1 rj.2 P1 p hp⟩
/-- constants of the module -/
theorem pm_gstr {x s : Str} {ps : Pos} (hg : Gl X x) (h : ∃ t, X.mg x = some (.str s t)) (hd : (x == ("__debug__" : Str)) = false := by decide) : PM X W (.Name x ps) (mC (.str s)) :=
  let ⟨t, e⟩ := h
  pm_glob (v := .str s) hg e ⟨t, rfl⟩ (fun _ _ => of_str s) hd
theorem pm_gint {x : Str} {i : Int} {ps : Pos} (hg : Gl X x) (h : ∃ t, X.mg x = some (.int i t)) (hd : (x == ("__debug__" : Str)) = false := by decide) : PM X W (.Name x ps) (mC (.int i)) :=
  let ⟨t, e⟩ := h
  pm_glob (v := .int i) hg e ⟨t, rfl⟩ (fun _ _ => of_int i) hd
end
theorem bb_len : bootBuiltins "len" = some (.builtin "len") := by decide +kernel
theorem bb_abs : bootBuiltins "abs" = some (.builtin "abs") := by decide +kernel
theorem bb_max : bootBuiltins "max" = some (.builtin "max") := by decide +kernel
theorem bb_min : bootBuiltins "min" = some (.builtin "min") := by decide +kernel
theorem bb_all : bootBuiltins "all" = some (.builtin "all") := by decide +kernel
theorem bb_any : bootBuiltins "any" = some (.builtin "any") := by decide +kernel
theorem bb_sum : bootBuiltins "sum" = some (.builtin "sum") := by decide +kernel
theorem bb_sorted : bootBuiltins "sorted" = some (.builtin "sorted") := by decide +kernel
theorem bb_isinstance : bootBuiltins "isinstance" = some (.builtin "isinstance") := by decide +kernel
theorem bb_int : bootBuiltins "int" = some (.type "int") := by decide +kernel
theorem bb_str : bootBuiltins "str" = some (.type "str") := by decide +kernel
theorem bb_bool : bootBuiltins "bool" = some (.type "bool") := by decide +kernel
theorem bb_list : bootBuiltins "list" = some (.type "list") := by decide +kernel
theorem bb_tuple : bootBuiltins "tuple" = some (.type "tuple") := by decide +kernel
theorem bb_dict : bootBuiltins "dict" = some (.type "dict") := by decide +kernel
theorem bb_set : bootBuiltins "set" = some (.type "set") := by decide +kernel
end L3
namespace L3
open PySem PySem.Spec L2
/-! ### the law's own promise -/
/-- at a script of ints the law says True -/
def Says (den : List D → Store → Res D) : Prop := ∀ ns : List Int, ns.length ≤ 63 → ∃ S', den [.frz (ns.map D.int)] [] = .ok (.bl true) S'
def spOut (K : PySem.W.Frag) (den : List D → Store → Res D) : Sp := fun vs H Q E => ∀ mg, spD K mg 1 den vs H Q E
theorem FnOk.out {P : Program} {w : World} {K : PySem.W.Frag} {mg : Str → Option Value} {base : Heap} {k : Nat} {f : Addr} {fd : FuncData} {ps : List Str} {den : List D → Store → Res D} (F : FnOk P w K mg base CX0 k f fd ps (spD K mg 1 den)) :
    FnOk P w K mg base CX0 k f fd ps (spOut K den) := F.imp fun _ _ _ _ h => h mg
theorem reps_ints {K : PySem.W.Frag} {w : Wd} {H : Hp} : ∀ ns : List Int, Reps K w H (ns.map D.int) (ns.map V.int)
  | [] => .nil
  | n :: ns => .cons rfl (reps_ints ns)
theorem says_out {K : PySem.W.Frag} {den : List D → Store → Res D} (h : Says den) {H : Hp} {a : Addr} {ns : List Int} (hl : ns.length ≤ 63) (hS : SqL K H a (ns.map V.int)) : spOut K den [.ref a] H (fun v _ => v = .bl true) E0 := by
  intro mg
  obtain ⟨S', e⟩ := h ns hl
  refine ⟨⟨[], []⟩, [.frz (ns.map D.int)], [], ⟨rfl, List.nodup_nil, fun _ h => (List.not_mem_nil h).elim, fun _ h => (List.not_mem_nil h).elim, fun l a o h => by simp at h⟩, .cons ⟨a, _, rfl, ?_, reps_ints ns⟩ .nil, rfl, ?_⟩
  · rcases hS with h | h
    · exact .inl ⟨List.not_mem_nil, List.not_mem_nil, h⟩
    · exact .inr (.inr h)
  · rw [e]
    exact fun w' H' v _ _ r => r
end L3
namespace L3
open PySem PySem.Spec L2

/-! ### in, not in; how often a text stands in a text -/
section
variable {X : Cx} {W : XW}
/-- a tuple's data -/
theorem op_inT (hu : X.A.units + 65 < cLine) : OpR X (compareOp .In) (fun x y H Q => ∃ d ds, Dp X.K H x d ∧ Dp X.K H y (.tuple ds) ∧ SeqAt.shaped d = true ∧ SeqAt.shaped (.tuple ds) = true ∧ Q (.bl (ds.any fun z => PyData.eqv z d)) H) := fun pins s σ H x y v u Q I rx ry ⟨d, ds, hd, he, sd, se, q⟩ => by
  obtain ⟨as, r1⟩ := Dp.reads I d x v hd rx
  obtain ⟨bs, r2⟩ := Dp.reads I (.tuple ds) y u he ry
  exact SeqAt.in_tuple_reads r2 r1
    (SeqAt.canLay_of_shaped se) (SeqAt.canLay_of_shaped sd) (PyProof.Rows.room_in_shaped sd hu) ⟨.bl _, H, I, rfl, q⟩
theorem op_notInT (hu : X.A.units + 65 < cLine) : OpR X (compareOp .NotIn) (fun x y H Q => ∃ d ds, Dp X.K H x d ∧ Dp X.K H y (.tuple ds) ∧ SeqAt.shaped d = true ∧ SeqAt.shaped (.tuple ds) = true ∧ Q (.bl (!ds.any fun z => PyData.eqv z d)) H) := fun pins s σ H x y v u Q I rx ry ⟨d, ds, hd, he, sd, se, q⟩ => by
  obtain ⟨as, r1⟩ := Dp.reads I d x v hd rx
  obtain ⟨bs, r2⟩ := Dp.reads I (.tuple ds) y u he ry
  exact SeqAt.notIn_tuple_reads r2 r1
    (SeqAt.canLay_of_shaped se) (SeqAt.canLay_of_shaped sd) (PyProof.Rows.room_in_shaped sd hu) ⟨.bl _, H, I, rfl, q⟩
def inD (neg : Bool) (d e : D) (S : Store) : Res D := match d, e with
  | .str x, .str y => .ok (.bl (xor neg (!(Builtin.Str.occurrences y x 0 y.length 1).isEmpty))) S
  | d, e => match pyS S d, pyS S e with
    | some p, some (.list ds) => if SeqAt.shaped p = true ∧ SeqAt.shaped (.list ds) = true then .ok (.bl (xor neg (ds.any fun z => PyData.eqv z p))) S else .stuck
    | some p, some (.tuple ds) => if SeqAt.shaped p = true ∧ SeqAt.shaped (.tuple ds) = true then .ok (.bl (xor neg (ds.any fun z => PyData.eqv z p))) S else .stuck
    | _, _ => match dlook S e d with
      | some r => .ok (.bl (xor neg r.isSome)) S
      | none => .stuck
theorem op_inDc (hu : X.A.units + 1 < cLine) : OpR X (compareOp .In) (fun x y H Q => ∃ a o, y = .ref a ∧ DGet H a x o ∧ Q (.bl o.isSome) H) := fun pins s σ H x y v u Q I rx ry ⟨a, o, e, g, q⟩ => by
  subst e
  obtain rfl : u = Value.ref a := ry
  exact d_in hu I g rx fun s3 I3 => ⟨.bl o.isSome, H, I3, rfl, q⟩
theorem op_notInDc (hu : X.A.units + 1 < cLine) : OpR X (compareOp .NotIn) (fun x y H Q => ∃ a o, y = .ref a ∧ DGet H a x o ∧ Q (.bl (!o.isSome)) H) := fun pins s σ H x y v u Q I rx ry ⟨a, o, e, g, q⟩ => by
  subst e
  obtain rfl : u = Value.ref a := ry
  exact d_notIn hu I g rx fun s3 I3 => ⟨.bl (!o.isSome), H, I3, rfl, q⟩
theorem repO_some {K : PySem.W.Frag} {w : Wd} {H : Hp} {o : Option D} {r : Option V} (h : RepO K w H o r) (hn : o = none → r = none) : r.isSome = o.isSome := by
  cases o with
  | none => rw [hn rfl]; rfl
  | some d => cases r with
    | none => exact h.elim
    | some v => rfl
theorem od_in (hu : X.A.units + 65 < cLine) : OpD X W (compareOp .In) (inD false) := by
  refine ⟨_, op_in_str.or ((op_inD hu).or ((op_inT hu).or (op_inDc (by omega)))), fun w H S d e x y σ Q A rd re P => ?_⟩
  unfold inD at P
  split at P
  · rw [Bool.false_xor] at P
    exact .inl ⟨_, _, rep_str rd, rep_str re, P.fin A (of_bl _)⟩
  · split at P
    · rename_i p ds h1 h2
      split at P
      · rename_i hs
        rw [Bool.false_xor] at P
        exact .inr (.inl ⟨_, _, pyS_rep A h1 rd, pyS_rep A h2 re, hs.1, hs.2, P.fin A (of_bl _)⟩)
      · exact P.elim
    · rename_i p ds h1 h2
      split at P
      · rename_i hs
        rw [Bool.false_xor] at P
        exact .inr (.inr (.inl ⟨_, _, pyS_rep A h1 rd, pyS_rep A h2 re, hs.1, hs.2, P.fin A (of_bl _)⟩))
      · exact P.elim
    · split at P
      · rename_i r h
        obtain ⟨a, o, rfl, g, ro, hn⟩ := dlook_rep A h re rd
        rw [Bool.false_xor, ← repO_some ro hn] at P
        exact .inr (.inr (.inr ⟨a, o, rfl, g, P.fin A (of_bl _)⟩))
      · exact P.elim
theorem od_notin (hu : X.A.units + 65 < cLine) : OpD X W (compareOp .NotIn) (inD true) := by
  refine ⟨_, op_notin_str.or ((op_notInD hu).or ((op_notInT hu).or (op_notInDc (by omega)))), fun w H S d e x y σ Q A rd re P => ?_⟩
  unfold inD at P
  split at P
  · rw [Bool.true_xor] at P
    exact .inl ⟨_, _, rep_str rd, rep_str re, P.fin A (of_bl _)⟩
  · split at P
    · rename_i p ds h1 h2
      split at P
      · rename_i hs
        rw [Bool.true_xor] at P
        exact .inr (.inl ⟨_, _, pyS_rep A h1 rd, pyS_rep A h2 re, hs.1, hs.2, P.fin A (of_bl _)⟩)
      · exact P.elim
    · rename_i p ds h1 h2
      split at P
      · rename_i hs
        rw [Bool.true_xor] at P
        exact .inr (.inr (.inl ⟨_, _, pyS_rep A h1 rd, pyS_rep A h2 re, hs.1, hs.2, P.fin A (of_bl _)⟩))
      · exact P.elim
    · split at P
      · rename_i r h
        obtain ⟨a, o, rfl, g, ro, hn⟩ := dlook_rep A h re rd
        rw [Bool.true_xor, ← repO_some ro hn] at P
        exact .inr (.inr (.inr ⟨a, o, rfl, g, P.fin A (of_bl _)⟩))
      · exact P.elim
def scountD (d : D) (ds : List D) (S : Store) : Res D := match d, ds with
  | .str z, [.str y] => .ok (.int (Txt.count z y)) S
  | _, _ => .stuck
theorem md_scount : MtD X W "str" "str.count" scountD := by
  refine ⟨_, mt_count, fun w H S d ds v vs σ Q A r rs P => ?_⟩
  unfold scountD at P
  split at P
  · obtain ⟨u, rfl, r1⟩ := reps1 rs
    exact ⟨_, _, rep_str r, by rw [rep_str r1], P.fin A (of_int _)⟩
  · exact P.elim
theorem u65 {k : Nat} {A : Around} (r : Room k A) : A.units + 65 < cLine := by have := r.un; omega
end
end L3
namespace L3
open PySem PySem.Spec L2

/-! ### texts cut up; the greatest of a list -/
section
variable {X : Cx} {W : XW}
def strsD (ys : List Str) : List D := ys.map D.str
theorem reps_strs {K : PySem.W.Frag} {w : Wd} {H : Hp} : ∀ ys : List Str, Reps K w H (strsD ys) (ys.map V.str)
  | [] => .nil
  | y :: ys => .cons (of_str y) (reps_strs ys)
def ssplitD (d : D) (ds : List D) (S : Store) : Res D := match d, ds with
  | .str z, [.str y] => if (y.length == 0) = false ∧ z.length + 2 ≤ sizeLine then .ok (.lst (strsD (Txt.split z y))) S else .stuck
  | _, _ => .stuck
theorem md_ssplit : MtD X W "str" "str.split" ssplitD := by
  refine ⟨_, mt_split, fun w H S d ds v vs σ Q A r rs P => ?_⟩
  unfold ssplitD at P
  split at P
  · split at P
    · rename_i hz
      obtain ⟨u, rfl, r1⟩ := reps1 rs
      exact ⟨_, _, rep_str r, by rw [rep_str r1], hz.1, hz.2, fun p hp => P w _ _ (Ex.new hp) (A.newF hp) (Rep.lstNew A hp (reps_strs _))⟩
    · exact P.elim
  · exact P.elim
def sstripD (d : D) (ds : List D) (S : Store) : Res D := match d, ds with
  | .str z, [.str y] => if z.length ≤ sizeLine then .ok (.str (Txt.stripChars z y)) S else .stuck
  | _, _ => .stuck
theorem md_sstrip : MtD X W "str" "str.strip" sstripD := by
  refine ⟨_, mt_stripChars, fun w H S d ds v vs σ Q A r rs P => ?_⟩
  unfold sstripD at P
  split at P
  · split at P
    · rename_i hz
      obtain ⟨u, rfl, r1⟩ := reps1 rs
      exact ⟨_, _, rep_str r, by rw [rep_str r1], hz, P.fin A (of_str _)⟩
    · exact P.elim
  · exact P.elim
def strim0D (d : D) (ds : List D) (S : Store) : Res D := match d, ds with
  | .str z, [] => if z.length ≤ sizeLine then .ok (.str (Txt.strip z)) S else .stuck
  | _, _ => .stuck
theorem md_strim0 : MtD X W "str" "str.strip" strim0D := by
  refine ⟨_, mt_strip, fun w H S d ds v vs σ Q A r rs P => ?_⟩
  unfold strim0D at P
  split at P
  · split at P
    · rename_i hz
      simp only [Reps] at rs
      exact ⟨_, rep_str r, rs, hz, P.fin A (of_str _)⟩
    · exact P.elim
  · exact P.elim
def supperD (d : D) (ds : List D) (S : Store) : Res D := match d, ds with
  | .str z, [] => if z.length ≤ 5592405 then .ok (.str (Txt.upper z)) S else .stuck
  | _, _ => .stuck
theorem md_supper : MtD X W "str" "str.upper" supperD := by
  refine ⟨_, mt_upper, fun w H S d ds v vs σ Q A r rs P => ?_⟩
  unfold supperD at P
  split at P
  · split at P
    · rename_i hz
      simp only [Reps] at rs
      exact ⟨_, rep_str r, rs, hz, P.fin A (of_str _)⟩
    · exact P.elim
  · exact P.elim
/-- max, min of a list of whole numbers -/
def maxL : List Int → Int
  | [] => 0
  | [n] => n
  | n :: m :: r => max n (maxL (m :: r))
def minL : List Int → Int
  | [] => 0
  | [n] => n
  | n :: m :: r => min n (minL (m :: r))
theorem maxL_spec : ∀ ns : List Int, ns ≠ [] → maxL ns ∈ ns ∧ ∀ y ∈ ns, y ≤ maxL ns
  | [], h => (h rfl).elim
  | [n], _ => ⟨by simp [maxL], by simp [maxL]⟩
  | n :: m :: r, _ => by
    obtain ⟨h1, h2⟩ := maxL_spec (m :: r) (by simp)
    have e : maxL (n :: m :: r) = max n (maxL (m :: r)) := rfl
    rw [e]
    refine ⟨?_, fun y hy => ?_⟩
    · rcases Int.le_total n (maxL (m :: r)) with z | z
      · rw [Int.max_eq_right z]; exact List.mem_cons_of_mem _ h1
      · rw [Int.max_eq_left z]; exact List.mem_cons_self
    · rcases List.mem_cons.mp hy with rfl | hy
      · exact Int.le_max_left _ _
      · exact Int.le_trans (h2 y hy) (Int.le_max_right _ _)
theorem minL_spec : ∀ ns : List Int, ns ≠ [] → minL ns ∈ ns ∧ ∀ y ∈ ns, minL ns ≤ y
  | [], h => (h rfl).elim
  | [n], _ => ⟨by simp [minL], by simp [minL]⟩
  | n :: m :: r, _ => by
    obtain ⟨h1, h2⟩ := minL_spec (m :: r) (by simp)
    have e : minL (n :: m :: r) = min n (minL (m :: r)) := rfl
    rw [e]
    refine ⟨?_, fun y hy => ?_⟩
    · rcases Int.le_total n (minL (m :: r)) with z | z
      · rw [Int.min_eq_left z]; exact List.mem_cons_self
      · rw [Int.min_eq_right z]; exact List.mem_cons_of_mem _ h1
    · rcases List.mem_cons.mp hy with rfl | hy
      · exact Int.min_le_left _ _
      · exact Int.le_trans (Int.min_le_right _ _) (h2 y hy)
def maxLD (ds : List D) (S : Store) : Res D := match ds with
  | [d] => match rdL S d with
    | some es => match intsOf es with
      | some ns => if 0 < ns.length then .ok (.int (maxL ns)) S else .stuck
      | none => .stuck
    | none => .stuck
  | _ => .stuck
def minLD (ds : List D) (S : Store) : Res D := match ds with
  | [d] => match rdL S d with
    | some es => match intsOf es with
      | some ns => if 0 < ns.length then .ok (.int (minL ns)) S else .stuck
      | none => .stuck
    | none => .stuck
  | _ => .stuck
theorem cd_maxL (hc : X.calm = true) : CallD X W (.builtin "max") maxLD := by
  refine ⟨_, cr_max hc, fun w H S ds vs σ Q A r P => ?_⟩
  unfold maxLD at P
  split at P
  · split at P
    · split at P
      · split at P
        · rename_i d _ es h1 _ ns h2 hn
          obtain ⟨v, rfl, r1⟩ := reps1 r
          obtain ⟨a, us, rfl, f, r'⟩ := rdL_rep A h1 r1
          have e := intsOf_rep h2 r'
          refine ⟨a, ns, rfl, by rw [← e]; exact f, hn, fun m hm hy => ?_⟩
          obtain ⟨g1, g2⟩ := maxL_spec ns (List.length_pos_iff.mp hn)
          obtain rfl : m = maxL ns := Int.le_antisymm (g2 m hm) (hy _ g1)
          exact P.fin A (of_int _)
        · exact P.elim
      · exact P.elim
    · exact P.elim
  · exact P.elim
theorem cd_minL (hc : X.calm = true) : CallD X W (.builtin "min") minLD := by
  refine ⟨_, cr_min hc, fun w H S ds vs σ Q A r P => ?_⟩
  unfold minLD at P
  split at P
  · split at P
    · split at P
      · split at P
        · rename_i d _ es h1 _ ns h2 hn
          obtain ⟨v, rfl, r1⟩ := reps1 r
          obtain ⟨a, us, rfl, f, r'⟩ := rdL_rep A h1 r1
          have e := intsOf_rep h2 r'
          refine ⟨a, ns, rfl, by rw [← e]; exact f, hn, fun m hm hy => ?_⟩
          obtain ⟨g1, g2⟩ := minL_spec ns (List.length_pos_iff.mp hn)
          obtain rfl : m = minL ns := Int.le_antisymm (hy _ g1) (g2 m hm)
          exact P.fin A (of_int _)
        · exact P.elim
      · exact P.elim
    · exact P.elim
  · exact P.elim
end
end L3
namespace L3
open PySem PySem.Spec L2

/-! ### sorted(list) -/
def encD (d : D) : PyData := (toPy d).getD .none
noncomputable def dLe (a b : D) : Bool := PySem.W.dataLe false encD a b
/-- things that can be put in order -/
def Srt (es : List D) : Prop := (∃ ps, toPys es = some ps) ∧ PySem.W.AllAlike (es.map encD) ∧ PySem.W.Sortable (es.map encD) ∧ ∀ d ∈ es, (encD d).depth ≤ 60
open Classical in
noncomputable def sortedD (ds : List D) (S : Store) : Res D := match ds with
  | [d] => match rdL S d with
    | some es => if Srt es ∧ es.length ≤ sizeLine then .ok (.lst (es.mergeSort dLe)) S else .stuck
    | none => .stuck
  | _ => .stuck
section
variable {K : PySem.W.Frag} {w : Wd} {H : Hp}
theorem toPys_get : ∀ {es : List D} {ps : List PyData}, toPys es = some ps → ∀ d ∈ es, ∃ p, toPy d = some p
  | [], _, _, d, h => by simp at h
  | e :: es, ps, h, d, hd => by
    simp only [toPys] at h
    split at h
    · rename_i p qs h1 h2
      rcases List.mem_cons.mp hd with rfl | hd
      · exact ⟨p, h1⟩
      · exact toPys_get h2 d hd
    · cases h
/-- the values with what they stand for -/
theorem each_of_reps : ∀ {es : List D} {vs : List V} {us : List Value}, Reps K w H es vs → Vals vs us → PySem.W.EachIs (fun (u : Value) (b : D × V) => RelV b.2 u) us (es.zip vs)
  | [], _, _, h, r => by
    simp only [Reps] at h
    subst h
    cases r
    exact .nil
  | e :: es, _, _, h, r => by
    simp only [Reps] at h
    obtain ⟨v, r', rfl, _, h2⟩ := h
    cases r with
    | cons h3 h4 => exact .cons h3 (each_of_reps h2 h4)
theorem reps_zip : ∀ {es : List D} {vs : List V}, Reps K w H es vs → (∀ b ∈ es.zip vs, Rep K w H b.1 b.2) ∧ (es.zip vs).map (·.1) = es ∧ (es.zip vs).length = es.length
  | [], _, h => by
    simp only [Reps] at h
    subst h
    exact ⟨fun _ z => by simp at z, rfl, rfl⟩
  | e :: es, _, h => by
    simp only [Reps] at h
    obtain ⟨v, r', rfl, h1, h2⟩ := h
    obtain ⟨a1, a2, a3⟩ := reps_zip h2
    refine ⟨fun b hb => ?_, by simp [a2], by simp [a3]⟩
    rw [List.zip_cons_cons] at hb
    rcases List.mem_cons.mp hb with rfl | hb
    · exact h1
    · exact a1 b hb
theorem reps_of : ∀ {bs : List (D × V)}, (∀ b ∈ bs, Rep K w H b.1 b.2) → Reps K w H (bs.map (·.1)) (bs.map (·.2))
  | [], _ => .nil
  | b :: bs, h => .cons (h b List.mem_cons_self) (reps_of fun c hc => h c (List.mem_cons_of_mem _ hc))
theorem vals_each : ∀ {us : List Value} {bs : List (D × V)}, PySem.W.EachIs (fun (u : Value) (b : D × V) => RelV b.2 u) us bs → Vals (bs.map (·.2)) us
  | _, _, .nil => .nil
  | _, _, .cons h t => .cons h (vals_each t)
end
theorem each_reads {X : Cx} {pins : List (Addr × Obj)} {σ : L2.St} {H : Hp} {s : Shared} (I : Inv X pins σ H s) {w : Wd} : ∀ {es : List D} {vs : List V} {us : List Value}, (∀ d ∈ es, ∃ p, toPy d = some p) → Reps X.K w H es vs → Vals vs us →
    PySem.W.EachIs (fun (u : Value) (b : D × V) => ∃ as, Reads s.heap u (encD b.1) as) us (es.zip vs)
  | [], _, _, _, h, r => by
    simp only [Reps] at h
    subst h
    cases r
    exact .nil
  | e :: es, _, _, hp, h, r => by
    simp only [Reps] at h
    obtain ⟨v, r', rfl, h1, h2⟩ := h
    cases r with
    | cons h3 h4 =>
      refine .cons ?_ (each_reads I (fun d hd => hp d (List.mem_cons_of_mem _ hd)) h2 h4)
      obtain ⟨p, e1⟩ := hp e List.mem_cons_self
      have : encD e = p := by simp [encD, e1]
      rw [this]
      exact Dp.reads I p v _ (toPy_rep e1 h1) h3
def rSortedAll (K : PySem.W.Frag) : List V → Hp → VK → Prop := fun vs H Q => ∃ (a : Addr) (us : List V) (es : List D) (w : Wd), vs = [V.ref a] ∧ SqL K H a us ∧ Reps K w H es us ∧ Srt es ∧ es.length ≤ sizeLine ∧
  ∀ (xs : List V) (p : Addr), Reps K w H (es.mergeSort dLe) xs → H p = none → Q (.ref p) (upd H p (.lst xs))
theorem cr_sortedAll {X : Cx} (hu : X.A.units + 64 < cLine) : CallR X (.builtin "sorted") (rSortedAll X.K) := by
  intro pins s σ H vs us Q I r h
  obtain ⟨a, zs, es, w, rfl, hs, rp, ⟨⟨ps, hps⟩, hal, hk, hd⟩, hz, q⟩ := h
  obtain ⟨its, rv, hl, _⟩ := I.list hs
  rw [Vals.ref1 r]
  obtain ⟨b1, b2, b3⟩ := reps_zip rp
  have eq1 : (es.zip zs).map (fun b => encD b.1) = es.map encD := by
    rw [show (fun b : D × V => encD b.1) = encD ∘ Prod.fst from rfl, ← List.map_map]
    congr 1
  refine PySem.W.sorted_data (enc := fun b : D × V => encD b.1) (R := fun u b => RelV b.2 u) hl.isList (each_of_reps rp rv) (each_reads I (toPys_get hps) rp rv) (by rw [eq1]; exact hal) (by rw [eq1]; exact hk) (by rw [b3]; exact hz) (fun b hb => ?_) fun out ho eo => ?_
  · have : b.1 ∈ es := by rw [← b2]; exact List.mem_map.mpr ⟨b, hb, rfl⟩
    have := hd b.1 this
    show X.A.units + 2 + (encD b.1).depth < cLine
    omega
  · obtain ⟨ep, he'⟩ := PyProof.Rows.sortedAll_at s.heap its out.toArray
    have hm : ((es.zip zs).mergeSort (PySem.W.dataLe false fun b : D × V => encD b.1)).map (·.1) = es.mergeSort dLe := by
      rw [List.map_mergeSort (r := PySem.W.dataLe false fun b : D × V => encD b.1) (s := dLe) (fun _ _ _ _ => rfl), b2]
    have rs := reps_of (K := X.K) (w := w) (H := H) (bs := (es.zip zs).mergeSort (PySem.W.dataLe false fun b : D × V => encD b.1)) fun b hb => b1 b (List.mem_mergeSort.mp hb)
    rw [hm] at rs
    have vv := vals_each eo
    generalize ((es.zip zs).mergeSort (PySem.W.dataLe false fun b : D × V => encD b.1)).map (·.2) = xs at *
    have hlen : xs.length ≤ sizeLine := by
      have h9 := rs.length
      rw [List.length_mergeSort] at h9
      omega
    exact ⟨.ref _, upd H (s.heap.objs.size + 1) (.lst xs), I.laid (t' := s.toks) (fun _ _ => PyProof.Rows.sortedAll_old) (Nat.le_succ _)
      ⟨hlen, out, ep, vv, he'⟩, rfl, q _ _ rs (I.hok.fresh (Nat.le_succ _))⟩
theorem cd_sorted {X : Cx} {W : XW} (hu : X.A.units + 64 < cLine) : CallD X W (.builtin "sorted") sortedD := by
  refine ⟨_, cr_sortedAll hu, fun w H S ds vs σ Q A r P => ?_⟩
  unfold sortedD at P
  split at P
  · split at P
    · split at P
      · rename_i d _ es h1 hs
        obtain ⟨v, rfl, r1⟩ := reps1 r
        obtain ⟨a, us, rfl, f, r'⟩ := rdL_rep A h1 r1
        exact ⟨a, us, es, w, rfl, f, r', hs.1, hs.2, fun xs p rx hp => P w _ _ (Ex.new hp) (A.newF hp) (Rep.lstNew A hp rx)⟩
      · exact P.elim
    · exact P.elim
  · exact P.elim
end L3
namespace L3
open PySem PySem.Spec L2

/-! ### walking over a dict: it is locked meanwhile -/
def Ob.isDct : Ob → Bool
  | .dK _ => true
  | .dT _ => true
  | _ => false
open Classical in
/-- what the expression md tells (nothing else happens), if it is a dict of the store -/
noncomputable def dctAt (md : DSt → Store → Res D) (σ : DSt) (S : Store) : Option (Nat × Ob) := match md σ S with
  | .ok (.loc l) S1 => if S1 = S then (match S[l]? with
    | some o => if o.isDct = true then some (l, o) else none
    | none => none) else none
  | _ => none
open Classical in
noncomputable def lockE (md m : DSt → Store → Res D) (σ : DSt) (S : Store) : Res D := match dctAt md σ S with
  | some (l, o) => match m σ (S.set l (.lck o)) with
    | .ok d S' => if S'[l]? = some (.lck o) then .ok d (S'.set l o) else .stuck
    | _ => .stuck
  | none => m σ S
open Classical in
noncomputable def lockS (md : DSt → Store → Res D) (m : DSt → Store → Res Fl) (σ : DSt) (S : Store) : Res Fl := match dctAt md σ S with
  | some (l, o) => match m σ (S.set l (.lck o)) with
    | .ok (.ex _ _ _) _ => .stuck
    | .ok fl S' => if S'[l]? = some (.lck o) then .ok fl (S'.set l o) else .stuck
    | _ => .stuck
  | none => m σ S
theorem dctAt_spec {md : DSt → Store → Res D} {σ : DSt} {S : Store} {l : Nat} {o : Ob} (h : dctAt md σ S = some (l, o)) : S[l]? = some o ∧ o.isDct = true := by
  unfold dctAt at h
  split at h
  · split at h
    · split at h
      · split at h
        · rename_i h1 h2
          cases h
          exact ⟨h1, h2⟩
        · cases h
      · cases h
    · cases h
  · cases h
section
variable {K : PySem.W.Frag} {mg : Str → Option Value} {w : Wd} {H : Hp} {S : Store}
/-- writing at a mutable object's place leaves what data stand for -/
theorem Rep.wrM {a : Addr} {o : HO} (hm : a ∈ w.M) {d : D} {v : V} (h : Rep K w H d v) : Rep K w (upd H a o) d v := by
  have ne : ∀ {b : Addr}, b ∉ w.M → b ≠ a := fun n z => n (by rw [z]; exact hm)
  refine h.gen (fun b xs ⟨n, c, f⟩ => ⟨n, c, by rw [upd_ne (ne n)]; exact f⟩) (fun b xs f => ?_) (fun b xs ⟨n, c, f⟩ => ⟨n, c, by rw [upd_ne (ne n)]; exact f⟩) (fun b xs f => f.by fun a u f n c => ⟨n, c, by rw [upd_ne (ne n)]; exact f⟩) (fun b _ _ ⟨n, c, f⟩ => ⟨n, c, by rw [upd_ne (ne n)]; exact f⟩) fun _ _ q => q
  rcases f with ⟨n, c, f | ⟨o', f⟩⟩ | f
  · exact .inl ⟨n, c, .inl (by rw [upd_ne (ne n)]; exact f)⟩
  · exact .inl ⟨n, c, .inr ⟨o', by rw [upd_ne (ne n)]; exact f⟩⟩
  · exact .inr f
theorem Reps.wrM {a : Addr} {o : HO} (hm : a ∈ w.M) : ∀ {ds : List D} {vs : List V}, Reps K w H ds vs → Reps K w (upd H a o) ds vs
  | [], _, h => by simpa only [Reps] using h
  | d :: ds, _, h => by
    simp only [Reps] at h
    obtain ⟨v, r, rfl, h1, h2⟩ := h
    exact .cons (h1.wrM hm) (Reps.wrM hm h2)
theorem HoOk.wrM {a : Addr} {o : HO} (hm : a ∈ w.M) {ob : Ob} {u : HO} (h : HoOk K w H mg ob u) : HoOk K w (upd H a o) mg ob u := h.gen (fun _ _ r => r.wrM hm) fun _ _ r => r.wrM hm
theorem Ab.put (A : Ab K w H mg S) {l : Nat} {a : Addr} {o : HO} {ob : Ob} (hm : w.M[l]? = some a) (k : HoOk K w H mg ob o) : Ab K w (upd H a o) mg (S.set l ob) := by
  have hmem : a ∈ w.M := List.mem_of_getElem? hm
  refine ⟨by simp [A.len], A.nd, A.bm, fun b hb => ?_, fun l' a' ob' h1 h2 => ?_⟩
  · obtain ⟨u, e⟩ := A.bt b hb
    exact ⟨u, by rw [upd_ne (fun z : b = a => A.bm b hb (by rw [z]; exact hmem))]; exact e⟩
  by_cases hl : l' = l
  · subst hl
    rw [hm] at h1; cases h1
    have : l' < S.length := by rw [← A.len]; exact (List.getElem?_eq_some_iff.mp hm).1
    rw [List.getElem?_set_self this] at h2
    cases h2
    exact ⟨o, upd_same, k.wrM hmem⟩
  · rw [List.getElem?_set_ne (Ne.symm hl)] at h2
    obtain ⟨u, e, k'⟩ := A.ob l' a' ob' h1 h2
    have hne : a' ≠ a := fun z => by
      subst z
      obtain ⟨q1, q2⟩ := List.getElem?_eq_some_iff.mp h1
      obtain ⟨q3, q4⟩ := List.getElem?_eq_some_iff.mp hm
      exact hl ((List.getElem_inj A.nd).mp (q2.trans q4.symm))
    exact ⟨u, by rw [upd_ne hne]; exact e, k'.wrM hmem⟩
/-- a dict of the store, locked -/
theorem lock_in {l : Nat} {o : Ob} (A : Ab K w H mg S) (h : S[l]? = some o) (hd : o.isDct = true) : ∃ a u, w.M[l]? = some a ∧ H a = some u ∧ Mut (some u) ∧ (∀ od x, u ≠ .frz od x) ∧ HoOk K w H mg o u ∧
    ∀ od, Ab K w (upd H a (.frz od u)) mg (S.set l (.lck o)) ∧ Ex w H w (upd H a (.frz od u)) := by
  obtain ⟨a, u, el, eu, k⟩ := A.obs h
  have hmem : a ∈ w.M := List.mem_of_getElem? el
  have hu : Mut (some u) ∧ ∀ od x, u ≠ .frz od x := by
    cases o with
    | dK kvs => obtain ⟨vs, rfl, _⟩ := id k; exact ⟨trivial, fun _ _ => by simp⟩
    | dT kvs => obtain ⟨vs, rfl, _⟩ := id k; exact ⟨trivial, fun _ _ => by simp⟩
    | _ => simp [Ob.isDct] at hd
  exact ⟨a, u, el, eu, hu.1, hu.2, k, fun od => ⟨A.put el ⟨od, u, rfl, k⟩, Ex.wr hmem fun od x z => hu.2 od x (by rw [eu] at z; exact Option.some.inj z)⟩⟩
/-- the lock undone -/
theorem lock_out {l : Nat} {o : Ob} {a : Addr} {u : HO} {od : Obj} {w' : Wd} {H' : Hp} {S' : Store} (el : w.M[l]? = some a) (eu : H a = some u) (hz : ∀ od x, u ≠ .frz od x) (k : HoOk K w H mg o u)
    (e : Ex w (upd H a (.frz od u)) w' H') (A' : Ab K w' H' mg S') : H' a = some (.frz od u) ∧ Ex w H w' (upd H' a u) ∧ Ab K w' (upd H' a u) mg (S'.set l o) ∧ (∀ {d v}, Rep K w' H' d v → Rep K w' (upd H' a u) d v) := by
  have hmem : a ∈ w.M := List.mem_of_getElem? el
  have hmem' : a ∈ w'.M := List.mem_of_getElem? (e.get el)
  have ex : Ex w H w' (upd H' a u) := by
    refine ⟨e.pre, e.bk, fun b x hb n => ?_, fun b od' x hb => ?_⟩
    · have hne : b ≠ a := fun z => n (by rw [z]; exact hmem)
      obtain ⟨h1, h2⟩ := e.keep b x (by rw [upd_ne hne]; exact hb) n
      exact ⟨by rw [upd_ne hne]; exact h1, h2⟩
    · have hne : b ≠ a := fun z => by
        rw [z, eu] at hb
        exact hz _ _ (Option.some.inj hb)
      rw [upd_ne hne]
      exact e.fz b od' x (by rw [upd_ne hne]; exact hb)
  have kk : HoOk K w' H' mg o u := (k.wrM (o := .frz od u) hmem).mono e
  exact ⟨e.fz a od u upd_same, ex, A'.put (e.get el) kk, fun r => r.wrM hmem'⟩
end
section
variable {X : Cx} {W : XW}
theorem PE.or {e : Expr} {t1 t2 : TE} (h1 : PE X e t1) (h2 : PE X e t2) : PE X e (fun σ H Q => t1 σ H Q ∨ t2 σ H Q) := ⟨fun pins s σ H Q I h => h.elim (h1.run pins s σ H Q I) (h2.run pins s σ H Q I)⟩
theorem PS.or {e : Stmt} {t1 t2 : TS} (h1 : PS X e t1) (h2 : PS X e t2) : PS X e (fun D σ H => t1 D σ H ∨ t2 D σ H) := ⟨fun pins s σ H Q I h => h.elim (h1.run pins s σ H Q I) (h2.run pins s σ H Q I)⟩
theorem pm_lock {e : Expr} {m : DSt → Store → Res D} (md : DSt → Store → Res D) (h : PM X W e m) : PM X W e (lockE md m) := by
  refine PE.imp (PE.or h (pe_lock h)) fun σ H Q ⟨w, dσ, S, A, R, P⟩ => ?_
  unfold lockE at P
  split at P
  · rename_i l o hd
    obtain ⟨hS, hi⟩ := dctAt_spec hd
    obtain ⟨a, u, el, eu, mu, hz, k, hl⟩ := lock_in A hS hi
    refine .inr ⟨a, u, eu, mu, fun od => ⟨w, dσ, S.set l (.lck o), (hl od).1, R.mono (hl od).2, ?_⟩⟩
    split at P
    · rename_i d S' hm
      split at P
      · rw [hm]
        intro w' H' v e' A' r
        obtain ⟨o1, o2, o3, o4⟩ := lock_out el eu hz k e' A'
        exact ⟨o1, P w' _ v o2 o3 (o4 r)⟩
      · exact P.elim
    · exact P.elim
  · exact .inl ⟨w, dσ, S, A, R, P⟩
theorem pms_lock {s : Stmt} {m : DSt → Store → Res Fl} (md : DSt → Store → Res D) (h : PMS X W s m) : PMS X W s (lockS md m) := by
  refine PS.imp (PS.or h (ps_lock h)) fun D σ H ⟨w, dσ, S, A, R, P⟩ => ?_
  unfold lockS at P
  split at P
  · rename_i l o hd
    obtain ⟨hS, hi⟩ := dctAt_spec hd
    obtain ⟨a, u, el, eu, mu, hz, k, hl⟩ := lock_in A hS hi
    refine .inr ⟨a, u, eu, mu, fun od => ⟨w, dσ, S.set l (.lck o), (hl od).1, R.mono (hl od).2, ?_⟩⟩
    split at P
    · exact P.elim
    · rename_i fl S' hne hm
      split at P
      · rw [hm]
        cases fl with
        | nx σ2 =>
          intro w' H' v e' A' r
          obtain ⟨o1, o2, o3, o4⟩ := lock_out el eu hz k e' A'
          exact ⟨o1, P w' _ v o2 o3 (r.gen fun _ _ q => o4 q)⟩
        | rt d =>
          intro w' H' v e' A' r
          obtain ⟨o1, o2, o3, o4⟩ := lock_out el eu hz k e' A'
          exact ⟨o1, P w' _ v o2 o3 (o4 r)⟩
        | bk σ2 =>
          intro w' H' v e' A' r
          obtain ⟨o1, o2, o3, o4⟩ := lock_out el eu hz k e' A'
          exact ⟨o1, P w' _ v o2 o3 (r.gen fun _ _ q => o4 q)⟩
        | ct σ2 =>
          intro w' H' v e' A' r
          obtain ⟨o1, o2, o3, o4⟩ := lock_out el eu hz k e' A'
          exact ⟨o1, P w' _ v o2 o3 (r.gen fun _ _ q => o4 q)⟩
        | ex c fs σ2 => exact absurd rfl (hne c fs σ2)
      · exact P.elim
    · exact P.elim
  · exact .inl ⟨w, dσ, S, A, R, P⟩
end
end L3
namespace L3
open PySem PySem.Spec L2

/-! ### the keys of a locked dict -/
def keyD : Key → D
  | .inl i => .int i
  | .inr x => .str x
def keysD (k : List Key) : D := .tup (k.map keyD)
theorem keyD_rep {K : PySem.W.Frag} {w : Wd} {H : Hp} (k : Key) : Rep K w H (keyD k) (kV k) := by
  cases k with
  | inl i => exact of_int i
  | inr x => exact of_str x
theorem keysD_reps {K : PySem.W.Frag} {w : Wd} {H : Hp} : ∀ ks : List Key, Reps K w H (ks.map keyD) (ks.map kV)
  | [] => .nil
  | k :: ks => .cons (keyD_rep k) (keysD_reps ks)
def keySrc (d : D) (S : Store) : Option Src := match d with
  | .loc l => match S[l]? with
    | some (.lck (.dK kvs)) => if kvs.length ≤ sizeLine then some ⟨kvs.map fun kv => keyD kv.1, [(l, .lck (.dK kvs))]⟩ else none
    | some (.lck (.dT kvs)) => if kvs.length ≤ sizeLine then some ⟨kvs.map fun kv => keysD kv.1, [(l, .lck (.dT kvs))]⟩ else none
    | _ => none
  | _ => none
def anySrc (d : D) (S : Store) : Option Src := match seqSrc d S with
  | some s => some s
  | none => keySrc d S
def mAnyI (m : DSt → Store → Res D) (σ : DSt) (S : Store) : Res Src := (m σ S).bind fun d S1 => match anySrc d S1 with
  | some src => .ok src S1
  | none => .stuck
section
variable {K : PySem.W.Frag} {mg : Str → Option Value} {w : Wd} {H : Hp} {S : Store}
theorem rkv_get {κ : Type} : ∀ {kvs : List (κ × D)} {vs : List (κ × V)}, RKv K w H kvs vs → ∀ {i : Nat} {k : κ} {v : V}, vs[i]? = some (k, v) → ∃ d, kvs[i]? = some (k, d) ∧ Rep K w H d v
  | [], _, h, i, k, v, e => by simp only [RKv] at h; subst h; simp at e
  | (k', d) :: kvs, _, h, i, k, v, e => by
    simp only [RKv] at h
    obtain ⟨v', r, rfl, h1, h2⟩ := h
    cases i with
    | zero =>
      simp only [List.getElem?_cons_zero, Option.some.injEq, Prod.mk.injEq] at e
      obtain ⟨rfl, rfl⟩ := e
      exact ⟨d, rfl, h1⟩
    | succ i =>
      simp only [List.getElem?_cons_succ] at e ⊢
      exact rkv_get h2 e
theorem rkv_len {κ : Type} : ∀ {kvs : List (κ × D)} {vs : List (κ × V)}, RKv K w H kvs vs → kvs.length = vs.length
  | [], _, h => by simp only [RKv] at h; subst h; rfl
  | (k', d) :: kvs, _, h => by
    simp only [RKv] at h
    obtain ⟨v', r, rfl, h1, h2⟩ := h
    simp [rkv_len h2]
theorem tup_notM (A : Ab K w H mg S) {q : Addr} {xs : List V} (h : H q = some (.tup xs)) : q ∉ w.M ∧ q ∉ w.B := by
  refine ⟨fun z => ?_, fun z => ?_⟩
  · obtain ⟨l, h1, e⟩ := List.getElem_of_mem z
    have h2 : l < S.length := by rw [← A.len]; exact h1
    obtain ⟨u, e', k⟩ := A.ob l q S[l] (by rw [← e]; exact List.getElem?_eq_getElem h1) (List.getElem?_eq_getElem h2)
    rw [h] at e'
    cases e'
    generalize S[l] = o at k
    cases o with
    | lst ds => obtain ⟨_, z, _⟩ := k; cases z
    | dK ds => obtain ⟨_, z, _⟩ := k; cases z
    | dT ds => obtain ⟨_, z, _⟩ := k; cases z
    | ins C fs => obtain ⟨_, _, _, _, z, _⟩ := k; cases z
    | lck o => obtain ⟨_, _, z, _⟩ := k; cases z
  · obtain ⟨xs', e⟩ := A.bt q z
    rw [h] at e
    cases e
theorem jok_keysT {a : Addr} {od : Obj} {vs : List (List Key × V)} {kvs : List (List Key × D)} {l : Nat} (hf : H a = some (.frz od (.dT vs))) (hk : kvs.length = vs.length) (hkk : ∀ (i : Nat) (k : List Key) (v : V), vs[i]? = some (k, v) → ∃ d, kvs[i]? = some (k, d)) :
    JOk K mg w H (Itkt a od vs) ⟨kvs.map fun kv => keysD kv.1, [(l, .lck (.dT kvs))]⟩ := by
  intro w' H' S' i e A g
  have hf' := e.fz a od _ hf
  refine ⟨fun d hd => ?_, fun hl => ⟨hf', by rw [← hk]; simpa using hl⟩⟩
  have hi : i < kvs.length := by
    have := (List.getElem?_eq_some_iff.mp hd).1
    simpa using this
  refine ⟨⟨hf', by rw [← hk]; exact hi⟩, fun x H2 y => ?_⟩
  obtain ⟨e2, k, v, q, hv, rfl, hq⟩ := y
  subst e2
  obtain ⟨d', hd'⟩ := hkk i k v hv
  rw [List.getElem?_map, hd'] at hd
  simp only [Option.map_some, Option.some.injEq] at hd
  subst hd
  obtain ⟨n1, n2⟩ := tup_notM A hq
  exact ⟨w', Ex.refl _ _, A, q, _, rfl, ⟨n1, n2, hq⟩, keysD_reps k⟩
theorem jok_keysK {a : Addr} {od : Obj} {vs : List (Key × V)} {kvs : List (Key × D)} {l : Nat} (hf : H a = some (.frz od (.dK vs))) (hk : kvs.length = vs.length) (hkk : ∀ (i : Nat) (k : Key) (v : V), vs[i]? = some (k, v) → ∃ d, kvs[i]? = some (k, d)) :
    JOk K mg w H (Itk a od vs) ⟨kvs.map fun kv => keyD kv.1, [(l, .lck (.dK kvs))]⟩ := by
  intro w' H' S' i e A g
  have hf' := e.fz a od _ hf
  refine ⟨fun d hd => ?_, fun hl => ⟨hf', by rw [← hk]; simpa using hl⟩⟩
  have hi : i < kvs.length := by
    have := (List.getElem?_eq_some_iff.mp hd).1
    simpa using this
  refine ⟨⟨hf', by rw [← hk]; exact hi⟩, fun x H2 y => ?_⟩
  obtain ⟨e2, k, v, hv, rfl⟩ := y
  subst e2
  obtain ⟨d', hd'⟩ := hkk i k v hv
  rw [List.getElem?_map, hd'] at hd
  simp only [Option.map_some, Option.some.injEq] at hd
  subst hd
  exact ⟨w', Ex.refl _ _, A, keyD_rep k⟩
end
theorem PI.or {X : Cx} {tg e : Expr} {t1 t2 : TI} (h1 : PI X tg e t1) (h2 : PI X tg e t2) : PI X tg e (fun σ H R => t1 σ H R ∨ t2 σ H R) := ⟨fun pins s σ H R I h => h.elim (h1.run pins s σ H R I) (h2.run pins s σ H R I)⟩
theorem pmi_keys {X : Cx} {W : XW} {tg l : Expr} {m : DSt → Store → Res D} (h : PM X W l m) : PMI X W tg l (fun σ S => (m σ S).bind fun d S1 => match keySrc d S1 with
  | some src => .ok src S1
  | none => .stuck) := by
  refine PI.imp (pi_keys h) fun σ H R ⟨w, dσ, S, A, Rs, P⟩ => ⟨w, dσ, S, A, Rs, P.bind fun d S1 w1 H1 v e1 A1 r1 P1 => ?_⟩
  split at P1
  · rename_i src hs
    unfold keySrc at hs
    split at hs
    · rename_i l
      simp only [Rep] at r1
      obtain ⟨a, el, rfl⟩ := r1
      split at hs
      · rename_i kvs q
        split at hs
        · rename_i hz
          cases hs
          obtain ⟨u, eu, od, u', rfl, vs, rfl, rk⟩ := A1.ob l a _ el q
          refine ⟨a, od, rfl, .inl ⟨vs, eu, P1.fin A1 ⟨jok_keysK eu (rkv_len rk) fun i k v hv => ?_, by simpa using hz⟩⟩⟩
          obtain ⟨d, hd, _⟩ := rkv_get rk hv
          exact ⟨d, hd⟩
        · cases hs
      · rename_i kvs q
        split at hs
        · rename_i hz
          cases hs
          obtain ⟨u, eu, od, u', rfl, vs, rfl, rk⟩ := A1.ob l a _ el q
          refine ⟨a, od, rfl, .inr ⟨vs, eu, P1.fin A1 ⟨jok_keysT eu (rkv_len rk) fun i k v hv => ?_, by simpa using hz⟩⟩⟩
          obtain ⟨d, hd, _⟩ := rkv_get rk hv
          exact ⟨d, hd⟩
        · cases hs
      · cases hs
    · cases hs
  · exact P1.elim
theorem pmi_anyI {X : Cx} {W : XW} {tg l : Expr} {m : DSt → Store → Res D} (h : PM X W l m) : PMI X W tg l (mAnyI m) := by
  refine PI.imp (PI.or (pmi_seq h) (pmi_keys h)) fun σ H R ⟨w, dσ, S, A, Rs, P⟩ => ?_
  unfold mAnyI at P
  cases hm : m dσ S with
  | ok d S1 =>
    rw [hm] at P
    simp only [Res.bind_ok] at P
    cases hs : seqSrc d S1 with
    | some src => exact .inl ⟨w, dσ, S, A, Rs, by unfold mSeqI; rw [hm]; simp only [Res.bind_ok, hs]; simp only [anySrc, hs] at P; exact P⟩
    | none => exact .inr ⟨w, dσ, S, A, Rs, by dsimp only; rw [hm]; simp only [Res.bind_ok]; simp only [anySrc, hs] at P; exact P⟩
  | exc c fs S1 =>
    rw [hm] at P
    exact .inl ⟨w, dσ, S, A, Rs, by unfold mSeqI; rw [hm]; exact P⟩
  | stuck =>
    rw [hm] at P
    exact P.elim
end L3
namespace L3
open PySem PySem.Spec L2

/-! ### dict(pairs) with tuple keys -/
structure Ent where
  p : Addr
  k : List Key
  b : Addr
  v : V
def EntOk (H : Hp) (e : Ent) : Prop := H e.p = some (.tup [.ref e.b, e.v]) ∧ H e.b = some (.tup (e.k.map kV))
def mergeT (acc : List (List Key × V)) (es : List Ent) : List (List Key × V) := es.foldl (fun a e => L2.putK a e.k e.v) acc
section
variable {X : Cx} {pins : List (Addr × Obj)} {σ : L2.St} {H : Hp} {s : Shared}
theorem ents_vals (I : Inv X pins σ H s) : ∀ {es : List Ent}, (∀ e ∈ es, EntOk H e) → ∃ us : List Value, us.length = es.length ∧ ∀ (j : Nat) (e : Ent), es[j]? = some e → ∃ u, us[j]? = some u ∧ RelV e.v u ∧ PairAt s.heap e.p (.ref e.b) u
  | [], _ => ⟨[], rfl, fun j e h => by simp at h⟩
  | e :: es, h => by
    obtain ⟨us, h1, h2⟩ := ents_vals I fun e' he => h e' (List.mem_cons_of_mem _ he)
    obtain ⟨q1, q2⟩ := h e List.mem_cons_self
    obtain ⟨_, its, rv, o, g1, g2, n, g3⟩ := (show ObjOk X.prog X.w H s.heap e.p (.tup [.ref e.b, e.v]) from I.hok e.p _ q1)
    cases rv with
    | cons r1 rv => cases rv with
      | cons r2 rv =>
        cases rv
        rename_i u1 u2
        obtain rfl : u1 = Value.ref e.b := r1
        refine ⟨u2 :: us, by simp [h1], fun j e' hj => ?_⟩
        cases j with
        | zero =>
          simp only [List.getElem?_cons_zero, Option.some.injEq] at hj
          subst hj
          exact ⟨u2, rfl, r2, .inl ⟨o, g1, g2, n, g3⟩⟩
        | succ j => simpa using h2 j e' (by simpa using hj)
theorem kt_merge {H' : Hp} : ∀ (es : List Ent) (us : List Value) (acc : List (List Key × V)) (xs : List (List Key × Addr × Value)), us.length = es.length → (∀ e ∈ es, H' e.b = some (.tup (e.k.map kV))) →
    (∀ (j : Nat) (e : Ent) (u : Value), es[j]? = some e → us[j]? = some u → RelV e.v u) → KT H' acc xs →
    KT H' (mergeT acc es) (storedAllH xs ((es.zip us).map fun q => (q.1.k, q.1.b, q.2)))
  | [], _, acc, xs, _, _, _, k => by simpa [mergeT, storedAllH] using k
  | e :: es, [], acc, xs, h, _, _, _ => by simp at h
  | e :: es, u :: us, acc, xs, h, hb, hr, k => by
    have k2 := k.put e.k (hb e List.mem_cons_self) (hr 0 e u rfl rfl)
    exact kt_merge es us _ _ (by simpa using h) (fun e' he => hb e' (List.mem_cons_of_mem _ he)) (fun j e' u' h1 h2 => hr (j + 1) e' u' (by simpa using h1) (by simpa using h2)) k2
end
theorem call_dictT {X : Cx} (hcalm : X.calm = true) (hu : X.A.units + 8 < cLine) : CallR X (.type "dict") (fun xs H Q => ∃ (a : Addr) (es : List Ent), xs = [.ref a] ∧ SqL X.K H a (es.map fun e => V.ref e.p) ∧ (∀ e ∈ es, EntOk H e) ∧
    ∀ p, H p = none → Q (.ref p) (upd H p (.dT (mergeT [] es)))) := by
  intro pins s σ H xs us Q I r ⟨a, es, ex, hq, hp, q⟩
  subst ex
  obtain ⟨u, eu, rx⟩ := vals1 r
  subst eu
  cases rx
  obtain ⟨its, rv, pl, hz⟩ := I.list hq
  rw [List.length_map] at hz
  obtain ⟨vs, hl, hv⟩ := ents_vals I hp
  have rv' : Vals ((es.map Ent.p).map V.ref) its := by rw [List.map_map]; exact rv
  have ei := refs_at rv'
  subst ei
  obtain ⟨o, n, ho, hc, hd, hdat⟩ := pl
  have hzl : (es.zip vs).length = es.length := by rw [List.length_zip, hl, Nat.min_self]
  have hget : ∀ (j : Nat) (q : Ent × Value), (es.zip vs)[j]? = some q → es[j]? = some q.1 ∧ vs[j]? = some q.2 := fun j q h => by
    rw [List.getElem?_zip_eq_some] at h
    exact h
  refine call_dict_pairsH (knd := tupleKind (mixKind X.prog X.w)) (ps := (es.zip vs).map fun q => (q.1.k, q.1.b, q.2))
    (PairArg.list a (((es.map Ent.p).map Value.ref).toArray) (fun j => (es[j]?.map Ent.p).getD 0) ((es.zip vs).map fun q => (Value.ref q.1.b, q.2))) (I.ok.hd hcalm) (by show X.A.in1.in1.units < cLine; simp only [Around.in1]; omega)
    ⟨⟨o, n, ho, hc, hd, hdat⟩, by simp [hzl], fun j k v hj => ?_⟩ ⟨by simp, fun i key v hr => ?_⟩ (fun h' hk x hx => ?_) (by simp [hzl]; exact hz) fun h' tk hd' hk => ?_
  · rw [List.getElem?_map, Option.map_eq_some_iff] at hj
    obtain ⟨q', h1, h2⟩ := hj
    cases h2
    obtain ⟨g1, g2⟩ := hget j q' h1
    obtain ⟨u, e1, e2, e3⟩ := hv j q'.1 g1
    rw [g2] at e1
    cases e1
    simp only [g1, Option.map_some, Option.getD_some]
    exact ⟨by simp [g1], e3⟩
  · have hr' : ((es.zip vs).map fun q => (Value.ref q.1.b, q.2))[i]? = some (key, v) := hr
    rw [List.getElem?_map, Option.map_eq_some_iff] at hr'
    obtain ⟨q', h1, h2⟩ := hr'
    cases h2
    exact ⟨q'.1.k, q'.1.b, by rw [List.getElem?_map, h1]; rfl, rfl⟩
  · obtain ⟨q', h1, rfl⟩ := List.mem_map.mp hx
    obtain ⟨j, hj⟩ := List.getElem?_of_mem h1
    obtain ⟨g1, g2⟩ := hget j q' hj
    obtain ⟨_, e2⟩ := hp q'.1 (List.mem_of_getElem? g1)
    obtain ⟨o', items, m, a1, a2, a3, a4⟩ := key_of I.hok e2
    exact ⟨o', items, m, hk _ _ (Nat.ne_of_lt (Heap.lt_size a1)) List.not_mem_nil a1, a2, a3, a4⟩
  · have hm : (s.heap.objs.size == sysModules) = false := beq_eq_false_iff_ne.mpr (Nat.ne_of_gt I.big)
    have hf : H s.heap.objs.size = none := I.hok.fresh (Nat.le_refl _)
    have kt := kt_merge (H' := H) es vs [] [] hl (fun e he => (hp e he).2) (fun j e u h1 h2 => by
      obtain ⟨u', e1, e2, _⟩ := hv j e h1
      rw [h2] at e1
      cases e1
      exact e2) .nil
    have hlen : (mergeT [] es).length ≤ sizeLine := by
      rw [Paired.length kt]
      refine Nat.le_trans (storedAllH_length _ []) ?_
      rw [List.length_map, hzl, List.length_nil, Nat.zero_add]
      exact hz
    obtain ⟨od, e5, ep, b1, b2, b3, b4, b5, b6⟩ := hd'
    exact ⟨.ref s.heap.objs.size, upd H s.heap.objs.size (.dT (mergeT [] es)), I.laid (t' := tk) (fun b o e => hk b o List.not_mem_nil e) (Nat.le_refl _)
      (show ObjOk X.prog X.w _ _ _ (.dT (mergeT [] es)) from ⟨hlen, hm, _, kt.keeps fun b ys e => by rw [upd_ne (fun z => by rw [z, hf] at e; cases e)]; exact e, od, e5, ep, b1, b2, b3, b4, b6⟩), rfl, q _ hf⟩
end L3
namespace L3
open PySem PySem.Spec L2

/-! ### dict(a list of pairs), get -/
def pairsT : List D → Option (List (List Key × D))
  | [] => some []
  | .tup [.tup ks, v] :: r => match keysOf ks, pairsT r with
    | some k, some ps => some ((k, v) :: ps)
    | _, _ => none
  | _ => none
def pairsK : List D → Option (List (Key × D))
  | [] => some []
  | .tup [k, v] :: r => match keyOf k, pairsK r with
    | some k, some ps => some ((k, v) :: ps)
    | _, _ => none
  | _ => none
def mergeD {κ : Type} [DecidableEq κ] (acc ps : List (κ × D)) : List (κ × D) := ps.foldl (fun a p => putD a p.1 p.2) acc
/-- kT: the keys are tuples -/
def dictD (kT : Bool) (ds : List D) (S : Store) : Res D := match ds with
  | [d] => match rdL S d with
    | some es => if kT = true then (match pairsT es with
        | some ps => .ok (.loc S.length) (S ++ [.dT (mergeD [] ps)])
        | none => .stuck)
      else (match pairsK es with
        | some ps => .ok (.loc S.length) (S ++ [.dK (mergeD [] ps)])
        | none => .stuck)
    | none => .stuck
  | _ => .stuck
section
variable {K : PySem.W.Frag} {w : Wd} {H : Hp}
/-- the entries of a list of pairs -/
theorem ents_of : ∀ {es : List D} {ps : List (List Key × D)} {vs : List V}, pairsT es = some ps → Reps K w H es vs →
    ∃ en : List Ent, vs = en.map (fun e => V.ref e.p) ∧ (∀ e ∈ en, EntOk H e) ∧ en.map (·.k) = ps.map (·.1) ∧ Reps K w H (ps.map (·.2)) (en.map (·.v))
  | [], ps, vs, h, r => by
    simp only [pairsT, Option.some.injEq] at h
    simp only [Reps] at r
    subst h r
    exact ⟨[], rfl, fun _ z => by simp at z, rfl, .nil⟩
  | d :: es, ps, vs, h, r => by
    unfold pairsT at h
    split at h
    · rename_i z
      cases z
    · rename_i ks v rest z
      cases z
      split at h
      · rename_i k ps' h1 h2
        cases h
        simp only [Reps] at r
        obtain ⟨x, r', rfl, r1, r2⟩ := r
        obtain ⟨en, e1, e2, e3, e4⟩ := ents_of h2 r2
        simp only [Rep] at r1
        obtain ⟨a, ys, rfl, f, q⟩ := r1
        simp only [Reps] at q
        obtain ⟨y, q', rfl, q1, z, q'', rfl, q2, rfl⟩ := q
        simp only [Rep] at q1
        obtain ⟨b, zs, rfl, g, q3⟩ := q1
        have e5 := keysOf_rep h1 q3
        subst e5
        refine ⟨⟨a, k, b, z⟩ :: en, by rw [e1]; rfl, fun e he => ?_, by simp [e3], .cons q2 e4⟩
        rcases List.mem_cons.mp he with rfl | he
        · exact ⟨f.2.2, g.2.2⟩
        · exact e2 e he
      · cases h
    · cases h
theorem mergeT_rep : ∀ {en : List Ent} {ps : List (List Key × D)} {acc : List (List Key × D)} {av : List (List Key × V)}, en.map (·.k) = ps.map (·.1) → Reps K w H (ps.map (·.2)) (en.map (·.v)) → RKv K w H acc av → RKv K w H (mergeD acc ps) (mergeT av en)
  | [], [], acc, av, _, _, h => h
  | [], p :: ps, acc, av, h, _, _ => by simp at h
  | e :: en, [], acc, av, h, _, _ => by simp at h
  | e :: en, p :: ps, acc, av, h, r, k => by
    simp only [List.map_cons, List.cons.injEq] at h
    simp only [List.map_cons, Reps] at r
    obtain ⟨v, r', h1, r1, r2⟩ := r
    cases h1
    have := RKv.put e.k r1 k
    refine mergeT_rep (acc := putD acc p.1 p.2) (av := L2.putK av e.k e.v) h.2 r2 ?_
    rw [← h.1]
    exact this
theorem pairsK_rep : ∀ {es : List D} {ps : List (Key × D)} {vs : List V}, pairsK es = some ps → Reps K w H es vs →
    ∃ (as : List Addr) (kvs : List (Key × V)), vs = as.map V.ref ∧ Paired (fun p (kv : Key × V) => SqT K H p [kV kv.1, kv.2]) as kvs ∧ RKv K w H ps kvs
  | [], ps, vs, h, r => by
    simp only [pairsK, Option.some.injEq] at h
    simp only [Reps] at r
    subst h r
    exact ⟨[], [], rfl, .nil, rfl⟩
  | d :: es, ps, vs, h, r => by
    unfold pairsK at h
    split at h
    · rename_i z
      cases z
    · rename_i k v rest z
      cases z
      split at h
      · rename_i k' ps' h1 h2
        cases h
        simp only [Reps] at r
        obtain ⟨x, r', rfl, r1, r2⟩ := r
        obtain ⟨as, kvs, e1, e2, e3⟩ := pairsK_rep h2 r2
        simp only [Rep] at r1
        obtain ⟨a, ys, rfl, f, q⟩ := r1
        simp only [Reps] at q
        obtain ⟨y, q', rfl, q1, z, q'', rfl, q2, rfl⟩ := q
        have e5 := keyOf_rep h1 q1
        refine ⟨a :: as, (k', z) :: kvs, by rw [e1]; rfl, .cons ?_ e2, ⟨z, kvs, rfl, q2, e3⟩⟩
        rw [← e5]
        exact .of f.2.2
      · cases h
    · cases h
theorem mergeK_rep : ∀ {kvs : List (Key × V)} {ps : List (Key × D)} {acc : List (Key × D)} {av : List (Key × V)}, RKv K w H ps kvs → RKv K w H acc av → RKv K w H (mergeD acc ps) (L2.mergeK av kvs)
  | _, [], acc, av, h, k => by
    simp only [RKv] at h
    subst h
    exact k
  | _, (k', d) :: ps, acc, av, h, k => by
    simp only [RKv] at h
    obtain ⟨v, r, rfl, r1, r2⟩ := h
    exact mergeK_rep (acc := putD acc k' d) (av := L2.putK av k' v) r2 (RKv.put k' r1 k)
end
theorem RKv.mono {κ : Type} {K : PySem.W.Frag} {w w' : Wd} {H H' : Hp} (e : Ex w H w' H') : ∀ {kvs : List (κ × D)} {vs : List (κ × V)}, RKv K w H kvs vs → RKv K w' H' kvs vs
  | [], _, h => h
  | (k, d) :: kvs, _, h => by
    simp only [RKv] at h ⊢
    obtain ⟨v, r, rfl, r1, r2⟩ := h
    exact ⟨v, r, rfl, r1.mono e, RKv.mono e r2⟩
theorem cd_dict {X : Cx} {W : XW} (hc : X.calm = true) (hu : X.A.units + 8 < cLine) (kT : Bool) : CallD X W (.type "dict") (dictD kT) := by
  refine ⟨_, (call_dictT hc hu).or (call_dictP hc), fun w H S ds vs σ Q A r P => ?_⟩
  unfold dictD at P
  split at P
  · split at P
    · rename_i d _ es h1
      obtain ⟨v, rfl, r1⟩ := reps1 r
      obtain ⟨a, us, rfl, f, r'⟩ := rdL_rep A h1 r1
      split at P
      · split at P
        · rename_i ps hp
          obtain ⟨en, rfl, e2, e3, e4⟩ := ents_of hp r'
          exact .inl ⟨a, en, rfl, f, e2, fun p hn => P ⟨w.M ++ [p], w.B⟩ _ _ (Ex.newM hn) (A.newM hn ⟨_, rfl, (mergeT_rep (acc := []) (av := []) e3 e4 rfl).mono (Ex.newM hn)⟩) (Rep.locNew A)⟩
        · exact P.elim
      · split at P
        · rename_i ps hp
          obtain ⟨as, kvs, rfl, e2, e3⟩ := pairsK_rep hp r'
          exact .inr ⟨a, as, kvs, rfl, f, e2, fun p hn => P ⟨w.M ++ [p], w.B⟩ _ _ (Ex.newM hn) (A.newM hn ⟨_, rfl, (mergeK_rep (acc := []) (av := []) e3 rfl).mono (Ex.newM hn)⟩) (Rep.locNew A)⟩
        · exact P.elim
    · exact P.elim
  · exact P.elim
/-- d.get(k), d.get(k, x) -/
def isDl (S : Store) : D → Bool
  | .loc l => match S[l]? with
    | some o => (obK o).isSome || (obT o).isSome
    | none => false
  | _ => false
def mGet1 (mo mk : DSt → Store → Res D) (σ : DSt) (S : Store) : Res D := (mo σ S).bind fun d S1 => if isDl S1 d = true then (mk σ S1).bind fun k S2 => match dlook S2 d k with
  | some (some v) => .ok v S2
  | some none => .ok .non S2
  | none => .stuck else .stuck
def mGet2 (mo mk mx : DSt → Store → Res D) (σ : DSt) (S : Store) : Res D := (mo σ S).bind fun d S1 => if isDl S1 d = true then (mk σ S1).bind fun k S2 => (mx σ S2).bind fun x S3 => match dlook S3 d k with
  | some (some v) => .ok v S3
  | some none => .ok x S3
  | none => .stuck else .stuck
section
variable {X : Cx} {W : XW}
theorem isDl_rep {K : PySem.W.Frag} {mg : Str → Option Value} {w : Wd} {H : Hp} {S : Store} (A : Ab K w H mg S) {d : D} {v : V} (h : isDl S d = true) (r : Rep K w H d v) : ∃ a, v = .ref a ∧ IsD H a := by
  cases d with
  | loc l =>
    simp only [isDl] at h
    split at h
    · rename_i o q
      simp only [Rep] at r
      obtain ⟨a, el, rfl⟩ := r
      obtain ⟨u, eu, k⟩ := A.ob l a o el q
      refine ⟨a, rfl, ?_⟩
      cases o with
      | dK kvs => obtain ⟨vs, rfl, _⟩ := k; exact .inl ⟨vs, .inl eu⟩
      | dT kvs => obtain ⟨vs, rfl, _⟩ := k; exact .inr ⟨vs, .inl eu⟩
      | lck o =>
        obtain ⟨od, u', rfl, k⟩ := k
        cases o with
        | dK kvs => obtain ⟨vs, rfl, _⟩ := k; exact .inl ⟨vs, .inr ⟨od, eu⟩⟩
        | dT kvs => obtain ⟨vs, rfl, _⟩ := k; exact .inr ⟨vs, .inr ⟨od, eu⟩⟩
        | _ => simp [obK, obT] at h
      | _ => simp [obK, obT] at h
    · cases h
  | _ => simp [isDl] at h
theorem pm_get1 {o e : Expr} {apos cpos : Pos} {mo mk : DSt → Store → Res D} (hu : X.A.units + 1 < cLine) (ho : PM X W o mo) (hk : PM X W e mk) (m : M1 X o "get" apos e cpos) : PM X W (.Call (.Attribute o "get" apos) [e] [] cpos) (mGet1 mo mk) :=
  PE.imp (pe_dget1 hu ho hk m) fun σ H Q ⟨w, dσ, S, A, R, P⟩ => ⟨w, dσ, S, A, R, P.bind fun d S1 w1 H1 v e1 A1 r1 P1 => by
    split at P1
    · rename_i hd
      obtain ⟨a, rfl, hD⟩ := isDl_rep A1 hd r1
      refine ⟨a, rfl, hD, w1, dσ, S1, A1, R.mono e1, P1.bind fun k S2 w2 H2 y e2 A2 r2 P2 => ?_⟩
      split at P2
      · rename_i v hl
        obtain ⟨a', r, h1, g, ro, _⟩ := dlook_rep A2 hl (r1.mono e2) r2
        cases h1
        cases r with
        | none => exact ro.elim
        | some z => exact ⟨_, g, P2.fin A2 ro⟩
      · rename_i hl
        obtain ⟨a', r, h1, g, ro, hn⟩ := dlook_rep A2 hl (r1.mono e2) r2
        cases h1
        rw [hn rfl] at g
        exact ⟨_, g, P2.fin A2 of_non⟩
      · exact P2.elim
    · exact P1.elim⟩
theorem pm_get2 {o e f : Expr} {apos cpos : Pos} {mo mk mx : DSt → Store → Res D} (hu : X.A.units + 1 < cLine) (ho : PM X W o mo) (hk : PM X W e mk) (hx : PM X W f mx) (m : M2 X o "get" apos e f cpos) : PM X W (.Call (.Attribute o "get" apos) [e, f] [] cpos) (mGet2 mo mk mx) :=
  PE.imp (pe_dget2 hu ho hk hx m) fun σ H Q ⟨w, dσ, S, A, R, P⟩ => ⟨w, dσ, S, A, R, P.bind fun d S1 w1 H1 v e1 A1 r1 P1 => by
    split at P1
    · rename_i hd
      obtain ⟨a, rfl, hD⟩ := isDl_rep A1 hd r1
      refine ⟨a, rfl, hD, w1, dσ, S1, A1, R.mono e1, P1.bind fun k S2 w2 H2 y e2 A2 r2 P2 => ⟨w2, dσ, S2, A2, (R.mono e1).mono e2, P2.bind fun x S3 w3 H3 z e3 A3 r3 P3 => ?_⟩⟩
      split at P3
      · rename_i v hl
        obtain ⟨a', r, h1, g, ro, _⟩ := dlook_rep A3 hl ((r1.mono e2).mono e3) (r2.mono e3)
        cases h1
        cases r with
        | none => exact ro.elim
        | some z => exact ⟨_, g, P3.fin A3 ro⟩
      · rename_i hl
        obtain ⟨a', r, h1, g, ro, hn⟩ := dlook_rep A3 hl ((r1.mono e2).mono e3) (r2.mono e3)
        cases h1
        rw [hn rfl] at g
        exact ⟨_, g, P3.fin A3 r3⟩
      · exact P3.elim
    · exact P1.elim⟩
end
theorem u8 {k : Nat} {A : Around} (r : Room k A) : A.units + 8 < cLine := by have := r.un; omega
end L3
namespace L3
open PySem PySem.Spec L2

/-! ### the items of a locked dict with tuple keys -/
/-- the pairs, each a new tuple -/
def ItP (d : Addr) (o : Obj) (kvs : List (List Key × V)) : It where
  go := fun i H => H d = some (.frz o (.dT kvs)) ∧ i < kvs.length
  yld := fun i H x H' => ∃ (T : Addr) (k : List Key) (v : V) (q : Addr), kvs[i]? = some (k, v) ∧ x = .ref T ∧ H T = none ∧ H q = some (.tup (k.map kV)) ∧ H' = upd H T (.tup [.ref q, v])
  stop := fun i H => H d = some (.frz o (.dT kvs)) ∧ kvs.length ≤ i
section
variable {X : Cx} {pins : List (Addr × Obj)} {σ : L2.St} {H : Hp} {s : Shared} {d : Addr} {o : Obj}
theorem frzP {kvs : List (List Key × V)} (I : Inv X pins σ H s) (h : H d = some (.frz o (.dT kvs))) :
    (d == sysModules) = false ∧ ∃ (es : Array DictEntry) (ep : Nat), s.heap.get? d = some o ∧ o.ExactDict ∧ o.data = .dict es ep ∧ es.size = kvs.length ∧
      ∀ (i : Nat) (k : List Key) (v : V), kvs[i]? = some (k, v) → ∃ (en : DictEntry) (q : Addr), es[i]? = some en ∧ en.key = .ref q ∧ RelV v en.val ∧ H q = some (.tup (k.map kV)) := by
  have z := I.hok d _ h
  obtain ⟨hd, _, hs, xs, pr, o', es, ep, ho, hx, hdt, he, _⟩ := z
  rw [hd] at ho
  cases ho
  have l1 : es.size = xs.length := by rw [← Array.length_toList, he, List.length_map]
  have l2 := Paired.length pr
  refine ⟨hs, es, ep, hd, hx, hdt, by omega, fun i k v e => ?_⟩
  obtain ⟨b, hb, e1, e2, e3⟩ := paired_get pr e
  have q : es[i]? = some (entryOfKey (tupleKind (mixKind X.prog X.w)) b) := by
    rw [← Array.getElem?_toList, he, List.getElem?_map, hb]
    rfl
  exact ⟨_, b.2.1, q, rfl, e3, e2⟩
end
theorem turnP {P : Program} {w : World} {K : PySem.W.Frag} {d : Addr} {o : Obj} {es : Array DictEntry} {ep : Nat} {kvs : List (List Key × V)} {elts : List Expr} {kk : Nat} {tpos : Pos} (it : Addr) (hod : o.data = .dict es ep) :
    Turn P w K (.Tuple elts kk tpos) (ItP d o kvs) [it] it (fun i h => ∃ x y, IsItemIter h it d i kvs.length ep x y) where
  mem := List.mem_singleton.mpr rfl
  obj := fun i h st b hb => by
    obtain ⟨x, y, e⟩ := st
    rw [List.mem_singleton.mp hb]
    exact ⟨_, e, fun v z => nomatch z⟩
  keep := fun i h h' st k => by
    obtain ⟨x, y, e⟩ := st
    exact ⟨x, y, k it (List.mem_singleton.mpr rfl) _ e⟩
  item := by
    intro X e1 e2 e3 e4 i pins s σ H E I hf st hg
    subst e1 e2 e3
    obtain ⟨hd, hi⟩ := hg
    obtain ⟨hs, es2, ep2, hgd, hx, hdt, hsz, ent⟩ := frzP I hd
    obtain ⟨rfl, rfl⟩ := dict_ep hod hdt
    obtain ⟨x, y, he⟩ := st
    have hi2 : i < es2.size := by omega
    obtain ⟨⟨k, v⟩, hkv⟩ : ∃ p, kvs[i]? = some p := ⟨_, List.getElem?_eq_getElem hi⟩
    obtain ⟨en, q, hen, hkey, hval, hq⟩ := ent i k v hkv
    have hen2 : es2[i] = en := by
      rw [Array.getElem?_eq_getElem hi2] at hen
      exact Option.some.inj hen
    rw [← hsz] at he
    have hlt : it < s.heap.objs.size := Heap.lt_size he
    refine wpAny_pyNext_items_item_raw he ⟨o, hgd, hx, hdt⟩ hi2 fun h2 g1 g2 g3 g4 => ?_
    rw [hen2] at g1 g2
    refine ⟨_, rfl, wpAny_letOwnedTupleGo_items (s := { s with heap := h2 }) g1 fun h3 g5 g6 => ?_⟩
    have g7 := (g6.2 _ (Nat.ne_of_gt hlt)).trans g2
    have new : ObjOk X.prog X.w (upd H s.heap.objs.size (.tup [.ref q, v])) h3 s.heap.objs.size (.tup [.ref q, v]) := by
      refine ⟨by show 2 ≤ sizeLine; decide, [en.key, en.val], .cons ?_ (.cons hval .nil), ⟨_, g7, rfl, _, rfl⟩⟩
      rw [hkey]
      exact rfl
    have keepH : ∀ b ob, b ∉ [it] → s.heap.get? b = some ob → h3.get? b = some ob := fun b ob nb e => (g6.2 b fun z => nb (List.mem_singleton.mpr z)).trans (g4 b ob (fun z => nb (List.mem_singleton.mpr z)) e)
    refine ⟨.ref s.heap.objs.size, _, I.turnedNew (t' := s.toks) (ch := [it]) keepH hf (Nat.le_refl _) new, rfl, ⟨_, k, v, q, hkv, rfl, I.hok.fresh (Nat.le_refl _), hq, rfl⟩, ⟨en.key, en.val, ?_⟩, fun b hb => ?_⟩
    · rw [← hsz]
      exact g5
    · rw [List.mem_singleton.mp hb, upd_ne (Nat.ne_of_lt hlt)]
      exact (hf it (List.mem_singleton.mpr rfl)).1
  done := by
    intro X e1 e2 e3 e4 i pins s σ H E I hf st hg
    subst e1 e2 e3
    obtain ⟨hd, hi⟩ := hg
    obtain ⟨f0, f1, f2, f3, f4, f5⟩ := hf it (List.mem_singleton.mpr rfl)
    obtain ⟨hs, es2, ep2, hgd, hx, hdt, hsz, ent⟩ := frzP I hd
    obtain ⟨rfl, rfl⟩ := dict_ep hod hdt
    obtain ⟨x, y, he⟩ := st
    rw [← hsz] at he
    exact wpAny_pyNext_items_end_raw (I.ok.hd e4) he ⟨o, hgd, hx, hdt⟩ (by omega) fun h2 eb => ⟨rfl, I.turned (t' := s.toks) (fun b ob hb e => eb b ob hb e) f0 f1 f3 f4 f5⟩
  self := fun A i s Q E st h => by
    obtain ⟨x, y, e⟩ := st
    exact PySem.W.kcp_self e h
/-- for .. in d.items() -/
def iItemsP (td : TE) : TI := fun σ H R => td σ H fun x H1 => ∃ d o kvs, x = .ref d ∧ H1 d = some (.frz o (.dT kvs)) ∧ R (ItP d o kvs) H1
theorem pi_itemsP {X : Cx} {e : Expr} {td : TE} {apos cpos : Pos} {elts : List Expr} {kk : Nat} {tpos : Pos} (he : PE X e td) (hbase : attributeBase e "items" X.env (eval e X.env) = eval e X.env := by rfl) (hline : (apos.endLine == cpos.line) = true := by rfl) :
    PI X (.Tuple elts kk tpos) (.Call (.Attribute e "items" apos) [] [] cpos) (iItemsP td) := ⟨fun pins s σ H R I h => by
  refine wpAny_Call_method (T := "dict") (id := "dict.items") hbase rfl hline PySem.F.plainAttrs_dict PySem.F.slot_dict_items PySem.F.type_dict_items
    (thn (he.run pins s σ H _ I h) fun u s1 ⟨x, H1, I1, rx, d, o, kvs, ex, hd, q⟩ => ?_)
  subst ex
  obtain rfl : u = Value.ref d := rx
  obtain ⟨hs, es, ep, hgd, hx, hdt, hsz, ent⟩ := frzP I1 hd
  have hty : s1.TypeIs (.ref d) "dict" := ⟨o, hgd, hx.1⟩
  refine ⟨hty, fun b hb => ?_, ?_⟩
  · cases hb
    exact ⟨o, hgd, hx.2.1⟩
  · have raw : s1.heap.DictRaw d es ep := ⟨o, hgd, hx, hdt⟩
    have I2 : Inv X pins σ H1 { s1 with heap := s1.heap.push { cls := .type "dict_items", data := .fields #[.ref d] } } :=
      I1.kept (t' := s1.toks) fun _ _ => Heap.get?_push_of_some _
    have last : wpAny (model X.prog X.w) X.A (pyIter (.ref s1.heap.objs.size)) (PIE X pins σ (.Tuple elts kk tpos) R) X.xe
        { s1 with heap := s1.heap.push { cls := .type "dict_items", data := .fields #[.ref d] } } := by
      refine wpAny_pyIter_items_raw (d := d) ⟨_, Heap.get?_push_size _ rfl, rfl, rfl⟩ (raw.at fun _ => Heap.get?_push_of_some _) ?_
      refine pi_one (tk := s1.toks) I2 _ (turnP _ hdt) ⟨.none, .none, ?_⟩ q
      rw [← hsz]
      exact Heap.get?_push_size _ rfl
    have mt := meets_dict_items_raw (prog := X.prog) (w := X.w) d hs
    show wpAny _ _ (callWith cpos (.builtin "dict.items") [.ref d] [] []) _ X.xe s1
    exact method_meetsIn PySem.F.slot_dict_items PySem.F.entry_dict_items rfl
      (PySem.evalArgs_none ⟨rfl, hty, PySem.F.args_dict_items_1 _, _, mt, ⟨es, ep, raw⟩, last⟩)⟩
def itemSrc (d : D) (S : Store) : Option Src := match d with
  | .loc l => match S[l]? with
    | some (.lck (.dK kvs)) => if kvs.length ≤ sizeLine then some ⟨kvs.map fun kv => .tup [keyD kv.1, kv.2], [(l, .lck (.dK kvs))]⟩ else none
    | some (.lck (.dT kvs)) => if kvs.length ≤ sizeLine then some ⟨kvs.map fun kv => .tup [keysD kv.1, kv.2], [(l, .lck (.dT kvs))]⟩ else none
    | _ => none
  | _ => none
def mItemI (m : DSt → Store → Res D) (σ : DSt) (S : Store) : Res Src := (m σ S).bind fun d S1 => match itemSrc d S1 with
  | some src => .ok src S1
  | none => .stuck
section
variable {K : PySem.W.Frag} {mg : Str → Option Value} {w : Wd} {H : Hp} {S : Store}
theorem map_at {α β : Type} {f : α → β} {xs : List α} {i : Nat} {y : β} (h : (xs.map f)[i]? = some y) : ∃ x, xs[i]? = some x ∧ f x = y := by
  rw [List.getElem?_map, Option.map_eq_some_iff] at h
  exact h
theorem jok_itemsT {a : Addr} {od : Obj} {vs : List (List Key × V)} {kvs : List (List Key × D)} {l : Nat} (hl : w.M[l]? = some a) (hf : H a = some (.frz od (.dT vs))) (rk0 : RKv K w H kvs vs) :
    JOk K mg w H (ItP a od vs) ⟨kvs.map fun kv => .tup [keysD kv.1, kv.2], [(l, .lck (.dT kvs))]⟩ := by
  intro w' H' S' i e A g
  have hf' := e.fz a od _ hf
  have hlen := rkv_len rk0
  refine ⟨fun d hd => ?_, fun hi => ⟨hf', by rw [← hlen]; simpa using hi⟩⟩
  obtain ⟨⟨k0, d0⟩, hk0, rfl⟩ := map_at hd
  have hi := (List.getElem?_eq_some_iff.mp hk0).1
  refine ⟨⟨hf', by rw [← hlen]; exact hi⟩, fun x H2 y => ?_⟩
  obtain ⟨T, k, v, q, hv, rfl, hT, hq, rfl⟩ := y
  have g1 := g (l, _) List.mem_cons_self
  obtain ⟨u, eu, od2, u2, rfl, vs2, rfl, rk⟩ := A.ob l a _ (e.get hl) g1
  rw [hf'] at eu
  cases eu
  obtain ⟨d1, h1, r1⟩ := rkv_get rk hv
  rw [hk0] at h1
  cases h1
  obtain ⟨n1, n2⟩ := tup_notM A hq
  have rq : Rep K w' H' (keysD k0) (.ref q) := ⟨q, _, rfl, ⟨n1, n2, hq⟩, keysD_reps k0⟩
  exact ⟨w', Ex.new hT, A.newF hT, Rep.tupNew A hT (.cons rq (.cons r1 .nil))⟩
theorem jok_itemsK {a : Addr} {od : Obj} {vs : List (Key × V)} {kvs : List (Key × D)} {l : Nat} (hl : w.M[l]? = some a) (hf : H a = some (.frz od (.dK vs))) (rk0 : RKv K w H kvs vs) :
    JOk K mg w H (Iti a od vs) ⟨kvs.map fun kv => .tup [keyD kv.1, kv.2], [(l, .lck (.dK kvs))]⟩ := by
  intro w' H' S' i e A g
  have hf' := e.fz a od _ hf
  have hlen := rkv_len rk0
  refine ⟨fun d hd => ?_, fun hi => ⟨hf', by rw [← hlen]; simpa using hi⟩⟩
  obtain ⟨⟨k0, d0⟩, hk0, rfl⟩ := map_at hd
  have hi := (List.getElem?_eq_some_iff.mp hk0).1
  refine ⟨⟨hf', by rw [← hlen]; exact hi⟩, fun x H2 y => ?_⟩
  obtain ⟨T, k, v, hv, rfl, hT, rfl⟩ := y
  have g1 := g (l, _) List.mem_cons_self
  obtain ⟨u, eu, od2, u2, rfl, vs2, rfl, rk⟩ := A.ob l a _ (e.get hl) g1
  rw [hf'] at eu
  cases eu
  obtain ⟨d1, h1, r1⟩ := rkv_get rk hv
  rw [hk0] at h1
  cases h1
  exact ⟨w', Ex.new hT, A.newF hT, Rep.tupNew A hT (.cons (keyD_rep k0) (.cons r1 .nil))⟩
end
theorem pmi_items {X : Cx} {W : XW} {e : Expr} {m : DSt → Store → Res D} {apos cpos : Pos} {elts : List Expr} {kk : Nat} {tpos : Pos} (h : PM X W e m) (hbase : attributeBase e "items" X.env (eval e X.env) = eval e X.env := by rfl) (hline : (apos.endLine == cpos.line) = true := by rfl) :
    PMI X W (.Tuple elts kk tpos) (.Call (.Attribute e "items" apos) [] [] cpos) (mItemI m) := by
  refine PI.imp (PI.or (pi_items h hbase hline) (pi_itemsP h hbase hline)) fun σ H R ⟨w, dσ, S, A, Rs, P⟩ => ?_
  unfold mItemI at P
  cases hm : m dσ S with
  | ok d S1 =>
    rw [hm] at P
    simp only [Res.bind_ok] at P
    by_cases hk : ∃ l kvs, d = .loc l ∧ S1[l]? = some (.lck (.dK kvs))
    · refine .inl ⟨w, dσ, S, A, Rs, ?_⟩
      rw [hm]
      intro w1 H1 v e1 A1 r1
      obtain ⟨l, kvs, rfl, q⟩ := hk
      simp only [itemSrc, q] at P
      simp only [Rep] at r1
      obtain ⟨a, el, rfl⟩ := r1
      obtain ⟨u, eu, od, u', rfl, vs, rfl, rk⟩ := A1.ob l a _ el q
      split at P
      · rename_i src hs
        split at hs
        · rename_i hz
          cases hs
          exact ⟨a, od, vs, rfl, eu, P w1 H1 _ e1 A1 ⟨jok_itemsK el eu rk, by simpa using hz⟩⟩
        · cases hs
      · exact P.elim
    · refine .inr ⟨w, dσ, S, A, Rs, ?_⟩
      rw [hm]
      intro w1 H1 v e1 A1 r1
      split at P
      · rename_i src hs
        unfold itemSrc at hs
        split at hs
        · rename_i l
          simp only [Rep] at r1
          obtain ⟨a, el, rfl⟩ := r1
          split at hs
          · rename_i kvs q
            exact absurd ⟨l, kvs, rfl, q⟩ hk
          · rename_i kvs q
            obtain ⟨u, eu, od, u', rfl, vs, rfl, rk⟩ := A1.ob l a _ el q
            split at hs
            · rename_i hz
              cases hs
              exact ⟨a, od, vs, rfl, eu, P w1 H1 _ e1 A1 ⟨jok_itemsT el eu rk, by simpa using hz⟩⟩
            · cases hs
          · cases hs
        · cases hs
      · exact P.elim
  | exc c fs S1 =>
    rw [hm] at P
    exact .inl ⟨w, dσ, S, A, Rs, by rw [hm]; exact P⟩
  | stuck =>
    rw [hm] at P
    exact P.elim
end L3
namespace L3
open PySem PySem.Spec L2
/-! ### tuples of the module -/
def KRep (K : PySem.W.Frag) (d : D) (v : V) : Prop := ∀ w H, Rep K w H d v
def KReps (K : PySem.W.Frag) (ds : List D) (vs : List V) : Prop := ∀ w H, Reps K w H ds vs
theorem KReps.nil {K : PySem.W.Frag} : KReps K [] [] := fun _ _ => .nil
theorem KReps.cons {K : PySem.W.Frag} {d : D} {v : V} {ds : List D} {vs : List V} (h : KRep K d v) (t : KReps K ds vs) : KReps K (d :: ds) (v :: vs) := fun w H => .cons (h w H) (t w H)
theorem krep_int {K : PySem.W.Frag} (i : Int) : KRep K (.int i) (.int i) := fun _ _ => of_int i
theorem krep_str {K : PySem.W.Frag} (x : Str) : KRep K (.str x) (.str x) := fun _ _ => of_str x
theorem krep_tup {K : PySem.W.Frag} {a : Addr} {us : List Value} {n : Nat} {sl : Array (Option Value)} {vs : List V} {ds : List D} (l : K.lookup a = some ⟨.type "tuple", none, .seq us.toArray n, sl⟩) (hv : Vals vs us) (hz : us.length ≤ 1000) (r : KReps K ds vs) : KRep K (.ktp ds) (.ref a) := fun w H =>
  ⟨a, vs, rfl, .inl ⟨_, us.toArray, n, l, rfl, rfl, rfl, by rw [List.size_toArray]; exact Nat.le_trans hz (by decide), by simpa using hv⟩, r w H⟩
theorem pm_gktp {X : Cx} {W : XW} {x : Str} {d : D} {ps : Pos} (hg : Gl X x) (h : ∃ a, X.mg x = some (.ref a) ∧ KRep X.K d (.ref a)) (hd : (x == ("__debug__" : Str)) = false := by decide) : PM X W (.Name x ps) (mC d) :=
  let ⟨a, e, k⟩ := h
  pm_glob (v := .ref a) hg e rfl k hd
end L3
namespace L3
open PySem PySem.Spec L2
/-! ### new lists that are handed back and change no more: they freeze -/
def fzD (S : Store) (n : Nat) : Nat → D → Option D
  | 0, d => if d.sc n = true then some d else none
  | k + 1, d => if d.sc n = true then some d else match d with
    | .loc l => match S[l]? with
      | some (.lst ds) => (ds.mapM (fzD S n k)).map D.lst
      | _ => none
    | .tup ds => (ds.mapM (fzD S n k)).map D.tup
    | .lst ds => (ds.mapM (fzD S n k)).map D.lst
    | _ => none
section
variable {K : PySem.W.Frag} {mg : Str → Option Value} {w w' : Wd} {H' : Hp} {S' : Store}
theorem mapM_reps {f : D → Option D} (h : ∀ d d' v, f d = some d' → Rep K w' H' d v → Rep K w H' d' v) : ∀ {ds ds' : List D} {vs : List V}, ds.mapM f = some ds' → Reps K w' H' ds vs → Reps K w H' ds' vs
  | [], ds', vs, e, r => by
    simp only [List.mapM_nil] at e
    cases e
    simpa only [Reps] using r
  | d :: ds, ds', vs, e, r => by
    rw [List.mapM_cons] at e
    simp only [Option.bind_eq_bind, Option.bind_eq_some_iff] at e
    obtain ⟨d', e1, ds2, e2, e3⟩ := e
    cases e3
    simp only [Reps] at r
    obtain ⟨v, r', rfl, r1, r2⟩ := r
    exact .cons (h _ _ _ e1 r1) (mapM_reps h e2 r2)
theorem fz_rep (hM : ∃ t, w'.M = w.M ++ t) (hB : w'.B = w.B) (A' : Ab K w' H' mg S') : ∀ (k : Nat) (d d' : D) (v : V), fzD S' w.M.length k d = some d' → Rep K w' H' d v → Rep K w H' d' v
  | 0, d, d', v, e, r => by
    unfold fzD at e
    split at e
    · rename_i hs
      cases e
      exact rep_cut hM hB r hs
    · cases e
  | k + 1, d, d', v, e, r => by
    unfold fzD at e
    split at e
    · rename_i hs
      cases e
      exact rep_cut hM hB r hs
    · rename_i hs
      cases d with
      | loc l =>
        simp only at e
        split at e
        · rename_i ds q
          simp only [Option.map_eq_some_iff] at e
          obtain ⟨ds', e1, rfl⟩ := e
          simp only [Rep] at r
          obtain ⟨a, el, rfl⟩ := r
          obtain ⟨u, eu, vs, rfl, rr⟩ := A'.ob l a _ el q
          have hl : ¬ l < w.M.length := fun z => hs (by simp only [D.sc]; exact decide_eq_true z)
          obtain ⟨t, ht⟩ := id hM
          have hnm : a ∉ w.M := fun z => by
            obtain ⟨i, hi, e2⟩ := List.getElem_of_mem z
            have e3 : w'.M[i]? = some a := by rw [ht, List.getElem?_append_left hi, List.getElem?_eq_getElem hi, e2]
            obtain ⟨q1, q2⟩ := List.getElem?_eq_some_iff.mp e3
            obtain ⟨q3, q4⟩ := List.getElem?_eq_some_iff.mp el
            have := (List.getElem_inj A'.nd).mp (q2.trans q4.symm)
            omega
          have hnb : a ∉ w.B := fun z => A'.bm a (by rw [hB]; exact z) (List.mem_of_getElem? el)
          simp only [Rep]
          exact ⟨a, vs, rfl, ⟨hnm, hnb, eu⟩, mapM_reps (fz_rep hM hB A' k) e1 rr⟩
        · cases e
      | tup ds =>
        simp only [Option.map_eq_some_iff] at e
        obtain ⟨ds', e1, rfl⟩ := e
        simp only [Rep] at r ⊢
        obtain ⟨a, vs, rfl, ⟨n, b, f⟩, rr⟩ := r
        obtain ⟨t, ht⟩ := id hM
        exact ⟨a, vs, rfl, ⟨fun z => n (by rw [ht]; exact List.mem_append_left _ z), by rw [← hB]; exact b, f⟩, mapM_reps (fz_rep hM hB A' k) e1 rr⟩
      | lst ds =>
        simp only [Option.map_eq_some_iff] at e
        obtain ⟨ds', e1, rfl⟩ := e
        simp only [Rep] at r ⊢
        obtain ⟨a, vs, rfl, ⟨n, b, f⟩, rr⟩ := r
        obtain ⟨t, ht⟩ := id hM
        exact ⟨a, vs, rfl, ⟨fun z => n (by rw [ht]; exact List.mem_append_left _ z), by rw [← hB]; exact b, f⟩, mapM_reps (fz_rep hM hB A' k) e1 rr⟩
      | _ => cases e
end
/-- what stood before stands, or is of what stood before -/
def Kept (S S' : Store) : Prop := S.length ≤ S'.length ∧ ∀ i < S.length, S'[i]? = S[i]? ∨ ∃ o, S'[i]? = some o ∧ o.sc S.length = true
theorem Ab.cut {K : PySem.W.Frag} {mg : Str → Option Value} {w w' : Wd} {H H' : Hp} {S S' : Store} (A : Ab K w H mg S) (A' : Ab K w' H' mg S') (e : Ex w H w' H') (hk : Kept S S') : Ex w H w H' ∧ Ab K w H' mg (S'.take S.length) := by
  obtain ⟨hlen, hob⟩ := hk
  have hB := e.bk
  obtain ⟨t, ht⟩ := id e.pre
  rw [← A.len] at hob
  refine ⟨⟨⟨[], by simp⟩, rfl, fun a u ha n => ⟨(e.keep a u ha n).1, n⟩, e.fz⟩, ⟨?_, A.nd, fun a ha hm => A.bm a ha hm, fun a ha => A'.bt a (by rw [hB]; exact ha), fun l a o h1 h2 => ?_⟩⟩
  · rw [List.length_take, A.len]; omega
  · have hl1 : l < w.M.length := (List.getElem?_eq_some_iff.mp h1).1
    rw [List.getElem?_take_of_lt (by rw [← A.len]; exact hl1)] at h2
    obtain ⟨u, eu, k⟩ := A'.ob l a o (e.get h1) h2
    refine ⟨u, eu, ho_cut e.pre hB k ?_⟩
    rcases hob l hl1 with z | ⟨o', z, s⟩
    · rw [h2] at z
      obtain ⟨u0, _, k0⟩ := A.ob l a o h1 z.symm
      exact ho_sc k0
    · rw [h2] at z
      cases z
      exact s
open Classical in
noncomputable def gcF (den : List D → Store → Res D) (ds : List D) (S : Store) : Res D := match den ds S with
  | .ok d S' => if Kept S S' then (match fzD S' S.length 8 d with
    | some d' => .ok d' (S'.take S.length)
    | none => .ok d S') else .ok d S'
  | r => r
theorem spD_gcF {K : PySem.W.Frag} {mg : Str → Option Value} {n : Nat} {den : List D → Store → Res D} {vs : List V} {H : Hp} {Q : VK} {E : XK} (h : spD K mg n (gcF den) vs H Q E) : spD K mg n den vs H Q E := by
  obtain ⟨w, ds, S, A, r, hl, P⟩ := h
  refine ⟨w, ds, S, A, r, hl, ?_⟩
  unfold gcF at P
  cases hd : den ds S with
  | exc c fs S' => rw [hd] at P; exact P
  | stuck => rw [hd] at P; exact P
  | ok d S' =>
    rw [hd] at P
    simp only at P
    by_cases hc : Kept S S'
    · rw [if_pos hc] at P
      cases hf : fzD S' S.length 8 d with
      | none => rw [hf] at P; exact P
      | some d' =>
        rw [hf] at P
        intro w' H' v e A' rv
        obtain ⟨x1, a1⟩ := A.cut A' e hc
        rw [← A.len] at hf
        exact P w H' v x1 a1 (fz_rep e.pre e.bk A' 8 d d' v hf rv)
    · rw [if_neg hc] at P
      exact P
theorem fn_gcF {P : Program} {w : World} {K : PySem.W.Frag} {mg : Str → Option Value} {base : Heap} {k : Nat} {f : Addr} {fd : FuncData} {ps : List Str} {n : Nat} {den : List D → Store → Res D} (F : FnOk P w K mg base CX0 k f fd ps (spD K mg n den)) : FnOk P w K mg base CX0 k f fd ps (spD K mg n (gcF den)) :=
  F.imp fun _ _ _ _ h => spD_gcF h
/-! ### one new object is handed back: it alone is kept -/
def freshL (n : Nat) : D → Option Nat
  | .loc l => if n ≤ l then some l else none
  | .tup ds => ds.findSome? fun d => match d with
    | .loc l => if n ≤ l then some l else none
    | _ => none
  | _ => none
def rm1 (n l : Nat) : D → Option D
  | .loc m => if m = l then some (.loc n) else if m < n then some (.loc m) else none
  | d => if d.sc n = true then some d else none
def rmD (n l : Nat) : D → Option D
  | .tup ds => (ds.mapM (rm1 n l)).map D.tup
  | d => rm1 n l d
section
variable {K : PySem.W.Frag} {mg : Str → Option Value} {w w' : Wd} {H' : Hp} {S' : Store}
/-- what is of the earlier world is of one with one object more -/
theorem rep_more {a : Addr} {d : D} {v : V} (h : Rep K w H' d v) (hk : ∀ x, (∃ xs, H' x = some (.lst xs)) ∨ (∃ xs, H' x = some (.tup xs)) → x = a → x ∈ w.M) : True := trivial
mutual
theorem rep_sub {w1 : Wd} {t' : List Addr} (hM : ∃ t, w'.M = w.M ++ t) (hM1 : w1.M = w.M ++ t') (hs : ∀ x ∈ t', x ∈ w'.M) (hB : w'.B = w.B) (hB1 : w1.B = w.B) : ∀ {d : D} {v : V}, Rep K w' H' d v → d.sc w.M.length = true → Rep K w1 H' d v
  | .non, _, h, _ => by simpa only [Rep] using h
  | .exn _, _, h, _ => by simpa only [Rep] using h
  | .exf _ _ _ _, _, h, _ => by
    obtain ⟨t, ht⟩ := hM
    simp only [Rep] at h ⊢
    refine ⟨h.1, fun z => ?_, by rw [hB1, ← hB]; exact h.2.2.1, h.2.2.2⟩
    rw [hM1] at z
    refine h.2.1 ?_
    rcases List.mem_append.mp z with z | z
    · rw [ht]; exact List.mem_append_left _ z
    · exact hs _ z
  | .bl _, _, h, _ => by simpa only [Rep] using h
  | .int _, _, h, _ => by simpa only [Rep] using h
  | .str _, _, h, _ => by simpa only [Rep] using h
  | .tup ds, _, h, s => by
    simp only [Rep] at h ⊢
    simp only [D.sc] at s
    obtain ⟨a, vs, e, ⟨n, b, f⟩, r⟩ := h
    obtain ⟨t, ht⟩ := id hM
    refine ⟨a, vs, e, ⟨fun z => n ?_, by rw [hB1, ← hB]; exact b, f⟩, reps_sub hM hM1 hs hB hB1 r s⟩
    rw [hM1] at z
    rcases List.mem_append.mp z with z | z
    · rw [ht]; exact List.mem_append_left _ z
    · exact hs _ z
  | .ktp ds, _, h, s => by
    simp only [Rep] at h ⊢
    simp only [D.sc] at s
    obtain ⟨a, vs, e, f, r⟩ := h
    obtain ⟨t, ht⟩ := id hM
    refine ⟨a, vs, e, f.imp_right fun f => f.by fun a u f n b => ⟨fun z => n ?_, by rw [hB1, ← hB]; exact b, f⟩, reps_sub hM hM1 hs hB hB1 r s⟩
    rw [hM1] at z
    rcases List.mem_append.mp z with z | z
    · rw [ht]; exact List.mem_append_left _ z
    · exact hs _ z
  | .lst ds, _, h, s => by
    simp only [Rep] at h ⊢
    simp only [D.sc] at s
    obtain ⟨a, vs, e, ⟨n, b, f⟩, r⟩ := h
    obtain ⟨t, ht⟩ := id hM
    refine ⟨a, vs, e, ⟨fun z => n ?_, by rw [hB1, ← hB]; exact b, f⟩, reps_sub hM hM1 hs hB hB1 r s⟩
    rw [hM1] at z
    rcases List.mem_append.mp z with z | z
    · rw [ht]; exact List.mem_append_left _ z
    · exact hs _ z
  | .frz ds, _, h, s => by
    simp only [Rep] at h ⊢
    simp only [D.sc] at s
    obtain ⟨a, vs, e, f, r⟩ := h
    obtain ⟨t, ht⟩ := id hM
    refine ⟨a, vs, e, ?_, reps_sub hM hM1 hs hB hB1 r s⟩
    rcases f with ⟨n, b, f⟩ | f
    · refine .inl ⟨fun z => n ?_, by rw [hB1, ← hB]; exact b, f⟩
      rw [hM1] at z
      rcases List.mem_append.mp z with z | z
      · rw [ht]; exact List.mem_append_left _ z
      · exact hs _ z
    · exact .inr f
  | .loc l, _, h, s => by
    simp only [Rep] at h ⊢
    simp only [D.sc] at s
    obtain ⟨a, e, rfl⟩ := h
    obtain ⟨t, ht⟩ := hM
    refine ⟨a, ?_, rfl⟩
    rw [ht, List.getElem?_append_left (of_decide_eq_true s)] at e
    rw [hM1, List.getElem?_append_left (of_decide_eq_true s)]
    exact e
theorem reps_sub {w1 : Wd} {t' : List Addr} (hM : ∃ t, w'.M = w.M ++ t) (hM1 : w1.M = w.M ++ t') (hs : ∀ x ∈ t', x ∈ w'.M) (hB : w'.B = w.B) (hB1 : w1.B = w.B) : ∀ {ds : List D} {vs : List V}, Reps K w' H' ds vs → D.scs w.M.length ds = true → Reps K w1 H' ds vs
  | [], _, h, _ => by simpa only [Reps] using h
  | d :: ds, _, h, s => by
    simp only [Reps] at h ⊢
    simp only [D.scs, Bool.and_eq_true] at s
    obtain ⟨v, r, e, h1, h2⟩ := h
    exact ⟨v, r, e, rep_sub hM hM1 hs hB hB1 h1 s.1, reps_sub hM hM1 hs hB hB1 h2 s.2⟩
end
theorem rkv_sub {κ : Type} {w1 : Wd} {t' : List Addr} (hM : ∃ t, w'.M = w.M ++ t) (hM1 : w1.M = w.M ++ t') (hs : ∀ x ∈ t', x ∈ w'.M) (hB : w'.B = w.B) (hB1 : w1.B = w.B) : ∀ {kvs : List (κ × D)} {vs : List (κ × V)}, RKv K w' H' kvs vs → scK w.M.length kvs = true → RKv K w1 H' kvs vs
  | [], _, h, _ => h
  | (j, d) :: kvs, _, h, s => by
    obtain ⟨v, r, e, h1, h2⟩ := h
    unfold scK at s
    rw [List.all_cons, Bool.and_eq_true] at s
    exact ⟨v, r, e, rep_sub hM hM1 hs hB hB1 h1 s.1, rkv_sub hM hM1 hs hB hB1 h2 s.2⟩
theorem ho_sub {w1 : Wd} {t' : List Addr} (hM : ∃ t, w'.M = w.M ++ t) (hM1 : w1.M = w.M ++ t') (hs : ∀ x ∈ t', x ∈ w'.M) (hB : w'.B = w.B) (hB1 : w1.B = w.B) : ∀ {o : Ob} {u : HO}, HoOk K w' H' mg o u → o.sc w.M.length = true → HoOk K w1 H' mg o u
  | .lst ds, _, h, s => let ⟨vs, e, r⟩ := h; ⟨vs, e, reps_sub hM hM1 hs hB hB1 r s⟩
  | .dK ds, _, h, s => let ⟨vs, e, r⟩ := h; ⟨vs, e, rkv_sub hM hM1 hs hB hB1 r s⟩
  | .dT ds, _, h, s => let ⟨vs, e, r⟩ := h; ⟨vs, e, rkv_sub hM hM1 hs hB hB1 r s⟩
  | .ins C ds, _, h, s => let ⟨A, dx, vs, m, e, r⟩ := h; ⟨A, dx, vs, m, e, rkv_sub hM hM1 hs hB hB1 r s⟩
  | .lck o, _, h, s => let ⟨od, u', e, r⟩ := h; ⟨od, u', e, ho_sub (o := o) hM hM1 hs hB hB1 r s⟩
end
theorem rm1_rep {K : PySem.W.Frag} {w w' w1 : Wd} {H' : Hp} {a : Addr} {l : Nat} (hM : ∃ t, w'.M = w.M ++ t) (hM1 : w1.M = w.M ++ [a]) (hl : w'.M[l]? = some a) (hB : w'.B = w.B) (hB1 : w1.B = w.B) {d d' : D} {v : V} (e : rm1 w.M.length l d = some d') (r : Rep K w' H' d v) : Rep K w1 H' d' v := by
  have hs : ∀ x ∈ [a], x ∈ w'.M := fun x hx => by rw [List.mem_singleton.mp hx]; exact List.mem_of_getElem? hl
  unfold rm1 at e
  split at e
  · rename_i m
    split at e
    · rename_i hm
      subst hm
      cases e
      simp only [Rep] at r ⊢
      obtain ⟨b, eb, rfl⟩ := r
      rw [hl] at eb
      cases eb
      exact ⟨a, by rw [hM1]; simp, rfl⟩
    · split at e
      · rename_i h2
        cases e
        exact rep_sub hM hM1 hs hB hB1 r (by simp only [D.sc]; exact decide_eq_true h2)
      · cases e
  · split at e
    · rename_i h2
      cases e
      exact rep_sub hM hM1 hs hB hB1 r h2
    · cases e
theorem mapM_reps2 {K : PySem.W.Frag} {w1 w' : Wd} {H' : Hp} {f : D → Option D} (h : ∀ d d' v, f d = some d' → Rep K w' H' d v → Rep K w1 H' d' v) : ∀ {ds ds' : List D} {vs : List V}, ds.mapM f = some ds' → Reps K w' H' ds vs → Reps K w1 H' ds' vs := fun e r => mapM_reps (w := w1) h e r
open Classical in
noncomputable def gcO (den : List D → Store → Res D) (ds : List D) (S : Store) : Res D := match den ds S with
  | .ok d S' => match freshL S.length d with
    | some l => match S'[l]?, rmD S.length l d with
      | some o, some d' => if Kept S S' ∧ S.length ≤ l ∧ o.sc S.length = true then .ok d' (S'.take S.length ++ [o]) else .ok d S'
      | _, _ => .ok d S'
    | none => if Kept S S' ∧ d.sc S.length = true then .ok d (S'.take S.length) else .ok d S'
  | r => r
theorem spD_gcO {K : PySem.W.Frag} {mg : Str → Option Value} {n : Nat} {den : List D → Store → Res D} {vs : List V} {H : Hp} {Q : VK} {E : XK} (h : spD K mg n (gcO den) vs H Q E) : spD K mg n den vs H Q E := by
  obtain ⟨w, ds, S, A, r, hl, P⟩ := h
  refine ⟨w, ds, S, A, r, hl, ?_⟩
  unfold gcO at P
  cases hd : den ds S with
  | exc c fs S' => rw [hd] at P; exact P
  | stuck => rw [hd] at P; exact P
  | ok d S' =>
    rw [hd] at P
    simp only at P
    cases hn : freshL S.length d with
    | some l =>
      rw [hn] at P
      simp only at P
      cases ho : S'[l]? with
      | none => rw [ho] at P; exact P
      | some o =>
       cases hr : rmD S.length l d with
       | none => rw [ho, hr] at P; exact P
       | some d' =>
        rw [ho, hr] at P
        simp only at P
        by_cases hc : Kept S S' ∧ S.length ≤ l ∧ o.sc S.length = true
        · rw [if_pos hc] at P
          obtain ⟨hk, hle, hsc⟩ := hc
          intro w' H' v e A' rv
          obtain ⟨x1, a1⟩ := A.cut A' e hk
          obtain ⟨t, ht⟩ := id e.pre
          have hlt : l < w'.M.length := by rw [A'.len]; exact (List.getElem?_eq_some_iff.mp ho).1
          obtain ⟨a, ha⟩ : ∃ a, w'.M[l]? = some a := ⟨_, List.getElem?_eq_getElem hlt⟩
          have ham : a ∈ w'.M := List.mem_of_getElem? ha
          have hanm : a ∉ w.M := fun z => by
            obtain ⟨i, hi, e2⟩ := List.getElem_of_mem z
            have e3 : w'.M[i]? = some a := by rw [ht, List.getElem?_append_left hi, List.getElem?_eq_getElem hi, e2]
            obtain ⟨q1, q2⟩ := List.getElem?_eq_some_iff.mp e3
            obtain ⟨q3, q4⟩ := List.getElem?_eq_some_iff.mp ha
            have := (List.getElem_inj A'.nd).mp (q2.trans q4.symm)
            rw [← A.len] at hle
            omega
          obtain ⟨u, eu, ku⟩ := A'.ob l a o ha ho
          rw [← A.len] at hsc hr
          have hs : ∀ x ∈ [a], x ∈ w'.M := fun x hx => by rw [List.mem_singleton.mp hx]; exact ham
          have hrep : Rep K ⟨w.M ++ [a], w.B⟩ H' d' v := by
            unfold rmD at hr
            split at hr
            · simp only [Option.map_eq_some_iff] at hr
              obtain ⟨es, e1, rfl⟩ := hr
              simp only [Rep] at rv ⊢
              obtain ⟨p, us, rfl, ⟨n1, n2, f⟩, rr⟩ := rv
              refine ⟨p, us, rfl, ⟨fun z => n1 ?_, by rw [e.bk] at n2; exact n2, f⟩, mapM_reps2 (fun d d' v h r => rm1_rep e.pre (w1 := ⟨w.M ++ [a], w.B⟩) rfl ha e.bk rfl h r) e1 rr⟩
              rcases List.mem_append.mp z with z | z
              · rw [ht]; exact List.mem_append_left _ z
              · exact hs _ z
            · exact rm1_rep e.pre (w1 := ⟨w.M ++ [a], w.B⟩) rfl ha e.bk rfl hr rv
          refine P ⟨w.M ++ [a], w.B⟩ H' v ⟨⟨[a], rfl⟩, rfl, fun b x hb n => ⟨(e.keep b x hb n).1, fun z => ?_⟩, e.fz⟩ ⟨?_, ?_, fun b hb z => ?_, fun b hb => A'.bt b (by rw [e.bk]; exact hb), fun m b ob h1 h2 => ?_⟩ hrep
          · rcases List.mem_append.mp z with z | z
            · exact n z
            · rw [List.mem_singleton.mp z] at hb
              exact (e.keep a x hb hanm).2 ham
          · simp only [List.length_append, List.length_cons, List.length_nil, List.length_take, A.len]
            have := hk.1
            omega
          · show (w.M ++ [a]).Nodup
            rw [List.nodup_append]
            exact ⟨A.nd, by simp, fun b hb c hc => by simp only [List.mem_singleton] at hc; subst hc; exact fun e => hanm (e ▸ hb)⟩
          · rcases List.mem_append.mp z with z | z
            · exact A.bm b hb z
            · rw [List.mem_singleton.mp z] at hb
              exact A'.bm a (by rw [e.bk]; exact hb) ham
          · have h1 : (w.M ++ [a])[m]? = some b := h1
            have htl : (S'.take S.length).length = w.M.length := by rw [List.length_take, A.len]; have := hk.1; omega
            by_cases hm : m < w.M.length
            · rw [List.getElem?_append_left hm] at h1
              rw [List.getElem?_append_left (by rw [htl]; exact hm)] at h2
              rw [List.getElem?_take_of_lt (by rw [← A.len]; exact hm)] at h2
              obtain ⟨u', eu', k'⟩ := A'.ob m b ob (e.get h1) h2
              refine ⟨u', eu', ho_sub e.pre (w1 := ⟨w.M ++ [a], w.B⟩) rfl hs e.bk rfl k' ?_⟩
              have hob := hk.2 m (by rw [← A.len]; exact hm)
              rw [← A.len] at hob
              rcases hob with z | ⟨o', z, s⟩
              · rw [h2] at z
                obtain ⟨u0, _, k0⟩ := A.ob m b ob h1 z.symm
                exact ho_sc k0
              · rw [h2] at z
                cases z
                exact s
            · rw [List.getElem?_append_right (by omega)] at h1
              rw [List.getElem?_append_right (by rw [htl]; omega), htl] at h2
              have hm0 : m - w.M.length = 0 := by
                cases hq : m - w.M.length with
                | zero => rfl
                | succ n => rw [hq] at h1; simp at h1
              rw [hm0] at h1 h2
              simp only [List.getElem?_cons_zero, Option.some.injEq] at h1 h2
              subst h1 h2
              exact ⟨u, eu, ho_sub e.pre (w1 := ⟨w.M ++ [a], w.B⟩) rfl hs e.bk rfl ku hsc⟩
        · rw [if_neg hc] at P
          exact P
    | none =>
      rw [hn] at P
      simp only at P
      by_cases hc : Kept S S' ∧ d.sc S.length = true
      · rw [if_pos hc] at P
        intro w' H' v e A' rv
        obtain ⟨x1, a1⟩ := A.cut A' e hc.1
        have hsc := hc.2
        rw [← A.len] at hsc
        exact P w H' v x1 a1 (rep_cut e.pre e.bk rv hsc)
      · rw [if_neg hc] at P
        exact P
theorem fn_gcO {P : Program} {w : World} {K : PySem.W.Frag} {mg : Str → Option Value} {base : Heap} {k : Nat} {f : Addr} {fd : FuncData} {ps : List Str} {n : Nat} {den : List D → Store → Res D} (F : FnOk P w K mg base CX0 k f fd ps (spD K mg n den)) : FnOk P w K mg base CX0 k f fd ps (spD K mg n (gcO den)) :=
  F.imp fun _ _ _ _ h => spD_gcO h
/-! how they are used -/
theorem Kept.of {S S1 g : Store} (hl : S1.length = S.length) (ho : ∀ i < S.length, S1[i]? = S[i]? ∨ ∃ o, S1[i]? = some o ∧ o.sc S.length = true) : Kept S (S1 ++ g) :=
  ⟨by rw [List.length_append]; omega, fun i hi => by rw [List.getElem?_append_left (by omega)]; exact ho i hi⟩
theorem gcF_loc {den : List D → Store → Res D} {ds es : List D} {S S1 g : Store} {k : Nat} (h : den ds S = .ok (.loc (S.length + k)) (S1 ++ g)) (hl : S1.length = S.length) (he : g[k]? = some (.lst es)) (hs : D.scs S.length es = true) (ho : ∀ i < S.length, S1[i]? = S[i]? ∨ ∃ o, S1[i]? = some o ∧ o.sc S.length = true) : gcF den ds S = .ok (.lst es) S1 := by
  unfold gcF
  rw [h]
  simp only
  rw [if_pos (Kept.of hl ho)]
  have e1 : (S1 ++ g)[S.length + k]? = some (.lst es) := by
    rw [List.getElem?_append_right (by omega), ← he]
    congr 1
    omega
  have e2 : ∀ es : List D, D.scs S.length es = true → es.mapM (fzD (S1 ++ g) S.length 7) = some es := by
    intro es
    induction es with
    | nil => intro _; rfl
    | cons d es ih =>
      intro hs
      simp only [D.scs, Bool.and_eq_true] at hs
      rw [List.mapM_cons, ih hs.2]
      have : fzD (S1 ++ g) S.length 7 d = some d := by unfold fzD; rw [if_pos hs.1]
      rw [this]; rfl
  have e3 : fzD (S1 ++ g) S.length 8 (.loc (S.length + k)) = some (.lst es) := by
    unfold fzD
    rw [if_neg (by simp [D.sc])]
    simp only [e1, e2 es hs]
    rfl
  rw [e3, ← hl, List.take_left]
theorem gcF_sc {den : List D → Store → Res D} {ds : List D} {S S1 g : Store} {d : D} (h : den ds S = .ok d (S1 ++ g)) (hl : S1.length = S.length) (hs : d.sc S.length = true) (ho : ∀ i < S.length, S1[i]? = S[i]? ∨ ∃ o, S1[i]? = some o ∧ o.sc S.length = true) : gcF den ds S = .ok d S1 := by
  unfold gcF
  rw [h]
  simp only
  rw [if_pos (Kept.of hl ho)]
  have e3 : fzD (S1 ++ g) S.length 8 d = some d := by unfold fzD; rw [if_pos hs]
  rw [e3, ← hl, List.take_left]
theorem gcO_loc {den : List D → Store → Res D} {ds : List D} {S S1 g : Store} {k : Nat} {o : Ob} (h : den ds S = .ok (.loc (S.length + k)) (S1 ++ g)) (hl : S1.length = S.length) (he : g[k]? = some o) (hs : o.sc S.length = true) (ho : ∀ i < S.length, S1[i]? = S[i]? ∨ ∃ o, S1[i]? = some o ∧ o.sc S.length = true) : gcO den ds S = .ok (.loc S.length) (S1 ++ [o]) := by
  unfold gcO
  rw [h]
  have e0 : freshL S.length (.loc (S.length + k)) = some (S.length + k) := by simp [freshL]
  have e1 : (S1 ++ g)[S.length + k]? = some o := by
    rw [List.getElem?_append_right (by omega), ← he]
    congr 1
    omega
  have e2 : rmD S.length (S.length + k) (.loc (S.length + k)) = some (.loc S.length) := by simp [rmD, rm1]
  simp only [e0, e1, e2]
  rw [if_pos ⟨Kept.of hl ho, by omega, hs⟩, ← hl, List.take_left]
end L3
namespace L3
open PySem PySem.Spec L2
section
variable {X : Cx} {W : XW}
/-! ### new lists that will be changed: x + y, sorted(x), x[a:b] -/
def addMD (d e : D) (S : Store) : Res D := match exL S d, exL S e with
  | some a, some b => if a.length + b.length ≤ sizeLine then .ok (.loc S.length) (S ++ [.lst (a ++ b)]) else .stuck
  | _, _ => .stuck
theorem od_addM : OpD X W (binaryOp .Add) addMD := by
  refine ⟨_, op_cat, fun w H S d e x y σ Q A rd re P => ?_⟩
  unfold addMD at P
  split at P
  · rename_i a b ha hb
    split at P
    · rename_i hz
      obtain ⟨l, vs, rfl, f, r⟩ := exL_rep A ha rd
      obtain ⟨l', us, rfl, g, r'⟩ := exL_rep A hb re
      exact ⟨l, l', vs, us, rfl, rfl, f, g, by rw [← r.length, ← r'.length]; exact hz, fun p hp => P _ _ _ (Ex.newM hp) (newLst A hp (r.append r')) (Rep.locNew A)⟩
    · exact P.elim
  · exact P.elim
open Classical in
noncomputable def sortedMD (ds : List D) (S : Store) : Res D := match ds with
  | [d] => match rdL S d with
    | some es => if Srt es ∧ es.length ≤ sizeLine then .ok (.loc S.length) (S ++ [.lst (es.mergeSort dLe)]) else .stuck
    | none => .stuck
  | _ => .stuck
theorem cd_sortedM (hu : X.A.units + 64 < cLine) : CallD X W (.builtin "sorted") sortedMD := by
  refine ⟨_, cr_sortedAll hu, fun w H S ds vs σ Q A r P => ?_⟩
  unfold sortedMD at P
  split at P
  · split at P
    · split at P
      · rename_i d _ es h1 hs
        obtain ⟨v, rfl, r1⟩ := reps1 r
        obtain ⟨a, us, rfl, f, r'⟩ := rdL_rep A h1 r1
        exact ⟨a, us, es, w, rfl, f, r', hs.1, hs.2, fun xs p rx hp => P _ _ _ (Ex.newM hp) (newLst A hp rx) (Rep.locNew A)⟩
      · exact P.elim
    · exact P.elim
  · exact P.elim
end
end L3
namespace L3
open PySem PySem.Spec L2
/-! ### o.f = e, o.f += e, x += e -/
def putFD (f : Str) (d : D) : List (Str × D) → List (Str × D)
  | [] => [(f, d)]
  | (g, x) :: r => if g = f then (g, d) :: r else (g, x) :: putFD f d r
section
variable {X : Cx} {W : XW} {o e value : Expr} {f : Str} {pos pos' tpos : Pos}
theorem RKv.putF {K : PySem.W.Frag} {w : Wd} {H : Hp} {f : Str} {d : D} {v : V} (r : Rep K w H d v) : ∀ {fs : List (Str × D)} {vs : List (Str × V)}, RKv K w H fs vs → RKv K w H (putFD f d fs) (L2.putF f v vs)
  | [], _, h => by simp only [RKv] at h; subst h; exact ⟨v, [], rfl, r, rfl⟩
  | (g, x) :: fs, _, h => by
    obtain ⟨y, us, rfl, h1, h2⟩ := h
    unfold putFD L2.putF
    by_cases e : g = f
    · rw [if_pos e, if_pos e]
      exact ⟨v, us, rfl, r, h2⟩
    · rw [if_neg e, if_neg e]
      exact ⟨y, _, rfl, h1, RKv.putF r h2⟩
open Classical in
noncomputable def setFD (cs : List Str) (f : Str) (d o : D) (σ : DSt) (S : Store) : Res Fl := match o with
  | .loc l => match S[l]? with
    | some (.ins C fs) => if C ∈ cs ∧ fs.length < 1000 then .ok (.nx σ) (S.set l (.ins C (putFD f d fs))) else .stuck
    | _ => .stuck
  | _ => .stuck
noncomputable def mFldS (cs : List Str) (f : Str) (mv mo : DSt → Store → Res D) (σ : DSt) (S : Store) : Res Fl := liftE (mv σ S) σ fun d S1 => liftE (mo σ S1) σ fun o S2 => setFD cs f d o σ S2
theorem rkv_length {κ : Type} {K : PySem.W.Frag} {w : Wd} {H : Hp} : ∀ {kvs : List (κ × D)} {vs : List (κ × V)}, RKv K w H kvs vs → kvs.length = vs.length
  | [], _, h => by simp only [RKv] at h; subst h; rfl
  | (k', d) :: kvs, _, h => by
    simp only [RKv] at h
    obtain ⟨v', r, rfl, h1, h2⟩ := h
    simp [rkv_length h2]
theorem setFD_ok {cs : List Str} {d od : D} {σ : L2.St} {dσ : DSt} {S : Store} {w : Wd} {H : Hp} {v x : V} {D : Ends} (hf : ClsF X f cs) (A : Ab X.K w H X.mg S) (R : RSt X.K w H dσ σ) (rd : Rep X.K w H d v) (ro : Rep X.K w H od x)
    (P : PostS X.K X.mg W w H (setFD cs f d od dσ S) D) : ∃ a C dx fs, x = .ref a ∧ H a = some (.ins C dx fs) ∧ Cls X.K C ∧ NoAttr X.K C f ∧ fs.length < 1000 ∧ D.nx σ (upd H a (.ins C dx (L2.putF f v fs))) := by
  unfold setFD at P
  split at P
  · rename_i l
    split at P
    · rename_i C' fs q
      split at P
      · rename_i hc
        simp only [Rep] at ro
        obtain ⟨a, el, rfl⟩ := ro
        obtain ⟨u, eu, A', dx, vs, hm, rfl, r'⟩ := A.ob l a _ el q
        obtain ⟨C, h1, h2, h3⟩ := hf C' hc.1
        rw [h1] at hm
        cases hm
        refine ⟨a, _, dx, vs, rfl, eu, h2, h3, by rw [← rkv_length r']; exact hc.2, ?_⟩
        have hmem : a ∈ w.M := List.mem_of_getElem? el
        exact P w _ σ (Ex.wr hmem (nz_ins eu)) (A.wr el (nz_ins eu) ⟨_, dx, _, h1, rfl, r'.putF rd⟩) (R.mono (Ex.wr hmem (nz_ins eu)))
      · exact P.elim
    · exact P.elim
  · exact P.elim
theorem pms_fldS {cs : List Str} {mv mo : DSt → Store → Res D} (hv : PM X W value mv) (ho : PM X W o mo) (hf : ClsF X f cs) (hs : swapsWith value (some (.Attribute o f pos')) pos.line X.env = pure false := by rfl) : PMS X W (.Assign [.Attribute o f pos'] value pos) (mFldS cs f mv mo) :=
  PS.imp (ps_fld ho hv hs) fun D σ H ⟨w, dσ, S, A, R, P⟩ => ⟨w, dσ, S, A, R, P.bindE R fun d S1 w1 H1 v e1 A1 r1 P1 => ⟨w1, dσ, S1, A1, R.mono e1, P1.bindE (R.mono e1) fun od S2 w2 H2 x e2 A2 r2 P2 =>
    setFD_ok hf A2 ((R.mono e1).mono e2) (r1.mono e2) r2 P2⟩⟩
/-- += of two whole numbers -/
def mAug (i : Nat) (mv : DSt → Store → Res D) (σ : DSt) (S : Store) : Res Fl := match σ[i]? with
  | some (some (.int a)) => liftE (mv σ S) σ fun d S1 => match d with
    | .int b => .ok (.nx (σ.set i (some (.int (a + b))))) S1
    | _ => .stuck
  | _ => .stuck
theorem pms_aug {i : Nat} {x : Str} {mv : DSt → Store → Res D} {pos' : Pos} (hN : X.N.Nodup) (hi : X.N[i]? = some x) (hx : Loc X.env.scope x) (he : PM X W e mv) (hf : X.fn x = true ∨ X.env.scope.names.lookup x = some .local := by first | exact .inl rfl | exact .inr rfl | assumption) :
    PMS X W (.AugAssign (.Name x pos') .Add e pos) (mAug i mv) :=
  PS.imp (ps_aug hN hi hx he ip_add hf) fun D σ H ⟨w, dσ, S, A, R, P⟩ => by
    unfold mAug at P
    split at P
    · rename_i a ha
      obtain ⟨v, hv, rv⟩ := R.2 i _ ha
      refine ⟨v, hv, w, dσ, S, A, R, P.bindE R fun d S1 w1 H1 y e1 A1 r1 P1 => ?_⟩
      split at P1
      · rename_i b
        exact ⟨a, b, rep_int rv, rep_int r1, P1.nx A1 ((R.mono e1).set (of_int _) i)⟩
      · exact P1.elim
    · exact P.elim
open Classical in
noncomputable def augFD (cs : List Str) (f : Str) (C : Str) (d o : D) (σ : DSt) (S : Store) : Res Fl := match insOf S o, o with
  | some (C2, fs), .loc l => if C2 = C ∧ C ∈ cs ∧ fs.length < 1000 then .ok (.nx σ) (S.set l (.ins C (putFD f d fs))) else .stuck
  | _, _ => .stuck
open Classical in
noncomputable def mAugF (cs : List Str) (f : Str) (mo mv : DSt → Store → Res D) (σ : DSt) (S : Store) : Res Fl := liftE (mo σ S) σ fun o S1 => match insOf S1 o with
  | some (C, fs) => if C ∈ cs then (match fs.lookup f with
    | some (.int a) => liftE (mv σ S1) σ fun d S2 => match d with
      | .int b => augFD cs f C (.int (a + b)) o σ S2
      | _ => .stuck
    | _ => .stuck) else .stuck
  | none => .stuck
theorem pms_augF {cs : List Str} {mv mo : DSt → Store → Res D} (ho : PM X W o mo) (hv : PM X W value mv) (hf : ClsF X f cs) : PMS X W (.AugAssign (.Attribute o f tpos) .Add value pos) (mAugF cs f mo mv) :=
  PS.imp (ps_fldaug ho hv in_add) fun D σ H ⟨w, dσ, S, A, R, P⟩ => ⟨w, dσ, S, A, R, P.bindE R fun od S1 w1 H1 x e1 A1 r1 P1 => by
    split at P1
    · rename_i C' fs hi
      split at P1
      · rename_i hmem
        split at P1
        · rename_i a hl
          obtain ⟨l, p, A', dx, vs, rfl, el, q, rfl, hm', eu, r'⟩ := ins_rep A1 hi r1
          have lk := (lookup_rep f r').1
          rw [hl] at lk
          cases hv' : vs.lookup f with
          | none => rw [hv'] at lk; exact lk.elim
          | some v =>
            rw [hv'] at lk
            have lk : Rep X.K w1 H1 (.int a) v := lk
            obtain ⟨C, h1, h2, h3⟩ := hf C' hmem
            rw [h1] at hm'
            cases hm'
            refine ⟨p, _, dx, vs, v, rfl, eu, h2, h3, hv', w1, dσ, S1, A1, R.mono e1, P1.bindE (R.mono e1) fun d S2 w2 H2 y e2 A2 r2 P2 => ?_⟩
            split at P2
            · rename_i b
              refine ⟨a, b, rep_int lk, rep_int r2, ?_⟩
              unfold augFD at P2
              split at P2
              · rename_i C2 fs2 l2 hi2 heq
                cases heq
                split at P2
                · rename_i hc
                  obtain ⟨l', p', A2', dx', vs', ex, el2, q2, ep, hm2, eu2, r2'⟩ := ins_rep A2 hi2 (r1.mono e2)
                  cases ex
                  cases ep
                  rw [hc.1, h1] at hm2
                  cases hm2
                  have hmM : p ∈ w2.M := List.mem_of_getElem? el2
                  refine ⟨dx', vs', eu2, by rw [← rkv_length r2']; exact hc.2.2, ?_⟩
                  exact P2 w2 _ σ (Ex.wr hmM (nz_ins eu2)) (A2.wr el2 (nz_ins eu2) ⟨_, dx', _, h1, rfl, r2'.putF (of_int _)⟩) (((R.mono e1).mono e2).mono (Ex.wr hmM (nz_ins eu2)))
                · exact P2.elim
              · exact P2.elim
            · exact P2.elim
        · exact P1.elim
      · exact P1.elim
    · exact P1.elim⟩
theorem pms_never {s : Stmt} : PMS X W s (fun _ _ => .stuck) := PS.imp ps_never fun D σ H ⟨w, dσ, S, A, R, P⟩ => P.elim
/-- facts of fields, class by class -/
theorem clsF_nil : ClsF X f [] := fun c h => (List.not_mem_nil h).elim
theorem clsF_cons {c : Str} {C : Addr} {cs : List Str} (h1 : X.mg c = some (.ref C)) (h2 : Cls X.K C) (h3 : NoAttr X.K C f) (h : ClsF X f cs) : ClsF X f (c :: cs) := fun d hd => by
  rcases List.mem_cons.mp hd with rfl | hd
  · exact ⟨C, h1, h2, h3⟩
  · exact h d hd
end
def FldIn (K : PySem.W.Frag) (mg : Str → Option Value) (f : Str) (cs : List Str) : Prop := ∀ c ∈ cs, ∃ C, mg c = some (.ref C) ∧ Cls K C ∧ NoAttr K C f
theorem FldIn.nil {K : PySem.W.Frag} {mg : Str → Option Value} {f : Str} : FldIn K mg f [] := fun c h => (List.not_mem_nil h).elim
theorem FldIn.cons {K : PySem.W.Frag} {mg : Str → Option Value} {f c : Str} {C : Addr} {cs : List Str} (h1 : mg c = some (.ref C)) (h2 : Cls K C) (h3 : NoAttr K C f) (h : FldIn K mg f cs) : FldIn K mg f (c :: cs) := fun d hd => by
  rcases List.mem_cons.mp hd with rfl | hd
  · exact ⟨C, h1, h2, h3⟩
  · exact h d hd
end L3
namespace L3
open PySem PySem.Spec L2
section
variable {X : Cx} {W : XW}
/-! ### xs.insert(i, y); list(range(n)) -/
def insertD (d : D) (ds : List D) (S : Store) : Res D := match mutL S d, ds with
  | some (l, es), [.int i, e] => if es.length < sizeLine ∧ 0 ≤ i ∧ i < 2 ^ 63 then .ok .non (S.set l (.lst (es.take i.toNat ++ [e] ++ es.drop i.toNat))) else .stuck
  | _, _ => .stuck
theorem md_insert : MtD X W "list" "list.insert" insertD := by
  refine ⟨_, mt_insert, fun w H S d ds v vs σ Q A r rs P => ?_⟩
  unfold insertD at P
  split at P
  · split at P
    · rename_i l es i e h1 hz
      obtain ⟨a, us, rfl, el, hm, eu, r'⟩ := mutL_rep A h1 r
      obtain ⟨u1, u2, rfl, r1, r2⟩ := reps2 rs
      exact ⟨a, us, i, u2, rfl, by rw [rep_int r1], eu, by rw [← r'.length]; exact hz.1, hz.2.1, hz.2.2, P w _ _ (Ex.wr hm (nz_lst eu)) (A.wr el (nz_lst eu) ⟨_, rfl, ((r'.take i.toNat).append (.cons r2 .nil)).append (r'.drop i.toNat)⟩) of_non⟩
    · exact P.elim
  · exact P.elim
/-- t.index(k), t of whole numbers -/
theorem mt_tindex : MtR X "tuple.index" (fun x vs H Q => ∃ (a : Addr) (ns : List Int) (k : Int), x = .ref a ∧ vs = [.int k] ∧ SqT X.K H a (ns.map V.int) ∧ k ∈ ns ∧ Q (.int (ns.idxOf k : Nat)) H) := by
  intro pins s σ H x vs v us Q I rx rv h
  obtain ⟨a, ns, k, rfl, rfl, hq, hk, q⟩ := h
  cases rx
  obtain ⟨u, rfl, ru⟩ := rv.one
  obtain ⟨t, rfl⟩ := ru
  obtain ⟨its, r, pl, hz⟩ := I.tuple hq
  exact PySem.SeqAt.tuple_index_ints pl (Vals.ints r) hk ⟨.int _, H, I.tok _, ⟨_, rfl⟩, q⟩
def tindexD (d : D) (ds : List D) (S : Store) : Res D := match d, ds with
  | .tup es, [.int k] => match intsOf es with
    | some ns => if k ∈ ns then .ok (.int (ns.idxOf k : Nat)) S else .stuck
    | none => .stuck
  | _, _ => .stuck
theorem md_tindex : MtD X W "tuple" "tuple.index" tindexD := by
  refine ⟨_, mt_tindex, fun w H S d ds v vs σ Q A r rs P => ?_⟩
  unfold tindexD at P
  split at P
  · split at P
    · split at P
      · rename_i es k _ ns hn hk
        obtain ⟨a, ys, rfl, f, q⟩ := tup_rep r
        obtain ⟨u1, rfl, r1⟩ := reps1 rs
        have e := intsOf_rep hn q
        subst e
        exact ⟨a, ns, k, rfl, by rw [rep_int r1], .of f, hk, P.fin A (of_int _)⟩
      · exact P.elim
    · exact P.elim
  · exact P.elim
theorem rangeD_reps {K : PySem.W.Frag} {w : Wd} {H : Hp} (n : Int) : Reps K w H (rangeD 0 1 n.toNat) (rgV 0 n) := by
  unfold rangeD rgV
  rw [show (n - 0).toNat = n.toNat by rw [Int.sub_zero]]
  have : ∀ l : List Nat, Reps K w H (l.map fun (i : Nat) => D.int (0 + (i : Int) * 1)) (l.map fun i => V.int (0 + (i : Nat))) := fun l => by
    induction l with
    | nil => exact .nil
    | cons a l ih => exact .cons (show Rep K w H (D.int (0 + (a : Int) * 1)) (V.int (0 + (a : Nat))) by rw [Int.mul_one]; exact of_int _) ih
  exact this _
def mLstRg (m : DSt → Store → Res D) (σ : DSt) (S : Store) : Res D := (m σ S).bind fun d S1 => match d with
  | .int n => if 0 ≤ n ∧ n ≤ 16777216 then .ok (.loc S1.length) (S1 ++ [.lst (rangeD 0 1 n.toNat)]) else .stuck
  | _ => .stuck
theorem pm_listRg {a : Expr} {m : DSt → Store → Res D} {p p' pos pos' : Pos} (hc : X.calm = true) (hg : Gl X "list") (hm : X.mg "list" = none) (hg' : Gl X "range") (hm' : X.mg "range" = none) (ha : PM X W a m)
    (hs : starEach [a] X.env = (false, eval a X.env) :: starEach [] X.env := by rfl) (hs2 : starEach [.Call (.Name "range" p') [a] [] pos'] X.env = (false, eval (.Call (.Name "range" p') [a] [] pos') X.env) :: starEach [] X.env := by rfl) :
    PM X W (.Call (.Name "list" p) [.Call (.Name "range" p') [a] [] pos'] [] pos) (mLstRg m) :=
  PE.imp (pe_listRg hc hg hm (prg_1 hg' hm' ha hs) hs2) fun σ H Q ⟨w, dσ, S, A, R, P⟩ => ⟨w, dσ, S, A, R, P.bind fun d S1 w1 H1 v e1 A1 r1 P1 => by
    split at P1
    · rename_i n
      split at P1
      · rename_i hz
        exact ⟨n, rep_int r1, RgOk.of_le (by omega) hz.2 (by omega) hz.1, fun q hq => P1 _ _ _ (Ex.newM hq) (newLst A1 hq (rangeD_reps n)) (Rep.locNew A1)⟩
      · exact P1.elim
    · exact P1.elim⟩
end
end L3
namespace L3
open PySem PySem.Spec L2
/-! ### repr(data), where nothing is being shown around -/
def reprOk (p : PyData) : Bool := match p with
  | .bool _ => true
  | .int i => decide (i.natAbs.log2 < 1920)
  | .tuple _ => p.showable && !p.hasDict && decide (p.depth ≤ 60) && decide (p.shown.length ≤ sizeLine)
  | .list _ => p.showable && !p.hasDict && decide (p.depth ≤ 60) && decide (p.shown.length ≤ sizeLine)
  | _ => false
def reprD (ds : List D) (S : Store) : Res D := match ds with
  | [d] => match pyS S d with
    | some p => if reprOk p = true then .ok (.str p.shown) S else .stuck
    | none => .stuck
  | _ => .stuck
section
variable {X : Cx} {W : XW}
def rReprData (K : PySem.W.Frag) (xs : List V) (H : Hp) (Q : VK) : Prop := ∃ (a : Addr) (p : PyData), xs = [.ref a] ∧ Dp K H (.ref a) p ∧ p.showable = true ∧ p.hasDict = false ∧ p.depth ≤ 60 ∧ p.shown.length ≤ sizeLine ∧ Q (.str p.shown) H
theorem cr_reprData (hg : X.A.guards = some []) (hu : X.A.units + 64 < cLine) : CallR X (.builtin "repr") (rReprData X.K) := by
  intro pins s σ H xs us Q I r h
  obtain ⟨a, p, rfl, hd, h1, h2, h3, h4, q⟩ := h
  obtain ⟨u, rfl, ru⟩ := vals1 r
  obtain rfl : u = Value.ref a := ru
  obtain ⟨as, rd⟩ := Dp.reads I p _ _ hd rfl
  exact repr_of_reads' rd h1 (PyData.noDict_hsm h2) hg (by omega) (fun _ _ e => e) (fun h' u tk k => ⟨.str p.shown, H, I.kept (t' := tk) k, ⟨u, rfl⟩, q⟩) h4
theorem pyS_ref {K : PySem.W.Frag} {mg : Str → Option Value} {w : Wd} {H : Hp} {S : Store} {d : D} {v : V} {p : PyData} (h : pyS S d = some p) (r : Rep K w H d v) (hp : (∃ xs, p = .tuple xs) ∨ ∃ xs, p = .list xs) : ∃ a, v = .ref a := by
  cases d with
  | non => simp only [pyS, toPy] at h; cases h; rcases hp with ⟨_, z⟩ | ⟨_, z⟩ <;> cases z
  | bl b => simp only [pyS, toPy] at h; cases h; rcases hp with ⟨_, z⟩ | ⟨_, z⟩ <;> cases z
  | int b => simp only [pyS, toPy] at h; cases h; rcases hp with ⟨_, z⟩ | ⟨_, z⟩ <;> cases z
  | str b => simp only [pyS, toPy] at h; cases h; rcases hp with ⟨_, z⟩ | ⟨_, z⟩ <;> cases z
  | tup ds => simp only [Rep] at r; obtain ⟨a, _, rfl, _⟩ := r; exact ⟨a, rfl⟩
  | ktp ds => simp only [Rep] at r; obtain ⟨a, _, rfl, _⟩ := r; exact ⟨a, rfl⟩
  | lst ds => simp only [Rep] at r; obtain ⟨a, _, rfl, _⟩ := r; exact ⟨a, rfl⟩
  | frz ds => simp only [Rep] at r; obtain ⟨a, _, rfl, _⟩ := r; exact ⟨a, rfl⟩
  | loc l => simp only [Rep] at r; obtain ⟨a, _, rfl⟩ := r; exact ⟨a, rfl⟩
  | exn a => simp only [Rep] at r; exact ⟨a, r⟩
  | exf a _ _ _ => simp only [Rep] at r; exact ⟨a, r.1⟩
theorem call_repr_bool : CallR X (.builtin "repr") (fun xs H Q => ∃ b : Bool, xs = [.bl b] ∧ Q (.str (PyData.shown (.bool b))) H) := by
  intro pins s σ H xs us Q I r h
  obtain ⟨b, rfl, q⟩ := h
  obtain ⟨u, rfl, ru⟩ := vals1 r
  obtain rfl : u = Value.bool b := ru
  exact PySem.P.repr_of_bool ⟨.str (PyData.shown (.bool b)), H, I.tok _, ⟨_, by cases b <;> rfl⟩, q⟩
theorem cd_repr (hg : X.A.guards = some []) (hu : X.A.units + 64 < cLine) : CallD X W (.builtin "repr") reprD := by
  refine ⟨_, ((cr_reprData hg hu).or SkE.call_repr_int).or call_repr_bool, fun w H S ds vs σ Q A r P => ?_⟩
  unfold reprD at P
  split at P
  · split at P
    · rename_i d _ p hp
      split at P
      · rename_i hok
        obtain ⟨v, rfl, r1⟩ := reps1 r
        have hd := pyS_rep A hp r1
        cases p with
        | int i =>
          simp only [reprOk, decide_eq_true_eq] at hok
          have hv : v = .int i := by cases hd; rfl
          exact .inl (.inr ⟨i, by rw [hv], hok, P.fin A (of_str _)⟩)
        | tuple xs =>
          obtain ⟨a, rfl⟩ := pyS_ref (mg := X.mg) hp r1 (.inl ⟨_, rfl⟩)
          simp only [reprOk, Bool.and_eq_true, Bool.not_eq_true', decide_eq_true_eq] at hok
          exact .inl (.inl ⟨a, _, rfl, hd, hok.1.1.1, hok.1.1.2, hok.1.2, hok.2, P.fin A (of_str _)⟩)
        | list xs =>
          obtain ⟨a, rfl⟩ := pyS_ref (mg := X.mg) hp r1 (.inr ⟨_, rfl⟩)
          simp only [reprOk, Bool.and_eq_true, Bool.not_eq_true', decide_eq_true_eq] at hok
          exact .inl (.inl ⟨a, _, rfl, hd, hok.1.1.1, hok.1.1.2, hok.1.2, hok.2, P.fin A (of_str _)⟩)
        | bool b =>
          have hv : v = .bl b := by cases hd; rfl
          exact .inr ⟨b, by rw [hv], P.fin A (of_str _)⟩
        | _ => simp [reprOk] at hok
      · exact P.elim
    · exact P.elim
  · exact P.elim
end
/-! ### a def that is called where nothing is being shown -/
structure FnG (P : Program) (w : World) (K : PySem.W.Frag) (mg : Str → Option Value) (base : Heap) (k : Nat) (f : Addr) (fd : FuncData) (ps : List Str) (sp : Sp) : Prop where
  len : ∀ us H Q E, sp us H Q E → us.length = ps.length
  run : ∀ (A : Around) (fr : List Env) (s : Shared) (H : Hp) (args : Args) (us : List Value) (vs : List V) (Q : VK) (E : XK), A.guards = some [] → Room k A → Env0 P w K mg base A fr s H → BindsTo s fd args (ps.zip us) → Vals vs us → sp vs H Q E →
    codeAny (model P w) A (.call (.ref f) args) (CR CX0 fr P w H s Q E) s
section
variable {P : Program} {w : World} {K : PySem.W.Frag} {mg : Str → Option Value} {base : Heap}
theorem fn_denG {x qual : Str} {st : Stmt} {f : Addr} {fd : FuncData} {N ps : List Str} {k : Nat} {m : DSt → Store → Res Fl} (F : Fun K x qual st f fd) (S : FnScope N ps (defScope st))
    (hbody : ∀ (cdv : Value) (A : Around) (fr : List Env) (s : Shared) (H : Hp) (E : XK), Room k (A.deeper (PyProof.Rows.envOfC qual (defScope st) s.heap.objs.size f cdv)) → A.guards = some [] →
      PMSs (cxOf CX0 P w K mg base N qual (defScope st) f cdv A fr s H E).nox W0 (defBody st) m) : FnG P w K mg base (k + 1) f fd ps (spD K mg ps.length (denOf N.length m)) := by
  obtain ⟨oc, od, kV, doc, pm, an, cdv, ct, osl, rfl, lk, hcd⟩ := F.ex
  have hlen : ∀ us H Q E, spD K mg ps.length (denOf N.length m) us H Q E → us.length = ps.length := fun us H Q E hh => by
    obtain ⟨_, _, _, _, r, e, _⟩ := hh
    rw [← r.length, e]
  refine ⟨hlen, fun A fr s H args us vs Q E hgd hroom env0 hbnd hvals hwant => ?_⟩
  have len1 := hlen _ _ _ _ hwant
  have inK := env0.mod.kin.keeps (fun b o e => (env0.bs b o e).1 : ∀ b o, base.get? b = some o → s.heap.get? b = some o)
  have inL := env0.mod.nolimit.keeps (fun b o e => (env0.bs b o e).1 : ∀ b o, base.get? b = some o → s.heap.get? b = some o)
  obtain ⟨w0, ds, S0, A0, rp, dl, PP⟩ := hwant
  have hstart := start_rep rp N
  refine PySem.codeAny_call_function hroom.depth (inK _ _ lk) rfl S.co S.gen rfl (PySem.W.codeRec_of inK hcd) (hbnd _ _ _ _ ?_)
  refine PySem.wpAny_newFunctionEnv_cells S.kind (fun y hy => ?_) (fun en hen sn xn => ?_)
  · have hmem := (List.of_mem_zip (show (y.1, y.2) ∈ ps.zip us from hy)).1
    exact (S.par y.1 hmem).elim Or.inl fun q => Or.inr ⟨q, PySem.W.cellsFrom_some _ _ _ (.inl q)⟩
  subst hen
  refine ⟨inL.keeps xn.toInCall.keep, PySem.codeAny_func ?_⟩
  have inv0 := inv_start (CX := CX0) (E := E) (cd := cdv) (f := f) (qual := qual) S hroom.hd env0 len1 hvals xn
  have bod := (hbody cdv A fr s H E (hroom.deeper _) hgd).nox
  have ended : ∀ (σ' : L2.St) (H' : Hp) (v : V) (u : Value) (s' : Shared), Inv (cxOf CX0 P w K mg base N qual (defScope st) f cdv A fr s H E) [] σ' H' s' → RelV v u → Q v H' → CE fr P w H s Q u s' := fun σ' H' v u s' J rv q =>
    ⟨v, H', J.os, J.bare, J.base, J.hok, rv, q⟩
  refine wpAny_mono (bod.run [] sn _ H { nx := fun _ H' => Q .non H', rt := Q } inv0 ⟨w0, _, S0, A0, hstart, ?_⟩) (fun fl s' hs => ?_) fun e s' hs => hs
  · unfold denOf at PP
    revert PP
    cases m (ds.map some ++ List.replicate (N.length - ds.length) none) S0 with
    | ok fl S1 => cases fl with
      | nx σ1 => exact fun PP w' H' σ2 e A' R => PP w' H' _ e A' of_non
      | rt d => exact fun PP => PP
      | _ => exact fun PP => PP.elim
    | _ => exact fun PP => PP.elim
  · cases fl with
    | ret u => obtain ⟨v, σ', H', J, rv, q⟩ := hs; exact ended _ _ _ _ _ J rv q
    | next => obtain ⟨σ', H', J, q⟩ := hs; exact ended _ _ .non .none _ J rfl q
    | brk => obtain ⟨_, _, _, q⟩ := hs; exact False.elim q
    | cont => obtain ⟨_, _, _, q⟩ := hs; exact False.elim q
end
end L3
namespace L3
open PySem PySem.Spec L2 PyProof.Rows
/-! ### the outermost call, where nothing is being shown -/
/-- texts alike or not -/
def eqSD (neg : Bool) (d e : D) (S : Store) : Res D := match d, e with
  | .str x, .str y => .ok (.bl (xor neg (decide (x = y)))) S
  | _, _ => .stuck
theorem dec_vstr {x y : Str} : decide (V.str x = V.str y) = decide (x = y) := by
  rw [Bool.eq_iff_iff, decide_eq_true_eq, decide_eq_true_eq]
  exact ⟨fun h => V.str.inj h, fun h => h ▸ rfl⟩
section
variable {X : Cx} {W : XW}
theorem od_eqS : OpD X W (compareOp .Eq) (eqSD false) := by
  refine ⟨_, op_eq, fun w H S d e x y σ Q A rd re P => ?_⟩
  unfold eqSD at P
  split at P
  · rename_i a b
    obtain rfl := rep_str rd
    obtain rfl := rep_str re
    refine ⟨rfl, ?_⟩
    rw [dec_vstr]
    rw [Bool.false_xor] at P
    exact P.fin A (of_bl _)
  · exact P.elim
theorem od_neS : OpD X W (compareOp .NotEq) (eqSD true) := by
  refine ⟨_, op_ne, fun w H S d e x y σ Q A rd re P => ?_⟩
  unfold eqSD at P
  split at P
  · rename_i a b
    obtain rfl := rep_str rd
    obtain rfl := rep_str re
    refine ⟨rfl, ?_⟩
    rw [dec_vstr]
    rw [Bool.true_xor] at P
    exact P.fin A (of_bl _)
  · exact P.elim
end
theorem relI (i : Int) (t : Tok) : RelV (.int i) (.int i t) := ⟨t, rfl⟩
theorem relS (i : Str) (t : Tok) : RelV (.str i) (.str i t) := ⟨t, rfl⟩
theorem relR (a : Addr) : RelV (.ref a) (.ref a) := rfl
theorem FnG.out {P : Program} {w : World} {K : PySem.W.Frag} {mg : Str → Option Value} {base : Heap} {k : Nat} {f : Addr} {fd : FuncData} {ps : List Str} {den : List D → Store → Res D} (F : FnG P w K mg base k f fd ps (spD K mg 1 den)) :
    FnG P w K mg base k f fd ps (spOut K den) :=
  ⟨fun us H Q E h => F.len us H Q E (h mg), fun A fr s H args us vs Q E g r e b v h => F.run A fr s H args us vs Q E g r e b v (h mg)⟩
theorem bb_repr : bootBuiltins "repr" = some (.builtin "repr") := by decide +kernel
section
variable {P : Program} {w : World} {K : PySem.W.Frag} {mg mb : Str → Option Value} {k : Nat} {fa a : Addr} {fd : FuncData} {x : Str} {sp : Sp} {s : Shared} {vs : List Value} {ns : List Int}
open Classical in
/-- the script alone is seen, if the module does not hold it -/
noncomputable def scriptH (K : PySem.W.Frag) (a : Addr) (vs : List Value) (ns : List Int) : Hp := fun b =>
  if b = a ∧ K.lookup a = none then some (.frz { cls := .type "list", data := .seq vs.toArray } (.lst (ns.map V.int))) else none
theorem scriptH_at {b : Addr} {u : HO} (h : scriptH K a vs ns b = some u) : (b = a ∧ K.lookup a = none) ∧ u = .frz { cls := .type "list", data := .seq vs.toArray } (.lst (ns.map V.int)) := by
  unfold scriptH at h
  split at h
  · rename_i q
    cases h
    exact ⟨q, rfl⟩
  · cases h
theorem outer_call (KX : K.In s.heap) (N : s.heap.Ns mainGlobals mg) (B : s.heap.Ns builtinsNs mb) (B0 : ∀ x : Str, x ≠ "__name__" → mb x = bootBuiltins x) (L : s.heap.NoLimit) (G : s.gens = #[])
    (ha : s.heap.get? a = some { cls := .type "list", data := .seq vs.toArray }) (hi : IntsAre vs ns) (hl : ns.length ≤ sizeLine) (hr : Room k callerA)
    (F : ∀ base : Heap, K.In base → base.Ns mainGlobals mg → FnG P w K mg base k fa fd [x] sp) (bind : ∀ (s : Shared) (u : Value), BindsTo s fd ⟨[u], []⟩ [(x, u)])
    (want : ∀ H : Hp, SqL K H a (ns.map V.int) → sp [.ref a] H (fun v _ => v = .bl true) fun _ _ _ => False) :
    codeAny (model P w) callerA (.call (.ref fa) ⟨[.ref a], []⟩) (fun r t => r = .ok (.ret (.bool true)) ∧ OldK s.heap t.heap ∧ t.os = s.os ∧ AllBare t.gens) s := by
  have rv := vals_ints hi
  have hS : SqL K (scriptH K a vs ns) a (ns.map V.int) := by
    cases q : K.lookup a with
    | none => exact .inl (.inr ⟨_, if_pos ⟨rfl, q⟩⟩)
    | some o =>
      have e := (KX a o q).symm.trans ha
      cases e
      exact .inr ⟨_, vs.toArray, _, q, rfl, rfl, rfl, by rw [List.size_toArray, hi.length]; exact hl, by simpa using rv⟩
  have ok : HOk P w (scriptH K a vs ns) s.heap := fun b u e => by
    obtain ⟨⟨rfl, _⟩, rfl⟩ := scriptH_at e
    exact ⟨ha, by rw [List.length_map]; exact hl, vs, _, rv, ha⟩
  have out : ∀ {b : Addr} {o : Obj}, s.heap.get? b = some o → (b = a → False) → (hidT s.heap (scriptH K a vs ns)).get? b = some o := fun {b o} e h => hidT_get e (by
    cases q : scriptH K a vs ns b with
    | none => rfl
    | some u => exact (h (scriptH_at q).1.1).elim)
  have space : ∀ {b : Addr} {m : Str → Option Value}, s.heap.Ns b m → (hidT s.heap (scriptH K a vs ns)).Ns b m := fun {b m} ⟨o, es, ep, e, d, r⟩ => ⟨o, es, ep, out e (fun z => by
    rw [z, ha] at e
    cases e
    cases (show Data.seq vs.toArray _ = Data.dict es ep from d)), d, r⟩
  have frag : K.In (hidT s.heap (scriptH K a vs ns)) := fun b o e => hidT_get (KX b o e) (by
    cases q : scriptH K a vs ns b with
    | none => rfl
    | some u =>
      obtain ⟨⟨rfl, z⟩, _⟩ := scriptH_at q
      rw [e] at z; cases z)
  have md : Mod K mg (hidT s.heap (scriptH K a vs ns)) := ⟨frag, space N, ⟨mb, space B, B0⟩, L.elim fun mc z => ⟨mc, space z.1, z.2⟩⟩
  have env : Env0 P w K mg (hidT s.heap (scriptH K a vs ns)) callerA [] s (scriptH K a vs ns) :=
    ⟨rfl, md, fun _ _ e => of_hidT e, by rw [hidT_size]; exact Nat.le_refl _, trivial, fun _ z => (List.not_mem_nil z).elim, ok, .of_eq G⟩
  refine codeAny_mono ((F _ frag (space N)).run callerA [] s _ ⟨[.ref a], []⟩ [.ref a] [.ref a] _ _ rfl hr env (bind s (.ref a)) (.cons rfl .nil) (want _ hS)) fun r t h => ?_
  cases r with
  | error e => exact False.elim h
  | ok fl => cases fl with
    | ret u =>
      obtain ⟨v, H', os, bare, un, ok', r', q⟩ := h
      cases (show v = .bl true from q)
      cases (show u = Value.bool true from r')
      refine ⟨rfl, .of_keep fun b o e => ?_, os, bare⟩
      cases q2 : scriptH K a vs ns b with
      | none => exact un.keep b o e q2 (fun z => (List.not_mem_nil z).elim) List.not_mem_nil
      | some u =>
        have z := (scriptH_at q2).2
        subst z
        have e1 := (ok b _ q2).1
        rw [e] at e1
        cases e1
        exact (ok' b _ (un.frzs b _ _ q2)).1
    | _ => exact False.elim h
end
theorem outer_walk {l : PySem.W.OpenLaw} {n k : Nat} {q : Program} {loose : List Str} {XP : (Str → Option Value) → Heap → Prop} {YP : World → Heap → Prop} {d : DefRec} {K : Params → PySem.W.Frag} {sp : World → Sp} {x : Str}
    (hn : l.most = some n) (hn2 : n ≤ sizeLine) (hdf : d.params.defaults = []) (hr : Room k callerA) (hY : ∀ (w : World) (h : Heap), YP w h → (K w.params).In h)
    (F : ∀ (w : World) (mg : Str → Option Value) (fa : Addr) (h : Heap), (K w.params).In h → h.Ns mainGlobals mg → mg d.name = some (.ref fa) →
      ∃ fd : FuncData, (∀ (s : Shared) (u : Value), BindsTo s fd ⟨[u], []⟩ [(x, u)]) ∧ ∀ base : Heap, (K w.params).In base → base.Ns mainGlobals mg → FnG l.prog w (K w.params) mg base k fa fd [x] (sp w))
    (want : ∀ (w : World) (H : Hp) (a : Addr) (ns : List Int), ns.length ≤ n → SqL (K w.params) H a (ns.map V.int) → sp w [.ref a] H (fun v _ => v = .bl true) fun _ _ _ => False) :
    PySem.W.WalkO q loose XP YP l.row.toRowW d [] (fun f vs => PySem.call f vs) :=
  Att.attach_call hn hdf fun w s₀ s₁ mg mb fa o pm cd doc a vs ns G Y ho hd hcd hmg hobj hints hlen hg => by
    obtain ⟨fd, hb, hF⟩ := F w mg fa _ (hY w _ Y) G.T.g hmg
    exact outer_call (hY w _ Y) G.T.g G.T.b G.T.builtins G.T.nolimit hg hobj hints (Nat.le_trans hlen hn2) hr hF hb fun H hS => want w H a ns hlen hS
end L3
namespace L3
open PySem PySem.Spec L2 HT PyProof.Rows PySem.SeqAt PySem.MeetsSeq PySem.MeetsSeq2 PySem.MeetsSeq3
/-! ### t[::-1] of a tuple -/
section
variable {prog : Program} {w : World} {A : Around} {E : Value → Shared → Prop} {s : Shared}
theorem adjust_rev (n : Nat) : Builtin.Slice.sliceAdjust none none (-1) (n : Int) = ((n : Int) - 1, -1) := by
  unfold Builtin.Slice.sliceAdjust
  simp
theorem places_rev (n : Nat) : Builtin.Slice.slicePlaces ((n : Int) - 1) (-1) (-1) = n := by
  unfold Builtin.Slice.slicePlaces
  have h1 : ¬ ((-1 : Int) > 0) := by omega
  simp only [h1, if_false]
  split
  · simp
  · omega
theorem sliceApplied_rev {sl : Addr} {vl vu vs : Value} {n : Nat} {Q : Int × Int × Nat → Shared → Prop} (hs : s.heap.IsSliceOf sl vl vu vs) (pl : IsPart vl none) (pu : IsPart vu none) (ps : IsPart vs (some (-1)))
    (h : Q ((n : Int) - 1, -1, n) s) : wpAny (model prog w) A (Builtin.Slice.sliceApplied (.ref sl) (pure (n : Int))) Q E s := by
  obtain ⟨os, hos, hcs, hds⟩ := id hs
  unfold Builtin.Slice.sliceApplied Builtin.Slice.sliceFields
  refine wpAny_bind (wpAny_bind (wpAny_field hos hds (x := vl) rfl (wpAny_bind (wpAny_field hos hds (x := vu) rfl (wpAny_bind (wpAny_field hos hds (x := vs) rfl (wpAny_pure ?_)))))))
  refine wpAny_bind (slicePart_ ps ?_)
  show wpAny _ _ (if ((-1 : Int) == 0) = true then _ else _) _ _ s
  rw [if_neg (by decide)]
  refine wpAny_bind (slicePart_ pl (wpAny_bind (slicePart_ pu (wpAny_bind (wpAny_pure ?_)))))
  show wpAny _ _ (match Builtin.Slice.sliceAdjust none none (-1) (n : Int) with | (lo, hi) => pure (lo, (-1 : Int), Builtin.Slice.slicePlaces lo hi (-1))) _ _ s
  rw [adjust_rev n]
  show wpAny _ _ (pure ((n : Int) - 1, (-1 : Int), Builtin.Slice.slicePlaces ((n : Int) - 1) (-1) (-1))) _ _ s
  rw [places_rev]
  exact wpAny_pure h
theorem fm_congr {α β : Type} {f g : α → Option β} : ∀ {l : List α}, (∀ m ∈ l, f m = g m) → l.filterMap f = l.filterMap g
  | [], _ => rfl
  | a :: l, h => by
    rw [List.filterMap_cons, List.filterMap_cons, h a List.mem_cons_self, fm_congr fun m hm => h m (List.mem_cons_of_mem _ hm)]
theorem pick_revT (xs : Array Value) : ((List.range xs.size).filterMap fun (m : Nat) => xs[((xs.size : Int) - 1 + (m : Int) * (-1)).toNat]?).toArray = xs.toList.reverse.toArray := by
  have h := PySem.W.krv_all xs
  have e : ((List.range xs.size).filterMap fun (m : Nat) => xs[((xs.size : Int) - 1 + (m : Int) * (-1)).toNat]?) = ((List.range xs.size).map fun k => xs.size - 1 - k).filterMap (xs[·]?) := by
    rw [List.filterMap_map]
    refine fm_congr fun m hm => ?_
    have := List.mem_range.mp hm
    have e2 : ((xs.size : Int) - 1 + (m : Int) * (-1)).toNat = xs.size - 1 - m := by omega
    simp only [Function.comp, e2]
  rw [e, PySem.W.krv_range, List.filterMap_reverse, h]
theorem getItem_tuple_rev {t sl : Addr} {items : Array Value} {vl vu vs : Value} {Q : Value → Shared → Prop} (ht : IsTup s.heap t items) (hs : s.heap.IsSliceOf sl vl vu vs) (pl : IsPart vl none) (pu : IsPart vu none) (ps : IsPart vs (some (-1)))
    (h : Q (.ref s.heap.objs.size) { s with heap := s.heap.push { cls := .type "tuple", data := .seq items.toList.reverse.toArray } }) (hsz : items.size ≤ sizeLine) : wpAny (model prog w) A (getItem (.ref t) (.ref sl)) Q E s := by
  have room : sizeOk (.seq items.toList.reverse.toArray) := by
    show items.toList.reverse.toArray.size ≤ sizeLine
    rw [List.size_toArray, List.length_reverse, Array.length_toList]
    exact hsz
  obtain ⟨os, hos, hcs, hds⟩ := id hs
  have hTs : s.TypeIs (.ref sl) "slice" := ⟨os, hos, hcs⟩
  unfold getItem
  try with_reducible refine wpAny_holding ?_
  first | refine wpAny_bind (wpAny_pure ?_) | skip
  refine wpAny_bind (wpAny_sequenceKey ht.typeIs (by decide) ?_)
  refine wpAny_bind (wpAny_callSpecial?_slot (name := Str.ofString "__getitem__") ht.typeIs PyProof.Rows.slot_tuple_getitem (wpAny_call_entry PyProof.Rows.slot_tuple_getitem ht.typeIs entry_tuple_getitem ?_ (args_tuple_getitem _ _)))
  show wpAny _ _ (Builtin.Tuple.tupleItemsOf (.ref t) >>= _) _ _ s
  refine wpAny_bind (tupleItemsOf_ ht ?_)
  refine wpAny_bind (wpAny_typeOf hTs ?_)
  rw [if_pos (by decide)]
  refine wpAny_bind (sliceApplied_rev hs pl pu ps ?_)
  have no : ¬ ((((items.size : Int) - 1) == 0 && (-1 : Int) == 1 && items.size == items.size) = true) := by simp
  show wpAny _ _ (if (((items.size : Int) - 1) == 0 && (-1 : Int) == 1 && items.size == items.size) = true then _ else _) _ _ s
  rw [if_neg no, pick_revT]
  first
    | exact wpAny_bind (m := Builtin.Tuple.tupleExact _) (wpAny_newObj_type (wpAny_pure ⟨_, rfl, wpAny_pure h⟩) room)
    | exact wpAny_bind (m := Builtin.Tuple.tupleExact _) (wpAny_newObj_type (wpAny_bind (wpAny_pure (wpAny_pure ⟨_, rfl, wpAny_pure h⟩))) room)
end
theorem pe_revT {X : Cx} {e : Expr} {te : TE} {k : Nat} {p1 p2 p3 pos : Pos} (he : PE X e te) : PE X (.Subscript e (.Slice none none (some (.UnaryOp .USub (.Constant (.int 1) k p1) p2)) p3) pos)
    (fun σ H Q => te σ H fun x H1 => ∃ a xs, x = .ref a ∧ SqT X.K H1 a xs ∧ ∀ p, H1 p = none → Q (.ref p) (upd H1 p (.tup xs.reverse))) := by
  refine ⟨fun pins s σ H Q I h => ?_⟩
  refine PyProof.Rows.Subscript_ (thn (he.run pins s σ H _ I h) fun v s1 ⟨x, H1, I1, r1, a, xs, ex, hx, q⟩ => ?_)
  have hst : PO X (some (.UnaryOp .USub (.Constant (.int 1) k p1) p2)) (tPart (tUn (rU fun i => .int (-i)) (tC (.int 1)))) := po_some (pe_un un_neg pe_int)
  refine wpAny_Slice (thn (po_none.run pins s1 σ H1 (fun o H2 => o = none ∧ H2 = H1) I1 ⟨rfl, rfl⟩) fun vl s2 ⟨l, H2, I2, pl, el, e2⟩ => ?_)
  subst el e2
  refine thn (po_none.run pins s2 σ H2 (fun o H3 => o = none ∧ H3 = H2) I2 ⟨rfl, rfl⟩) fun vu s3 ⟨u, H3, I3, pu, eu, e3⟩ => ?_
  subst eu e3
  refine thn (hst.run pins s3 σ H3 (fun o H4 => o = some (-1) ∧ H4 = H3) I3 ⟨1, rfl, -1, rfl, rfl, rfl⟩) fun vs s4 ⟨o, H4, I4, ps, eo, e4⟩ => ?_
  subst eo e4 ex
  cases r1
  have I5 : Inv X pins σ H4 { s4 with heap := s4.heap.push { cls := .type "slice", data := .fields #[vl, vu, vs] } } := I4.kept (t' := s4.toks) fun b ob q => Heap.get?_push_of_some _ q
  obtain ⟨its, r, ht, hz⟩ := I5.tuple hx
  show wpAny (model X.prog X.w) X.A (PyProof.Rows.subscriptTail e (.Slice none none (some (.UnaryOp .USub (.Constant (.int 1) k p1) p2)) p3) (.ref a) (.ref s4.heap.objs.size)) (EP X pins σ Q) X.xe { s4 with heap := s4.heap.push { cls := .type "slice", data := .fields #[vl, vu, vs] } }
  refine PyProof.Rows.tail_any (ops := [.ref a, .ref s4.heap.objs.size]) ht.typeIs (PyProof.Rows.slot_tuple_getitem.lookup) ?_ (by with_unfolding_all rfl)
  refine getItem_tuple_rev ht (Heap.IsSliceOf.new _ vl vu vs) pl pu ps ?_ (by rw [List.size_toArray, ← r.length]; exact hz)
  refine ⟨.ref _, _, I5.laid (t' := s4.toks) (o := .tup xs.reverse) (fun b ob q => Heap.get?_push_of_some _ q) (Nat.le_refl _) ?_, rfl, q _ (I5.hok.fresh (Nat.le_refl _))⟩
  exact ⟨by rw [List.length_reverse]; exact hz, _, r.reverse, IsTup.new _ _⟩
def revTD (d : D) (S : Store) : Res D := match d with
  | .tup ds => .ok (.tup ds.reverse) S
  | _ => .stuck
theorem pm_revT {X : Cx} {W : XW} {e : Expr} {m : DSt → Store → Res D} {k : Nat} {p1 p2 p3 pos : Pos} (he : PM X W e m) : PM X W (.Subscript e (.Slice none none (some (.UnaryOp .USub (.Constant (.int 1) k p1) p2)) p3) pos) (m1 m revTD) :=
  PE.imp (pe_revT he) fun σ H Q ⟨w, dσ, S, A, R, P⟩ => ⟨w, dσ, S, A, R, P.bind fun d S1 w1 H1 v e1 A1 r1 P1 => by
    unfold revTD at P1
    split at P1
    · rename_i ds
      obtain ⟨a, vs, rfl, f, r⟩ := tup_rep r1
      exact ⟨a, vs, rfl, .of f, fun p hp => P1 w1 _ _ (Ex.new hp) (A1.newF hp) (Rep.tupNew A1 hp r.reverse)⟩
    · exact P1.elim⟩
end L3
namespace L3
open PySem PySem.Spec L2 PyProof.Rows
/-! ### tuples that are known exactly: tuple(xs), dict(t) -/
section
variable {X : Cx} {W : XW}
theorem call_tupleX : CallR X (.type "tuple") (fun xs H Q => ∃ (p : Addr) (ys : List V), xs = [.ref p] ∧ SqL X.K H p ys ∧ ∀ (l : Addr) (o : Obj) (its : Array Value) (n : Nat), H l = none → o.cls = .type "tuple" → o.dict = none → o.data = .seq its n → Q (.ref l) (upd H l (.frz o (.tup ys)))) := by
  intro pins s σ H xs us Q I r h
  obtain ⟨p, ys, rfl, hs, q⟩ := h
  obtain ⟨u, rfl, ru⟩ := vals1 r
  obtain rfl : u = .ref p := ru
  obtain ⟨its, rv, pl, hz⟩ := I.list hs
  refine call_tuple_list pl.isList (fun h' hk => ?_) (by rw [List.size_toArray, ← rv.length]; exact hz)
  have I1 : Inv X pins σ H { s with heap := h' } := I.kept (t' := s.toks) hk
  have I2 : Inv X pins σ (upd H h'.objs.size (.frz { cls := .type "tuple", data := .seq its.toArray } (.tup ys))) { s with heap := h'.push { cls := .type "tuple", data := .seq its.toArray } } :=
    I1.laid (t' := s.toks) (fun b o e => Heap.get?_push_of_some _ e) (Nat.le_refl _) (show ObjOk X.prog X.w _ _ _ (.frz _ (.tup ys)) from ⟨Heap.get?_push_size _ rfl, hz, its, rv, IsTup.new _ _⟩)
  exact ⟨.ref h'.objs.size, _, I2, rfl, q _ _ _ _ (I1.hok.fresh (Nat.le_refl _)) rfl rfl rfl⟩
def tupleXD (ds : List D) (S : Store) : Res D := match ds with
  | [d] => match rdL S d with
    | some es => .ok (.ktp es) S
    | none => .stuck
  | _ => .stuck
theorem cd_tupleX : CallD X W (.type "tuple") tupleXD := by
  refine ⟨_, call_tupleX, fun w H S ds vs σ Q A r P => ?_⟩
  unfold tupleXD at P
  split at P
  · rename_i d
    obtain ⟨v, rfl, r1⟩ := reps1 r
    split at P
    · rename_i es h1
      obtain ⟨a, us, rfl, f, r'⟩ := rdL_rep A h1 r1
      refine ⟨a, us, rfl, f, fun l o its n hl h2 h3 h4 => P w _ _ (Ex.new hl) (A.newF hl) ?_⟩
      obtain ⟨_, _, _, t1, _⟩ := Rep.tupNew A hl r'
      cases ‹V.ref l = V.ref _›
      exact ⟨l, us, rfl, .inr ⟨t1.1, t1.2.1, o, its, n, if_pos rfl, h2, h3, h4⟩, r'.mono (Ex.new hl)⟩
    · exact P.elim
  · exact P.elim
/-- the object stands exactly so -/
def ExT (K : PySem.W.Frag) (H : Hp) (a : Addr) (xs : List V) : Prop := KcT K a xs ∨ ∃ (o : Obj) (its : Array Value) (n : Nat), H a = some (.frz o (.tup xs)) ∧ o.cls = .type "tuple" ∧ o.dict = none ∧ o.data = .seq its n
theorem ExT.at {pins : List (Addr × Obj)} {σ : L2.St} {H : Hp} {s : Shared} (I : Inv X pins σ H s) {a : Addr} {xs : List V} (h : ExT X.K H a xs) :
    ∃ (o : Obj) (its : List Value) (n : Nat), s.heap.get? a = some o ∧ o.cls = .type "tuple" ∧ o.dict = none ∧ o.data = .seq its.toArray n ∧ Vals xs its ∧ xs.length ≤ sizeLine := by
  rcases h with ⟨o, its, n, h1, h2, h3, h4, h5, h6⟩ | ⟨o, its, n, h1, h2, h3, h4⟩
  · exact ⟨o, its.toList, n, I.kIn a o h1, h2, h3, by rw [Array.toArray_toList]; exact h4, h6, by rw [h6.length, Array.length_toList]; exact h5⟩
  · obtain ⟨g, hz, its2, rv, ⟨o2, g2, g3, n2, g4⟩⟩ := (show ObjOk X.prog X.w H s.heap a (.frz o (.tup xs)) from I.hok a _ h1)
    rw [g] at g2
    cases g2
    exact ⟨o, its2, n2, g, h2, h3, g4, rv, hz⟩
open Classical in
theorem list_of {n : Nat} {P : Nat → Value → Prop} (h : ∀ j < n, ∃ u, P j u) : ∃ us : List Value, us.length = n ∧ ∀ j < n, ∃ u, us[j]? = some u ∧ P j u := by
  refine ⟨(List.range n).map fun j => if h : ∃ u, P j u then Classical.choose h else .none, by simp, fun j hj => ?_⟩
  refine ⟨_, by rw [List.getElem?_map, List.getElem?_range hj]; rfl, ?_⟩
  show P j (if h : ∃ u, P j u then Classical.choose h else Value.none)
  rw [dif_pos (h j hj)]
  exact Classical.choose_spec (h j hj)
theorem call_dictPX (hcalm : X.calm = true) : CallR X (.type "dict") (fun xs H Q => ∃ (a : Addr) (ps : List Addr) (kvs : List (Key × V)), xs = [.ref a] ∧ ExT X.K H a (ps.map V.ref) ∧ Paired (fun p kv => SqT X.K H p [kV kv.1, kv.2]) ps kvs ∧
    ∀ p, H p = none → Q (.ref p) (upd H p (.dK (L2.mergeK [] kvs)))) := by
  intro pins s σ H xs us Q I r q
  obtain ⟨a, ps, kvs, ex, hq, hp, q⟩ := q
  subst ex
  obtain ⟨u, eu, rx⟩ := vals1 r
  subst eu
  cases rx
  obtain ⟨o, its, n, ho, hc, hd, hdat, rv, hz⟩ := hq.at I
  have ei := refs_at rv
  subst ei
  rw [List.length_map] at hz
  obtain ⟨prs, rel, hl, hpr⟩ := pairs_of I hp
  obtain ⟨ks, hks, hk⟩ := list_of (n := prs.length) (P := fun j u => ∀ q : Key × Value, prs[j]? = some q → ∃ b : Addr, ps[j]? = some b ∧ IsTup s.heap b #[u, q.2] ∧ keyIs q.1 u = true) (fun j hj => by
    obtain ⟨b, u, e1, e2, e3⟩ := hpr j prs[j] (List.getElem?_eq_getElem hj)
    exact ⟨u, fun q' e => by
      rw [List.getElem?_eq_getElem hj] at e
      cases e
      exact ⟨b, e1, e2, e3⟩⟩)
  have hzl : (ks.zip (prs.map (·.2))).length = prs.length := by rw [List.length_zip, hks, List.length_map, Nat.min_self]
  have hget : ∀ (j : Nat) (k v : Value), (ks.zip (prs.map (·.2)))[j]? = some (k, v) → ∃ (q : Key × Value) (b : Addr), prs[j]? = some q ∧ q.2 = v ∧ ps[j]? = some b ∧ IsTup s.heap b #[k, v] ∧ keyIs q.1 k = true := fun j k v e => by
    obtain ⟨e1, e2⟩ := List.getElem?_zip_eq_some.mp e
    rw [List.getElem?_map, Option.map_eq_some_iff] at e2
    obtain ⟨q, e3, e4⟩ := e2
    have e4 : q.2 = v := e4
    obtain ⟨u, e5, e6⟩ := hk j (List.getElem?_eq_some_iff.mp e3).1
    obtain ⟨b, e7, e8, e9⟩ := e6 q e3
    have e5' : some k = some u := e1.symm.trans e5
    cases e5'
    exact ⟨q, b, e3, e4, e7, by rw [← e4]; exact e8, e9⟩
  refine PySem.call_dict_pairs (knd := mixKind X.prog X.w) (kvs := prs) (PairArg.tuple a ((ps.map Value.ref).toArray) (fun j => (ps[j]?).getD 0) (ks.zip (prs.map (·.2)))) (I.ok.hd hcalm)
    ⟨⟨o, n, ho, hc, hd, hdat⟩, by rw [hzl, hl]; simp, fun j k v e => ?_⟩ ⟨hzl.symm, fun i k v e => ?_⟩ (by rw [hzl, hl]; exact hz) fun h' tk hd' hkp => ?_
  · obtain ⟨q', b, _, _, e1, ⟨o2, g1, g2, n2, g3⟩, _⟩ := hget j k v e
    simp only [e1, Option.getD_some]
    exact ⟨by simp [e1], .inl ⟨o2, g1, g2, n2, g3⟩⟩
  · obtain ⟨q', b, e1, e2, _, _, e3⟩ := hget i k v e
    exact ⟨q'.1, by rw [e1, ← e2], e3⟩
  · have hm : (s.heap.objs.size == sysModules) = false := beq_eq_false_iff_ne.mpr (Nat.ne_of_gt I.big)
    have hlen : (L2.mergeK [] kvs).length ≤ sizeLine := by
      refine Nat.le_trans (length_mergeK kvs []) ?_
      rw [List.length_nil, Nat.zero_add, rel.length, hl]
      exact hz
    exact ⟨.ref s.heap.objs.size, upd H s.heap.objs.size (.dK (L2.mergeK [] kvs)), I.laid (t' := tk) (fun b o e => hkp b o List.not_mem_nil e) (Nat.le_refl _) (show ObjOk X.prog X.w _ _ _ (.dK (L2.mergeK [] kvs)) from ⟨hlen, hm, merged [] prs, KV.merge rel .nil, hd'⟩), rfl, q _ (I.hok.fresh (Nat.le_refl _))⟩
def dictXD (ds : List D) (S : Store) : Res D := match ds with
  | [.ktp es] => match pairsK es with
    | some ps => .ok (.loc S.length) (S ++ [.dK (mergeD [] ps)])
    | none => .stuck
  | _ => .stuck
theorem cd_dictX (hc : X.calm = true) : CallD X W (.type "dict") dictXD := by
  refine ⟨_, call_dictPX hc, fun w H S ds vs σ Q A r P => ?_⟩
  unfold dictXD at P
  split at P
  · split at P
    · rename_i es _ ps hp
      obtain ⟨v, rfl, r1⟩ := reps1 r
      simp only [Rep] at r1
      obtain ⟨a, us, rfl, f, r'⟩ := r1
      obtain ⟨as, kvs, rfl, e2, e3⟩ := pairsK_rep hp r'
      refine ⟨a, as, kvs, rfl, f.imp_right fun f => ?_, e2, fun p hn => P ⟨w.M ++ [p], w.B⟩ _ _ (Ex.newM hn) (A.newM hn ⟨_, rfl, (mergeK_rep (acc := []) (av := []) e3 rfl).mono (Ex.newM hn)⟩) (Rep.locNew A)⟩
      obtain ⟨_, _, o, its, n, h1, h2, h3, h4⟩ := f
      exact ⟨o, its, n, h1, h2, h3, h4⟩
    · exact P.elim
  · exact P.elim
end
end L3
namespace L3
open PySem PySem.Spec PyProof.Rows L2
/-! ### enumerate of a tuple -/
set_option maxHeartbeats 1000000 in
theorem meets_enum1 {v : Value} {o : Obj} {H : Heap → Prop} (B : Begins v o H) :
    Meets (Builtin.«enumerate.__new__» ⟨[.type "enumerate", v], []⟩) (fun _ R s => H s.heap ∧
      R (.ok (.ret (.ref (s.heap.push o).objs.size))) { s with heap := (s.heap.push o).push { cls := .type "enumerate", data := .fields #[.none, .bool false, .ref s.heap.objs.size, rawInt 0, .none, .none] } }) :=
  .of_wp fun prog w A R s h => by
    obtain ⟨hp, g, d, tk, os⟩ := s; obtain ⟨h1, h⟩ := h
    have hsub := sub_enumerate
    have q1 : ∀ {A' : Around} {E : Value → Shared → Prop} {Q : Value → Shared → Prop}, Q (.ref hp.objs.size) ⟨hp.push o, g, d, tk, os⟩ → wpAny (model prog w) A' (pyIter v) Q E ⟨hp, g, d, tk, os⟩ :=
      fun q => B.iter prog w _ _ ⟨hp, g, d, tk, os⟩ _ h1 q
    wp_walk using q1
    refine wpAny_stack_any fun st => wpAny_pure ?_
    split
    · rename_i c _ _ _ _ _
      cases (c == Value.type "enumerate")
      · wp_walk using q1
        exact ⟨_, rfl, h⟩
      · wp_walk using q1
        exact ⟨_, rfl, h⟩
    · wp_walk using q1
      exact ⟨_, rfl, h⟩
theorem enum_begins1 {prog : Program} {w : World} {A : Around} {E : Value → Shared → Prop} {s : Shared} {v : Value} {o : Obj} {H : Heap → Prop} {Q : Value → Shared → Prop} (B : Begins v o H) (h1 : H s.heap)
    (h : ∀ h', IsEnum h' (s.heap.objs.size + 1) s.heap.objs.size 0 .none → h'.get? s.heap.objs.size = some o → h'.objs.size = s.heap.objs.size + 2 →
      (∀ b o, s.heap.get? b = some o → h'.get? b = some o) → Q (.ref (s.heap.objs.size + 1)) { s with heap := h' }) :
    wpAny (model prog w) A (call (.type "enumerate") [v]) Q E s := by
  refine callType_new F.called_enumerate (by decide) (F.typeCall_enumerate_1 _) (F.newCall_enumerate_1 _) (fun obj => F.args_object_init_2 obj _) F.entry_enumerate_new
    (meets_enum1 B) ⟨h1, ?_⟩
  have hz : (s.heap.push o).objs.size = s.heap.objs.size + 1 := Heap.size_push ..
  show _ ∧ _
  rw [hz]
  have he : IsEnum ((s.heap.push o).push { cls := .type "enumerate", data := .fields #[.none, .bool false, .ref s.heap.objs.size, rawInt 0, .none, .none] }) (s.heap.objs.size + 1) s.heap.objs.size 0 .none := by
    have := Heap.get?_push_size (s.heap.push o) (o := { cls := .type "enumerate", data := .fields #[.none, .bool false, .ref s.heap.objs.size, rawInt 0, .none, .none] }) rfl
    rw [hz] at this; exact this
  refine ⟨⟨_, he, rfl⟩, h _ he (Heap.get?_push_of_some _ (Heap.get?_push_size _ B.free)) (by rw [Heap.size_push, hz]) fun b o x => Heap.get?_push_of_some _ (Heap.get?_push_of_some _ x)⟩
/-- the tuple at a, each item in a new pair -/
def IteT (K : PySem.W.Frag) (a : Addr) : It :=
  ⟨fun i H => ∃ (xs : List V) (x : V), SqT K H a xs ∧ xs[i]? = some x, fun i H v H' => ∃ T x, v = .ref T ∧ H T = none ∧ H' = upd H T (.tup [.int (i : Nat), x]) ∧ ∀ xs, SqT K H a xs → xs[i]? = some x, fun i H => ∃ xs : List V, SqT K H a xs ∧ xs.length ≤ i⟩
theorem turn_enumT {P : Program} {w : World} {K : PySem.W.Frag} {elts : List Expr} {kk : Nat} {tpos : Pos} (a e it : Addr) (hae : a ≠ e) (hai : a ≠ it) :
    Turn P w K (.Tuple elts kk tpos) (IteT K a) [e, it] e (fun i h => (∃ old, IsEnum h e it ((i : Nat) : Int) old) ∧ h.IsTupleIter it a i ∧ e ≠ it) where
  mem := by simp
  obj := fun i h st b hb => by
    obtain ⟨⟨old, he⟩, ⟨o, ho, hc, hd⟩, _⟩ := st
    have e' : b = e ∨ b = it := by simpa using hb
    rcases e' with z | z
    · rw [z]; exact ⟨_, he, fun v q => nomatch q⟩
    · rw [z]; exact ⟨o, ho, fun v q => by rw [hd] at q; cases q⟩
  keep := fun i h h' st k => let ⟨⟨old, he⟩, hi, hne⟩ := st; ⟨⟨old, k e (by simp) _ he⟩, hi.at fun o q => k it (by simp) o q, hne⟩
  item := by
    intro X hP hw hK hc i pins s σ H E I hf st hg
    subst hP hw hK
    obtain ⟨⟨old, he⟩, hit, hne⟩ := st
    obtain ⟨xs, x, hq, hx⟩ := hg
    obtain ⟨its, rv, p, hz⟩ := I.tuple hq
    obtain ⟨u, hu, ru⟩ := rv.get hx
    have hel : e < s.heap.objs.size := Heap.lt_size he
    have hil : it < s.heap.objs.size := by obtain ⟨_, q, _⟩ := hit; exact Heap.lt_size q
    have hT : s.heap.IsTuple a its.toArray := p
    have hi : i < its.length := (List.getElem?_eq_some_iff.mp hu).1
    refine wpAny_pyNext_enum_itemD (Draws.tuple (prog := X.prog) (w := X.w) (A := X.A.in1) (show X.A.in1.handled = none from I.ok.hd hc) it a hai its.toArray) he ⟨hit, hT⟩ (by simpa using hi) hne (by simp [hne, Ne.symm hae]) fun x' h' tk hx' ho hst' hT1 hsz hk => ?_
    have hxu : x' = u := by
      have h2 : its[i]? = some x' := by simpa using hx'
      rw [hu] at h2
      exact (Option.some.inj h2).symm
    subst hxu
    refine ⟨_, rfl, wpAny_letOwnedTupleGo_enum (s := { s with heap := h', toks := tk + 1 }) ho fun h'' he' sb => ?_⟩
    have hT2 : h''.get? s.heap.objs.size = some { cls := .type "tuple", data := .seq #[.int i tk, x'] } := (sb.2 _ (Nat.ne_of_gt hel)).trans hT1
    have new : ObjOk X.prog X.w (upd H s.heap.objs.size (.tup [.int (i : Nat), x])) h'' s.heap.objs.size (.tup [.int (i : Nat), x]) :=
      ⟨by show 2 ≤ sizeLine; decide, [.int i tk, x'], .cons ⟨_, rfl⟩ (.cons ru .nil), ⟨_, hT2, rfl, _, rfl⟩⟩
    have I1 : Inv X pins σ (upd H s.heap.objs.size (.tup [.int (i : Nat), x])) { s with heap := h'', toks := tk + 1 } :=
      I.turnedNew (ch := [e, it]) (fun b ob hb q => (sb.2 b (fun z => hb (by simp [z]))).trans (hk b ob (fun z => hb (by simp [z])) (fun z => hb (by simp [z])) q)) hf (Nat.le_refl _) new
    refine ⟨.ref s.heap.objs.size, _, I1, rfl, ⟨_, x, rfl, I.hok.fresh (Nat.le_refl _), rfl, fun ys hy => by rw [I.tuple_inj hy hq]; exact hx⟩, ⟨⟨x', ?_⟩, hst'.1.at fun o q => (sb.2 it (Ne.symm hne)).trans q, hne⟩, fun b hb => ?_⟩
    · have e1 : ((i + 1 : Nat) : Int) = (i : Int) + 1 := by omega
      rw [e1]; exact he'
    · have hb' : b < s.heap.objs.size := by
        have e' : b = e ∨ b = it := by simpa using hb
        rcases e' with z | z
        · rw [z]; exact hel
        · rw [z]; exact hil
      rw [upd_ne (Nat.ne_of_lt hb')]
      exact (hf b hb).1
  done := by
    intro X hP hw hK hc i pins s σ H E I hf st hg
    subst hP hw hK
    obtain ⟨⟨old, he⟩, hit, hne⟩ := st
    obtain ⟨xs, hq, hx⟩ := hg
    obtain ⟨its, rv, p, hz⟩ := I.tuple hq
    obtain ⟨f0, f1, f2, f3, f4, f5⟩ := hf it (by simp)
    have hl := rv.length
    have hT : s.heap.IsTuple a its.toArray := p
    have D : Draws X.prog X.w X.A.in1 it [it, a] i (fun i v => its.toArray[i]? = some v) (fun j h => j = i ∧ h.IsTupleIter it a i ∧ h.IsTuple a its.toArray) :=
      ⟨fun _ _ st => let ⟨o, ho, _⟩ := st.2.1; ⟨o, ho⟩, fun _ _ _ st hk => ⟨st.1, st.2.1.at fun o e => hk it (by simp) o e, st.2.2.at fun o e => hk a (by simp) o e⟩,
       fun j s Q E hj st hQ => (Nat.lt_irrefl _ (st.1 ▸ hj)).elim,
       fun s Q E st hE => wpAny_nextOf_tuple_end (show X.A.in1.handled = none from I.ok.hd hc) st.2.1 st.2.2 (by simp; omega) hE⟩
    exact wpAny_pyNext_enum_endD D he ⟨rfl, hit, hT⟩ fun h' eb => ⟨rfl, I.turned (t' := s.toks) (fun b o hb q => eb b o hb q) f0 f1 f3 f4 f5⟩
  self := fun A i s Q E st h => let ⟨⟨_, he⟩, _⟩ := st; wpAny_pyIter_enum he h
def iEnumA (K : PySem.W.Frag) (ta : TA) : TI := fun σ H R => ta σ H fun vs H1 => ∃ a xs, vs = [.ref a] ∧ ((SqL K H1 a xs ∧ R (Ite K a) H1) ∨ (SqT K H1 a xs ∧ R (IteT K a) H1))
theorem pi_enumA {X : Cx} {e : Expr} {ta : TA} {p pos tpos : Pos} {elts : List Expr} {kk : Nat} (hg : Gl X "enumerate") (hm : X.mg "enumerate" = none) (ha : PA X [e] ta) (hs : starEach [e] X.env = [(false, eval e X.env)] := by rfl) :
    PI X (.Tuple elts kk tpos) (.Call (.Name "enumerate" p) [e] [] pos) (iEnumA X.K ta) := by
  refine ⟨fun pins s σ H R I h => ?_⟩
  refine Call_ (ld_blt I hg hm boot_enumerate (PyProof.Rows.callWith_type1 (thn (ha.run pos pins s σ H _ I h) fun us s1 ⟨vs, H1, I1, r1, q1⟩ => ?_) hs rfl))
  obtain ⟨a, xs, ex, q⟩ := q1
  subst ex
  cases r1 with
  | cons r rr =>
    cases rr
    cases r
    have fresh2 : ∀ b, b ∈ [s1.heap.objs.size + 1, s1.heap.objs.size] → FpOk X pins H1 b := fun b hb => by
      have e' : b = s1.heap.objs.size + 1 ∨ b = s1.heap.objs.size := by simpa using hb
      have hle : s1.heap.objs.size ≤ b := by
        rcases e' with z | z
        · rw [z]; exact Nat.le_add_right _ _
        · rw [z]; exact Nat.le_refl _
      exact I1.fpOk hle (I1.hok.fresh hle)
    rcases q with ⟨hq, q⟩ | ⟨hq, q⟩
    · obtain ⟨its, rv, p', hz⟩ := I1.list hq
      refine call_enumerate_list p'.isList fun h' he hit hsz hk => wpAny_pyIter_enum he ?_
      have I2 : Inv X pins σ H1 { s1 with heap := h' } := I1.kept (t' := s1.toks) hk
      exact ⟨s1.heap.objs.size + 1, [s1.heap.objs.size + 1, s1.heap.objs.size], _, _, H1, rfl, I2, turn_enum a (s1.heap.objs.size + 1) s1.heap.objs.size, ⟨⟨.none, he⟩, hit, Nat.succ_ne_self _⟩, fresh2, q⟩
    · obtain ⟨its, rv, p', hz⟩ := I1.tuple hq
      have hT : s1.heap.IsTuple a its.toArray := p'
      have hlt : a < s1.heap.objs.size := by obtain ⟨o, ho, _⟩ := hT; exact Heap.lt_size ho
      refine enum_begins1 (begins_tuple a its.toArray) hT fun h' he hit hsz hk => wpAny_pyIter_enum he ?_
      have I2 : Inv X pins σ H1 { s1 with heap := h' } := I1.kept (t' := s1.toks) hk
      exact ⟨s1.heap.objs.size + 1, [s1.heap.objs.size + 1, s1.heap.objs.size], _, _, H1, rfl, I2, turn_enumT a (s1.heap.objs.size + 1) s1.heap.objs.size (Nat.ne_of_lt (Nat.lt_succ_of_lt hlt)) (Nat.ne_of_lt hlt), ⟨⟨.none, he⟩, ⟨_, hit, rfl, rfl⟩, Nat.succ_ne_self _⟩, fresh2, q⟩
def enumSrc (d : D) (S : Store) : Option Src := match lstSrc d S with
  | some s => some s
  | none => (rdT d).map fun ds => ⟨ds, []⟩
def mEnumA (ms : DSt → Store → Res (List D)) (σ : DSt) (S : Store) : Res Src := (ms σ S).bind fun ds S1 => match ds with
  | [d] => match enumSrc d S1 with
    | some src => .ok ⟨enumD 0 src.items, src.guard⟩ S1
    | none => .stuck
  | _ => .stuck
theorem pmi_enumA {X : Cx} {W : XW} {pos : Pos} {e : Expr} {ms : DSt → Store → Res (List D)} {p tpos : Pos} {elts : List Expr} {kk : Nat} (hg : Gl X "enumerate") (hm : X.mg "enumerate" = none) (ha : PMA X W [e] ms) (hs : starEach [e] X.env = [(false, eval e X.env)] := by rfl) :
    PMI X W (.Tuple elts kk tpos) (.Call (.Name "enumerate" p) [e] [] pos) (mEnumA ms) := by
  refine PI.imp (pi_enumA hg hm (PA.szd ha) hs) fun σ H R ⟨w, dσ, S, A, Rs, P⟩ => ⟨w, dσ, S, A, Rs, P.bind fun ds S1 w1 H1 vs e1 A1 r1 P1 szL szT => ?_⟩
  split at P1
  · split at P1
    · rename_i d _ src hs
      obtain ⟨v, rfl, r⟩ := reps1 r1
      unfold enumSrc at hs
      split at hs
      · rename_i s hs'
        cases hs
        obtain ⟨a, us, rfl, hq, ru, st⟩ := lst_st A1 hs' r
        refine ⟨a, us, rfl, .inl ⟨hq, P1.fin A1 ⟨fun w' H' S' i e' A' g => ?_, by show (enumD 0 src.items).length ≤ sizeLine; rw [enumD_len, ru.length]; exact szL a us hq⟩⟩⟩
        obtain ⟨us', hq', ru'⟩ := st w' H' S' e' A' g
        refine ⟨fun d' hd => ?_, fun hl => ⟨us', hq', ?_⟩⟩
        · obtain ⟨d'', h1, rfl⟩ := enumD_get hd
          obtain ⟨u, hu, ru''⟩ := ru'.get h1
          refine ⟨⟨us', u, hq', hu⟩, fun x H2 y => ?_⟩
          obtain ⟨T, x', rfl, hT, rfl, f⟩ := y
          have hx := f us' hq'
          rw [hu] at hx
          cases hx
          rw [Nat.zero_add]
          exact yldTup A' hT (of_int _) ru''
        · have : (enumD 0 src.items).length ≤ i := hl
          rw [enumD_len, ru'.length] at this
          exact this
      · simp only [Option.map_eq_some_iff] at hs
        obtain ⟨es, h1, rfl⟩ := hs
        obtain ⟨a, us, rfl, hq, ru, st⟩ := tup_st h1 r
        refine ⟨a, us, rfl, .inr ⟨hq, P1.fin A1 ⟨fun w' H' S' i e' A' g => ?_, by show (enumD 0 es).length ≤ sizeLine; rw [enumD_len, ru.length]; exact szT a us hq⟩⟩⟩
        obtain ⟨us', hq', ru'⟩ := st w' H' e'
        refine ⟨fun d' hd => ?_, fun hl => ⟨us', hq', ?_⟩⟩
        · obtain ⟨d'', h1, rfl⟩ := enumD_get hd
          obtain ⟨u, hu, ru''⟩ := ru'.get h1
          refine ⟨⟨us', u, hq', hu⟩, fun x H2 y => ?_⟩
          obtain ⟨T, x', rfl, hT, rfl, f⟩ := y
          have hx := f us' hq'
          rw [hu] at hx
          cases hx
          rw [Nat.zero_add]
          exact yldTup A' hT (of_int _) ru''
        · have : (enumD 0 es).length ≤ i := hl
          rw [enumD_len, ru'.length] at this
          exact this
    · exact P1.elim
  · exact P1.elim
theorem enumSrc_tup {ds : List D} {S : Store} : enumSrc (.tup ds) S = some ⟨ds, []⟩ := (rfl)
theorem enumSrc_ktp {ds : List D} {S : Store} : enumSrc (.ktp ds) S = some ⟨ds, []⟩ := (rfl)
theorem enumSrc_lst {ds : List D} {S : Store} : enumSrc (.lst ds) S = some ⟨ds, []⟩ := (rfl)
theorem enumSrc_frz {ds : List D} {S : Store} : enumSrc (.frz ds) S = some ⟨ds, []⟩ := (rfl)
theorem enumSrc_loc {l : Nat} {ds : List D} {S : Store} (h : S[l]? = some (.lst ds)) : enumSrc (.loc l) S = some ⟨ds, [(l, .lst ds)]⟩ := by simp [enumSrc, lstSrc, h]
end L3
namespace L3
open PySem PySem.Spec PyProof.Rows L2
/-! ### is True, is False -/
def isBD (neg : Bool) (d e : D) (S : Store) : Res D := match d, e with
  | .bl a, .bl b => .ok (.bl (xor neg (decide (a = b)))) S
  | _, _ => .stuck
section
variable {X : Cx} {W : XW}
theorem od_isB : OpD X W (compareOp .Is) (isBD false) := by
  refine ⟨_, op_is_bl, fun w H S d e x y σ Q A rd re P => ?_⟩
  unfold isBD at P
  split at P
  · rw [Bool.false_xor] at P
    exact ⟨_, _, rep_bl rd, rep_bl re, P.fin A (of_bl _)⟩
  · exact P.elim
theorem od_isnotB : OpD X W (compareOp .IsNot) (isBD true) := by
  refine ⟨_, op_isnot_bl, fun w H S d e x y σ Q A rd re P => ?_⟩
  unfold isBD at P
  split at P
  · rw [Bool.true_xor] at P
    exact ⟨_, _, rep_bl rd, rep_bl re, P.fin A (of_bl _)⟩
  · exact P.elim
end
/-! ### d.pop(k), d.setdefault(k, v): keys that are tuples -/
section
variable {X : Cx} {W : XW}
def rPopT1 : V → List V → Hp → VK → Prop := fun x xs H Q => ∃ (a : Addr) (kvs : List (List L2.Key × V)) (k : List L2.Key) (b : Addr) (v : V), x = .ref a ∧ xs = [.ref b] ∧ H a = some (.dT kvs) ∧ H b = some (.tup (k.map kV)) ∧ valV kvs k = some v ∧ Q v (upd H a (.dT (dropK kvs k)))
theorem some_at {v : V} {k : List L2.Key} {xs : List (List L2.Key × Addr × Value)} {o : Option V} (r : RelO o ((atKey xs k).map (·.2))) (e : o = some v) : ∃ p, atKey xs k = some p ∧ RelV v p.2 := by
  subst e
  cases h : atKey xs k with
  | none => rw [h] at r; exact (show False from r).elim
  | some p => rw [h] at r; exact ⟨p, rfl, r⟩
theorem none_at {k : List L2.Key} {xs : List (List L2.Key × Addr × Value)} {o : Option V} (r : RelO o ((atKey xs k).map (·.2))) (e : o = none) : atKey xs k = none := by
  subst e
  cases h : atKey xs k with
  | none => rfl
  | some p => rw [h] at r; exact (show False from r).elim
theorem mt_popT1 (hu : X.A.units + 1 < cLine) : MtR X "dict.pop" rPopT1 := by
  intro pins s σ H x xs v us Q I rx rxs h
  obtain ⟨a, kvs, k, b, vv, rfl, rfl, ha, hb, hv, q⟩ := h
  cases rx
  cases rxs with
  | cons r1 rr =>
    cases rr
    cases r1
    obtain ⟨z, hd, xs', rel, dd⟩ := dt_of I.hok ha
    have hz : xs'.length ≤ sizeLine := by rw [← Paired.length rel]; exact z
    obtain ⟨p, hp, rp⟩ := some_at (rel.val k) hv
    refine call_pop_heap (hsz := hz) (.inl rfl) (PySem.F.args_dict_pop_2 _ _) (tupleKind_room_in1 hu) (key_of I.hok hb) hd dd hp fun h' dd' hs => ?_
    obtain ⟨o, es, ep, hq, h2, h3, h4, _, h5⟩ := dd'
    have I2 : Inv X pins σ (upd H a (.dT (dropK kvs k))) { s with heap := h', toks := s.toks + (tupleKind (mixKind X.prog X.w)).draws k } :=
      d_write I (by rw [ha]; exact True.intro) hs ⟨o, hq⟩ ⟨Nat.le_trans (dropK_le kvs k) z, hd, _, (DX.KT_drop k rel).keeps (fun c ys ec => (by rw [upd_ne (ne_of ec ha (fun z => nomatch z))]; exact ec)), o, es, ep, hq, h2, h3, h4, h5⟩
    exact ⟨vv, _, I2, rp, q⟩
def rSetdT : V → List V → Hp → VK → Prop := fun x xs H Q => ∃ (a : Addr) (kvs : List (List L2.Key × V)) (k : List L2.Key) (b : Addr) (d : V), x = .ref a ∧ xs = [.ref b, d] ∧ H a = some (.dT kvs) ∧ H b = some (.tup (k.map kV)) ∧ kvs.length < sizeLine ∧
  (∀ v, valV kvs k = some v → Q v H) ∧ (valV kvs k = none → Q d (upd H a (.dT (putK kvs k d))))
theorem mt_setdT (hu : X.A.units + 1 < cLine) : MtR X "dict.setdefault" rSetdT := by
  intro pins s σ H x xs v us Q I rx rxs h
  obtain ⟨a, kvs, k, b, d, rfl, rfl, ha, hb, hl, q1, q2⟩ := h
  cases rx
  cases rxs with
  | cons r1 rr =>
    cases rr with
    | cons r2 rr =>
      cases rr
      cases r1
      obtain ⟨z, hd, xs', rel, dd⟩ := dt_of I.hok ha
      have hz : xs'.length ≤ sizeLine := by rw [← Paired.length rel]; exact z
      refine call_setdefault_heap (hsz := hz) (tupleKind_room_in1 hu) (key_of I.hok hb) hd dd (fun p hp => ?_) fun hn h' dd' hs => ?_
      · have r := rel.val k
        rw [hp] at r
        cases ev : valV kvs k with
        | none => rw [ev] at r; exact (show False from r).elim
        | some v0 =>
          rw [ev] at r
          exact ⟨v0, H, I.tok _, r, q1 v0 ev⟩
      · have r := rel.val k
        rw [hn] at r
        have e : valV kvs k = none := by
          cases ev : valV kvs k with
          | none => rfl
          | some v0 => rw [ev] at r; exact (show False from r).elim
        obtain ⟨o, es, ep, hq, h2, h3, h4, _, h5⟩ := dd'
        have hl2 : (putK kvs k d).length ≤ sizeLine := by have := length_putK kvs k d; omega
        have I2 : Inv X pins σ (upd H a (.dT (putK kvs k d))) { s with heap := h', toks := s.toks + (tupleKind (mixKind X.prog X.w)).draws k } := by
          refine d_write I (by rw [ha]; exact True.intro) hs ⟨o, hq⟩ ⟨hl2, hd, _, (rel.put k hb r2).keeps fun c ys ec => ?_, o, es, ep, hq, h2, h3, h4, h5⟩
          rw [upd_ne (ne_of ec ha (fun z => nomatch z))]
          exact ec
        exact ⟨d, _, I2, r2, q2 e⟩
def dropD {κ : Type} [DecidableEq κ] (kvs : List (κ × D)) (k : κ) : List (κ × D) := kvs.filter fun kv => decide (kv.1 ≠ k)
theorem RKv.drop {κ : Type} [DecidableEq κ] (k : κ) {K : PySem.W.Frag} {w : Wd} {H : Hp} : ∀ {kvs : List (κ × D)} {vs : List (κ × V)}, RKv K w H kvs vs → RKv K w H (dropD kvs k) (dropK vs k)
  | [], _, h => by simp only [RKv] at h; subst h; rfl
  | (j, d) :: kvs, _, h => by
    obtain ⟨v, us, rfl, h1, h2⟩ := h
    have ih := RKv.drop k h2
    unfold dropD at ih ⊢
    unfold dropK at ih ⊢
    by_cases e : j = k
    · rw [List.filter_cons_of_neg (by simp [e]), List.filter_cons_of_neg (by simp [e])]
      exact ih
    · rw [List.filter_cons_of_pos (by simp [e]), List.filter_cons_of_pos (by simp [e])]
      exact ⟨v, _, rfl, h1, ih⟩
def dpopD (d : D) (ds : List D) (S : Store) : Res D := match d, ds with
  | .loc l, [.tup ks] => match S[l]?, keysOf ks with
    | some (.dT kvs), some k => match lookK kvs k with
      | some v => .ok v (S.set l (.dT (dropD kvs k)))
      | none => .stuck
    | _, _ => .stuck
  | _, _ => .stuck
theorem md_dpop (hu : X.A.units + 1 < cLine) : MtD X W "dict" "dict.pop" dpopD := by
  refine ⟨_, mt_popT1 hu, fun w H S d ds v vs σ Q A r rs P => ?_⟩
  unfold dpopD at P
  split at P
  · rename_i l ks
    split at P
    · rename_i kvs k h1 h2
      split at P
      · rename_i vd hv
        simp only [Rep] at r
        obtain ⟨a, el, rfl⟩ := r
        obtain ⟨y, rfl, r1⟩ := reps1 rs
        simp only [Rep] at r1
        obtain ⟨b, us, rfl, f, q⟩ := r1
        have e5 := keysOf_rep h2 q
        subst e5
        obtain ⟨u, eu, vs', rfl, rr⟩ := A.ob l a _ el h1
        have hm : a ∈ w.M := List.mem_of_getElem? el
        have lk := rr.look k
        rw [hv] at lk
        cases hz : valV vs' k with
        | none => rw [hz] at lk; exact lk.1.elim
        | some z =>
          rw [hz] at lk
          exact ⟨a, vs', k, b, z, rfl, rfl, eu, f.2.2, hz, P w _ _ (Ex.wr hm (nz_dT eu)) (A.wr el (nz_dT eu) ⟨_, rfl, rr.drop k⟩) (lk.1.mono (Ex.wr hm (nz_dT eu)))⟩
      · exact P.elim
    · exact P.elim
  · exact P.elim
def dsetdD (d : D) (ds : List D) (S : Store) : Res D := match d, ds with
  | .loc l, [.tup ks, x] => match S[l]?, keysOf ks with
    | some (.dT kvs), some k => if kvs.length < sizeLine then (match lookK kvs k with
      | some v => .ok v S
      | none => .ok x (S.set l (.dT (putD kvs k x)))) else .stuck
    | _, _ => .stuck
  | _, _ => .stuck
theorem md_dsetd (hu : X.A.units + 1 < cLine) : MtD X W "dict" "dict.setdefault" dsetdD := by
  refine ⟨_, mt_setdT hu, fun w H S d ds v vs σ Q A r rs P => ?_⟩
  unfold dsetdD at P
  split at P
  · rename_i l ks x
    split at P
    · rename_i kvs k h1 h2
      split at P
      · rename_i hlen
        simp only [Rep] at r
        obtain ⟨a, el, rfl⟩ := r
        obtain ⟨y, x', rfl, r1, r2⟩ := reps2 rs
        simp only [Rep] at r1
        obtain ⟨b, us, rfl, f, q⟩ := r1
        have e5 := keysOf_rep h2 q
        subst e5
        obtain ⟨u, eu, vs', rfl, rr⟩ := A.ob l a _ el h1
        have hm : a ∈ w.M := List.mem_of_getElem? el
        have lk := rr.look k
        refine ⟨a, vs', k, b, x', rfl, rfl, eu, f.2.2, by rw [← rr.length]; exact hlen, fun z hz => ?_, fun hz => ?_⟩
        · rw [hz] at lk
          cases hv : lookK kvs k with
          | none => exact absurd (lk.2 hv) (by simp)
          | some vd =>
            rw [hv] at P lk
            exact P.fin A lk.1
        · rw [hz] at lk
          cases hv : lookK kvs k with
          | some vd => rw [hv] at lk; exact lk.1.elim
          | none =>
            rw [hv] at P
            exact P w _ _ (Ex.wr hm (nz_dT eu)) (A.wr el (nz_dT eu) ⟨_, rfl, rr.put k r2⟩) (r2.mono (Ex.wr hm (nz_dT eu)))
      · exact P.elim
    · exact P.elim
  · exact P.elim
end
end L3
namespace L3
open PySem PySem.Spec PyProof.Rows L2
/-! ### min of a dict from places -/
def pdOf (p : Int × Int) : PyData := .tuple [.int p.1, .int p.2]
def kyOf (p : Int × Int) : List L2.Key := [.inl p.1, .inl p.2]
def ltP (a b : Int × Int) : Bool := PySem.W.dataLt (pdOf a) (pdOf b)
def minP (p : Int × Int) (ps : List (Int × Int)) : Int × Int := ps.foldl (fun a y => if ltP y a then y else a) p
theorem minD_pd (ps : List (Int × Int)) : ∀ p, PySem.W.minD (pdOf p) (ps.map pdOf) = pdOf (minP p ps) := by
  induction ps with
  | nil => exact fun _ => rfl
  | cons q ps ih =>
    intro p
    unfold PySem.W.minD minP at *
    rw [List.map_cons, List.foldl_cons, List.foldl_cons]
    rw [← ih]
    unfold ltP
    split <;> rfl
def rMinT : List V → Hp → VK → Prop := fun vs H Q => ∃ (a : Addr) (kvs : List (List L2.Key × V)) (p : Int × Int) (ps : List (Int × Int)), vs = [V.ref a] ∧ H a = some (.dT kvs) ∧ kvs.map (·.1) = (p :: ps).map kyOf ∧
  ∀ b, H b = some (.tup ((kyOf (minP p ps)).map kV)) → Q (.ref b) H
theorem alike_pd (p q : Int × Int) : PySem.W.alike (pdOf p) (pdOf q) = true := by simp [pdOf, PySem.W.alike, PySem.W.alikeAll]
theorem depth_pd : ∀ ps : List (Int × Int), PyData.depthAll (ps.map pdOf) ≤ 2
  | [] => by simp [PyData.depthAll]
  | p :: ps => by
    have := depth_pd ps
    simp [PyData.depthAll, pdOf, PyData.depth] at this ⊢
    omega
theorem kyOf_inj {p q : Int × Int} (h : kyOf p = kyOf q) : p = q := by
  rcases p with ⟨a, b⟩
  rcases q with ⟨c, d⟩
  simp [kyOf] at h
  simp [h]
section
variable {X : Cx} {W : XW}
theorem cr_minT (hc : X.calm = true) (hu : X.A.units + 8 < cLine) : CallR X (.builtin "min") rMinT := by
  intro pins s σ H vs us Q I r h
  obtain ⟨a, kvs, p, ps, rfl, ha, hk, q⟩ := h
  rw [Vals.ref1 r]
  obtain ⟨z, hsys, xs, rel, dof⟩ := dt_of I.hok ha
  obtain ⟨es, ep, raw, hsz, hent⟩ := dof.raw
  have hlt : a < s.heap.objs.size := by obtain ⟨o, ho, _⟩ := raw; exact Heap.lt_size ho
  have hlen : xs.length = (p :: ps).length := by
    have e1 := congrArg List.length hk
    have e2 := Paired.length rel
    rw [List.length_map, List.length_map] at e1
    omega
  have hx1 : ∀ (i : Nat) (y : List L2.Key × Addr × Value), xs[i]? = some y → ∃ pr, (p :: ps)[i]? = some pr ∧ H y.2.1 = some (.tup ((kyOf pr).map kV)) := fun i y hy => by
    obtain ⟨kv, h1, h2, h3, _⟩ := DX.pget rel hy
    have e1 : (kvs.map (·.1))[i]? = some kv.1 := by rw [List.getElem?_map, h1] <;> rfl
    rw [hk, List.getElem?_map] at e1
    obtain ⟨pr, g1, g2⟩ := Option.map_eq_some_iff.mp e1
    exact ⟨pr, g1, by rw [g2]; exact h3⟩
  have hall : ∀ (n : Nat), n ≤ xs.length → DpAll X.K H ((xs.drop (xs.length - n)).map fun y => V.ref y.2.1) (((p :: ps).drop (xs.length - n)).map pdOf) := fun n => by
    induction n with
    | zero =>
      intro _
      rw [Nat.sub_zero, List.drop_length, hlen, List.drop_length]
      exact .nil
    | succ n ih =>
      intro hn
      have hi : xs.length - (n + 1) < xs.length := by omega
      have hi2 : xs.length - (n + 1) < (p :: ps).length := by rw [← hlen]; exact hi
      have e : xs.length - (n + 1) + 1 = xs.length - n := by omega
      rw [List.drop_eq_getElem_cons hi, List.drop_eq_getElem_cons hi2, List.map_cons, List.map_cons, e]
      obtain ⟨pr, g1, g2⟩ := hx1 _ _ (List.getElem?_eq_getElem hi)
      rw [List.getElem?_eq_getElem hi2] at g1
      have g3 := Option.some.inj g1
      rw [g3]
      exact .cons (.tup (.inl (.inl g2)) (.cons (.int _) (.cons (.int _) .nil))) (ih (by omega))
  have hdp : DpAll X.K H (xs.map fun y => V.ref y.2.1) ((p :: ps).map pdOf) := by
    have := hall xs.length (Nat.le_refl _)
    rwa [Nat.sub_self, List.drop_zero, List.drop_zero] at this
  have hvals : ∀ ys : List (List L2.Key × Addr × Value), Vals (ys.map fun y => V.ref y.2.1) (ys.map fun y => Value.ref y.2.1) := fun ys => by
    induction ys with
    | nil => exact .nil
    | cons y ys ih => exact .cons rfl ih
  obtain ⟨as, rds⟩ := Dp.readsAll I _ _ _ hdp (hvals xs)
  have hr : ReadsAll s.heap (xs.map fun y => Value.ref y.2.1).toArray.toList (pdOf p :: ps.map pdOf) as := by simpa using rds
  refine call_min_walkH (wpAny_pyIter_dict_raw hsys raw ?_)
  have W0 := Walks.keysH (prog := X.prog) (w := X.w) (A := X.A.in1) (xs := xs) (show X.A.in1.handled = none from I.ok.hd hc) s.heap.objs.size a (Nat.ne_of_lt hlt) es ep fun i hi => by
    obtain ⟨y, h1, h2, h3, _⟩ := hent i hi
    exact ⟨y, h1, h2, h3⟩
  have hP : ∀ (i : Nat) (v : Value), (∃ y, xs[i]? = some y ∧ v = Value.ref y.2.1) → (xs.map fun y => Value.ref y.2.1).toArray[i]? = some v := fun i v ⟨y, h1, h2⟩ => by
    rw [h2, List.getElem?_toArray, List.getElem?_map, h1] <;> rfl
  refine ⟨_, _, _, _, _, _, _, s.heap, _, rfl, W0.toS, ⟨⟨_, Heap.get?_push_size _ rfl, rfl, rfl⟩, raw.at fun o e => Heap.get?_push_of_some _ e⟩, fun b hb => ?_, by rw [hsz, hlen]; exact Nat.succ_pos _, fun b o e hb => ?_, fun b o e => Heap.get?_push_of_some _ e,
    fun i j vi vj s' Q E hk hi hj hq => PySem.W.cmpIn_lt (A := X.A.in1) (s := s) hr ⟨fun x hx y hy => ?_, fun x hx => ?_⟩ ?_ i j vi vj s' Q E hk (hP i vi hi) (hP j vj hj) hq, fun v s' hPv m => ?_⟩
  · show b < (s.heap.push _).objs.size
    rw [Heap.size_push]
    rcases List.mem_cons.mp hb with rfl | hb
    · exact Nat.lt_succ_self _
    · rcases List.mem_cons.mp hb with rfl | hb
      · exact Nat.lt_succ_of_lt hlt
      · cases hb
  · exact absurd (Heap.lt_size e) ((List.mem_singleton.mp hb) ▸ Nat.lt_irrefl _)
  · rw [← List.map_cons] at hx hy
    obtain ⟨x', _, rfl⟩ := List.mem_map.mp hx
    obtain ⟨y', _, rfl⟩ := List.mem_map.mp hy
    exact alike_pd _ _
  · rw [← List.map_cons] at hx
    obtain ⟨x', _, rfl⟩ := List.mem_map.mp hx
    simp [pdOf]
  · have := depth_pd (p :: ps)
    rw [List.map_cons] at this
    show X.A.units + 1 + _ < _
    omega
  · obtain ⟨h', tk, rfl, hk'⟩ := PySem.W.moved_old rfl rfl m
    obtain ⟨y, hy, rfl⟩ := hPv
    obtain ⟨pr, g1, g2⟩ := hx1 _ _ hy
    have e2 := (PySem.W.argBest_fold PySem.W.dataLt PyData.none (pdOf p) (ps.map pdOf) (ps.map pdOf).length (Nat.le_refl _)).2
    rw [List.take_length] at e2
    have e3 : es.size - 1 = (ps.map pdOf).length := by rw [hsz, hlen, List.length_map]; rfl
    rw [e3] at g1
    have e4 : (pdOf p :: ps.map pdOf).getD (argBest (fun i j => PySem.W.dataLt ((pdOf p :: ps.map pdOf).getD i PyData.none) ((pdOf p :: ps.map pdOf).getD j PyData.none)) (ps.map pdOf).length) PyData.none = pdOf pr := by
      rw [List.getD_eq_getElem?_getD, ← List.map_cons, List.getElem?_map]
      rw [← List.map_cons] at g1
      rw [g1] <;> rfl
    rw [e4] at e2
    have e5 : pdOf pr = pdOf (minP p ps) := e2.trans (minD_pd ps p)
    have e6 : pr = minP p ps := by
      unfold pdOf at e5
      simp at e5
      exact Prod.ext e5.1 e5.2
    rw [e6] at g2
    exact ⟨.ref y.2.1, H, I.kept (t' := tk) hk', rfl, q _ g2⟩
end
def plOf : List (List Key × D) → Option (List (Int × Int))
  | [] => some []
  | (k, _) :: r => match k with
    | [.inl x, .inl y] => (plOf r).map fun ps => (x, y) :: ps
    | _ => none
theorem plOf_keys : ∀ {kvs : List (List Key × D)} {ps : List (Int × Int)}, plOf kvs = some ps → kvs.map (·.1) = ps.map kyOf
  | [], ps, h => by
    simp only [plOf, Option.some.injEq] at h
    subst h
    rfl
  | (k, d) :: r, ps, h => by
    simp only [plOf] at h
    split at h
    · rename_i x y
      obtain ⟨qs, h1, rfl⟩ := Option.map_eq_some_iff.mp h
      rw [List.map_cons, List.map_cons, plOf_keys h1]
      rfl
    · cases h
theorem rkv_keys {κ : Type} {K : PySem.W.Frag} {w : Wd} {H : Hp} : ∀ {kvs : List (κ × D)} {vs : List (κ × V)}, RKv K w H kvs vs → vs.map (·.1) = kvs.map (·.1)
  | [], _, h => by simp only [RKv] at h; subst h; rfl
  | (k, d) :: kvs, _, h => by
    obtain ⟨v, r, rfl, _, h2⟩ := h
    rw [List.map_cons, List.map_cons, rkv_keys h2]
def minDD (ds : List D) (S : Store) : Res D := match ds with
  | [.loc l] => match S[l]? with
    | some (.dT kvs) => match plOf kvs with
      | some (p :: ps) => .ok (.tup [.int (minP p ps).1, .int (minP p ps).2]) S
      | _ => .stuck
    | _ => .stuck
  | _ => .stuck
section
variable {X : Cx} {W : XW}
theorem cd_minD (hc : X.calm = true) (hu : X.A.units + 8 < cLine) : CallD X W (.builtin "min") minDD := by
  refine ⟨_, cr_minT hc hu, fun w H S ds vs σ Q A r P => ?_⟩
  unfold minDD at P
  split at P
  · rename_i l
    split at P
    · rename_i kvs h1
      split at P
      · rename_i p ps h2
        obtain ⟨v, rfl, r1⟩ := reps1 r
        simp only [Rep] at r1
        obtain ⟨a, el, rfl⟩ := r1
        obtain ⟨u, eu, vs', rfl, rr⟩ := A.ob l a _ el h1
        refine ⟨a, vs', p, ps, rfl, eu, (rkv_keys rr).trans (plOf_keys h2), fun b hb => P.fin A ?_⟩
        obtain ⟨n1, n2⟩ := tup_notM A hb
        simp only [Rep]
        exact ⟨b, _, rfl, ⟨n1, n2, hb⟩, .cons (of_int _) (.cons (of_int _) .nil)⟩
      · exact P.elim
    · exact P.elim
  · exact P.elim
end
end L3
namespace L3
open PySem PySem.Spec PyProof.Rows L2
/-! ### a dict compared with an empty one -/
section
variable {prog : Program} {w : World} {A : Around} {E : Value → Shared → Prop} {s : Shared}
theorem samePairs0 {nm : String} {a b : Addr} {es es' : Array DictEntry} {ep ep' : Nat} {Q : Bool → Shared → Prop} (ha : (a == sysModules) = false) (hb : (b == sysModules) = false)
    (da : s.heap.DictRaw a es ep) (db : s.heap.DictRaw b es' ep') (h0 : es'.size = 0) (h : Q (es.size == 0) s) :
    wpAny (model prog w) A (Builtin.Dict.samePairs nm a b) Q E s := by
  obtain ⟨oa, hoa, _, hda⟩ := da
  obtain ⟨ob, hob, _, hdb⟩ := db
  unfold Builtin.Dict.samePairs Builtin.Dict.showsAll
  rw [if_neg (show ¬ (a == sysModules) = true by rw [ha]; exact Bool.false_ne_true), if_neg (show ¬ (b == sysModules) = true by rw [hb]; exact Bool.false_ne_true)]
  refine wpAny_bind (wpAny_pure (wpAny_bind (wpAny_pure ?_)))
  refine wpAny_bind (wpAny_dictEntries hoa hda ?_)
  dsimp only
  refine wpAny_bind (wpAny_dictEntries hob hdb ?_)
  by_cases hsz : es.size = es'.size
  case neg =>
    rw [if_pos (by simpa using hsz)]
    have hbf : (es.size == 0) = false := by rw [h0] at hsz; simpa using hsz
    rw [hbf] at h
    exact wpAny_bind (wpAny_rule (wpAny_pure h))
  case pos =>
    have h1 : es.size = 0 := hsz.trans h0
    rw [if_neg (by rw [hsz]; simp)]
    refine wpAny_bind (wpAny_dictEpoch hoa hda ?_)
    refine wpAny_bind ?_
    rw [Std.Legacy.Range.forIn_eq_forIn_range']
    simp only [Std.Legacy.Range.size, Nat.sub_zero, Nat.add_sub_cancel, Nat.div_one, h1, List.range'_zero, List.forIn_nil]
    refine wpAny_pure ?_
    rw [h1] at h
    exact wpAny_pure h
theorem eq_empty {a b : Addr} {es es' : Array DictEntry} {ep ep' : Nat} {Q : Value → Shared → Prop} (ha : (a == sysModules) = false) (hb : (b == sysModules) = false)
    (da : s.heap.DictRaw a es ep) (db : s.heap.DictRaw b es' ep') (h0 : es'.size = 0) (hu : A.units < cLine) (h : Q (.bool (es.size == 0)) s) :
    wpAny (model prog w) A (compareOp .Eq (.ref a) (.ref b)) Q E s := by
  refine wpAny_richCompare_same_room (op := .Eq) da.typeIs db.typeIs PySem.F.slot_dict_eq (wpAny_call_entry PySem.F.slot_dict_eq da.typeIs PySem.F.entry_dict_eq ?_ (PySem.F.args_dict_eq_2 _ _)) hu
  show wpAny _ _ (Builtin.Dict.dictSlotArgs "__eq__" ⟨[.ref a, .ref b], []⟩ >>= _) _ _ s
  refine wpAny_bind ?_
  unfold Builtin.Dict.dictSlotArgs
  refine wpAny_bind (wpAny_notOrdered_dict da.typeIs ?_)
  show wpAny _ _ (pure (Value.ref a, Value.ref b)) _ _ s
  refine wpAny_pure ?_
  refine wpAny_bind (wpAny_isInstance (T := "dict") db.typeIs PySem.F.sub_dict_dict ?_)
  simp only [Bool.not_true, Bool.false_eq_true, if_false]
  refine wpAny_bind (wpAny_pure (wpAny_bind (wpAny_pure ?_)))
  refine wpAny_bind (samePairs0 ha hb da db h0 ?_)
  refine wpAny_pure ⟨_, rfl, ?_, ?_⟩
  · exact fun x => nomatch x
  · simpa using h
theorem ne_empty {a b : Addr} {es es' : Array DictEntry} {ep ep' : Nat} {Q : Value → Shared → Prop} (ha : (a == sysModules) = false) (hb : (b == sysModules) = false)
    (da : s.heap.DictRaw a es ep) (db : s.heap.DictRaw b es' ep') (h0 : es'.size = 0) (hu : A.units < cLine) (h : Q (.bool (!(es.size == 0))) s) :
    wpAny (model prog w) A (compareOp .NotEq (.ref a) (.ref b)) Q E s := by
  refine wpAny_richCompare_same_room (op := .NotEq) da.typeIs db.typeIs PySem.F.slot_dict_ne (wpAny_call_entry PySem.F.slot_dict_ne da.typeIs PySem.F.entry_dict_ne ?_ (PySem.F.args_dict_ne_2 _ _)) hu
  show wpAny _ _ (Builtin.Dict.dictSlotArgs "__ne__" ⟨[.ref a, .ref b], []⟩ >>= _) _ _ s
  refine wpAny_bind ?_
  unfold Builtin.Dict.dictSlotArgs
  refine wpAny_bind (wpAny_notOrdered_dict da.typeIs ?_)
  show wpAny _ _ (pure (Value.ref a, Value.ref b)) _ _ s
  refine wpAny_pure ?_
  refine wpAny_bind (wpAny_isInstance (T := "dict") db.typeIs PySem.F.sub_dict_dict ?_)
  simp only [Bool.not_true, Bool.false_eq_true, if_false]
  refine wpAny_bind (wpAny_pure (wpAny_bind (wpAny_pure ?_)))
  refine wpAny_bind (samePairs0 ha hb da db h0 ?_)
  refine wpAny_pure ⟨_, rfl, ?_, ?_⟩
  · exact fun x => nomatch x
  · simpa using h
end
/-- a dict at a of n entries -/
def DkN (H : Hp) (a : Addr) (n : Nat) : Prop := (∃ kvs : List (L2.Key × V), H a = some (.dK kvs) ∧ kvs.length = n) ∨ ∃ kvs : List (List L2.Key × V), H a = some (.dT kvs) ∧ kvs.length = n
section
variable {X : Cx} {W : XW}
theorem DkN.raw {pins : List (Addr × Obj)} {σ : L2.St} {H : Hp} {s : Shared} {a : Addr} {n : Nat} (I : L2.Inv X pins σ H s) (h : DkN H a n) : (a == sysModules) = false ∧ ∃ es ep, s.heap.DictRaw a es ep ∧ es.size = n := by
  rcases h with ⟨kvs, e, hn⟩ | ⟨kvs, e, hn⟩
  · obtain ⟨_, hd, vs, rel, dd⟩ := dk_of I.hok e
    obtain ⟨es, ep, r, hs, _⟩ := dd.raw
    exact ⟨hd, es, ep, r, by have := rel.length; omega⟩
  · obtain ⟨_, hd, xs, rel, dd⟩ := dt_of I.hok e
    obtain ⟨es, ep, r, hs, _⟩ := dd.raw
    exact ⟨hd, es, ep, r, by have := Paired.length rel; omega⟩
theorem op_eq0 (hu : X.A.units + 1 < cLine) : OpR X (compareOp .Eq) (fun x y H Q => ∃ a b n, x = .ref a ∧ y = .ref b ∧ DkN H a n ∧ DkN H b 0 ∧ Q (.bl (n == 0)) H) := fun pins s σ H x y v u Q I rx ry ⟨a, b, n, e1, e2, d1, d2, q⟩ => by
  subst e1 e2
  obtain rfl : v = Value.ref a := rx
  obtain rfl : u = Value.ref b := ry
  obtain ⟨ha, es, ep, r1, hs1⟩ := d1.raw I
  obtain ⟨hb, es', ep', r2, hs2⟩ := d2.raw I
  refine eq_empty ha hb r1 r2 hs2 (by omega) ⟨.bl (n == 0), H, I, ?_, q⟩
  rw [hs1]
  rfl
theorem op_ne0 (hu : X.A.units + 1 < cLine) : OpR X (compareOp .NotEq) (fun x y H Q => ∃ a b n, x = .ref a ∧ y = .ref b ∧ DkN H a n ∧ DkN H b 0 ∧ Q (.bl (!(n == 0))) H) := fun pins s σ H x y v u Q I rx ry ⟨a, b, n, e1, e2, d1, d2, q⟩ => by
  subst e1 e2
  obtain rfl : v = Value.ref a := rx
  obtain rfl : u = Value.ref b := ry
  obtain ⟨ha, es, ep, r1, hs1⟩ := d1.raw I
  obtain ⟨hb, es', ep', r2, hs2⟩ := d2.raw I
  refine ne_empty ha hb r1 r2 hs2 (by omega) ⟨.bl (!(n == 0)), H, I, ?_, q⟩
  rw [hs1]
  rfl
def dsize (S : Store) : D → Option Nat
  | .loc l => match S[l]? with
    | some (.dK kvs) => some kvs.length
    | some (.dT kvs) => some kvs.length
    | _ => none
  | _ => none
theorem dsize_rep {K : PySem.W.Frag} {mg : Str → Option Value} {w : Wd} {H : Hp} {S : Store} {d : D} {n : Nat} {v : V} (A : Ab K w H mg S) (h : dsize S d = some n) (r : Rep K w H d v) : ∃ a, v = .ref a ∧ DkN H a n := by
  unfold dsize at h
  split at h
  · rename_i l
    simp only [Rep] at r
    obtain ⟨a, el, rfl⟩ := r
    split at h
    · rename_i kvs q
      cases h
      obtain ⟨u, eu, vs, rfl, rr⟩ := A.ob l a _ el q
      exact ⟨a, rfl, .inl ⟨vs, eu, rr.length.symm⟩⟩
    · rename_i kvs q
      cases h
      obtain ⟨u, eu, vs, rfl, rr⟩ := A.ob l a _ el q
      exact ⟨a, rfl, .inr ⟨vs, eu, rr.length.symm⟩⟩
    · cases h
  · cases h
/-- d == {}, d != {} -/
def eqED (neg : Bool) (d e : D) (S : Store) : Res D := match dsize S d, dsize S e with
  | some n, some 0 => .ok (.bl (xor neg (n == 0))) S
  | _, _ => .stuck
theorem od_eqE (hu : X.A.units + 1 < cLine) : OpD X W (compareOp .Eq) (eqED false) := by
  refine ⟨_, op_eq0 hu, fun w H S d e x y σ Q A rd re P => ?_⟩
  unfold eqED at P
  split at P
  · rename_i n h1 h2
    obtain ⟨a, rfl, d1⟩ := dsize_rep A h1 rd
    obtain ⟨b, rfl, d2⟩ := dsize_rep A h2 re
    rw [Bool.false_xor] at P
    exact ⟨a, b, n, rfl, rfl, d1, d2, P.fin A (of_bl _)⟩
  · exact P.elim
theorem od_neE (hu : X.A.units + 1 < cLine) : OpD X W (compareOp .NotEq) (eqED true) := by
  refine ⟨_, op_ne0 hu, fun w H S d e x y σ Q A rd re P => ?_⟩
  unfold eqED at P
  split at P
  · rename_i n h1 h2
    obtain ⟨a, rfl, d1⟩ := dsize_rep A h1 rd
    obtain ⟨b, rfl, d2⟩ := dsize_rep A h2 re
    rw [Bool.true_xor] at P
    exact ⟨a, b, n, rfl, rfl, d1, d2, P.fin A (of_bl _)⟩
  · exact P.elim
end
end L3
namespace L3
open PySem PySem.Spec PyProof.Rows PySem.Calls L2
/-! ### list(..) and sorted(..) of a dict with tuple keys -/
section
variable {prog : Program} {w : World} {A : Around} {E : Value → Shared → Prop} {s : Shared} {Q : Value → Shared → Prop}
theorem sorted_raw {r : Addr} {o : Obj} {es : Array DictEntry} {ep : Nat} (lo : (r == sysModules) = false) (hh : A.handled = none) (ho : s.heap.get? r = some o) (hx : o.ExactDict) (hd : o.data = .dict es ep) (hn : es.size ≤ sizeLine)
    (h : ∀ (h' : Heap) (tk : Nat) (acc : Array Value), (∀ b o, s.heap.get? b = some o → h'.get? b = some o) → ItemsOf (fun i v => ∃ en : DictEntry, es[i]? = some en ∧ v = en.key) acc es.size →
      wpAny (model prog w) A.in1 (call (.builtin "list.sort") [.ref h'.objs.size]) (fun _ s' => Q (.ref h'.objs.size) s') E { s with heap := h'.push (seqObj "list" acc.toList.toArray 0), toks := tk }) :
    wpAny (model prog w) A (call (.builtin "sorted") [.ref r]) Q E s := by
  refine call_function_entry kind_sorted plain_sorted entry_sorted (PyProof.Rows.args_sorted1 _) ?_
  unfold Builtin.«sorted»
  refine wpAny_bind (m := checkCount "sorted" 1 1 _) (wpAny_pure ?_)
  refine wpAny_bind (PySem.W.kdu_collect (A := A.in1) (kdl_raw lo hx hd) hh ho hn fun h' tk acc hk hacc => ?_)
  have hl : acc.toList.length = es.size := by rw [Array.length_toList]; exact hacc.1
  refine wpAny_bind (wpAny_newList ?_ (by rw [hl]; exact hn))
  refine wpAny_bind (wpAny_holding (wpAny_mono (h h' tk acc hk hacc) (fun _ s' x => ?_) fun _ _ e => e))
  exact wpAny_pure ⟨_, rfl, x⟩
end
theorem paired_each {α β : Type} {R : α → β → Prop} : ∀ {as : List α} {bs : List β}, PySem.W.EachIs R as bs → Paired (fun b a => R a b) bs as
  | _, _, .nil => .nil
  | _, _, .cons h t => .cons h (paired_each t)
def rSortT : List V → Hp → VK → Prop := fun vs H Q => ∃ (a : Addr) (kvs : List (List L2.Key × V)) (ps : List (Int × Int)), vs = [V.ref a] ∧ H a = some (.dT kvs) ∧ kvs.map (·.1) = ps.map kyOf ∧
  ∀ p bs, H p = none → Paired (fun (q : Int × Int) b => H b = some (.tup ((kyOf q).map kV))) (ps.mergeSort (PySem.W.dataLe false pdOf)) bs → Q (.ref p) (upd H p (.lst (bs.map V.ref)))
section
variable {X : Cx} {W : XW}
theorem reads_pd {X : Cx} {pins : List (Addr × Obj)} {σ : L2.St} {H : Hp} {s : Shared} (I : L2.Inv X pins σ H s) {q : Int × Int} {b : Addr} (h : H b = some (.tup ((kyOf q).map kV))) : Reads s.heap (.ref b) (pdOf q) [] := by
  obtain ⟨as, r⟩ := Dp.reads I (pdOf q) (.ref b) (.ref b) (.tup (.inl (.inl h)) (.cons (.int _) (.cons (.int _) .nil))) rfl
  have key : ∀ {hp : Heap} {v : Value} {d : PyData} {as : List Addr}, Reads hp v d as → d = pdOf q → as = [] := by
    intro hp v d as r e
    cases r with
    | tuple h1 h2 h3 h4 =>
      unfold pdOf at e
      injection e with e
      subst e
      have k2 : ∀ {vs : List Value} {ds : List PyData} {as : List Addr}, ReadsAll hp vs ds as → (∀ d ∈ ds, ∃ i, d = .int i) → as = [] := by
        intro vs ds as r hd
        induction ds generalizing vs as with
        | nil => cases r; rfl
        | cons d ds ih =>
          obtain ⟨i, rfl⟩ := hd _ List.mem_cons_self
          cases r with
          | cons h5 h6 =>
            cases h5
            rw [ih h6 fun d hd2 => hd d (List.mem_cons_of_mem _ hd2)] <;> rfl
      exact k2 h4 (by simp)
    | _ => unfold pdOf at e; cases e
  have e := key r rfl
  rw [e] at r
  exact r
theorem alike_pds (ps : List (Int × Int)) : PySem.W.AllAlike (ps.map pdOf) := PySem.W.AllAlike.of alike_pd
theorem cr_sortT (hc : X.calm = true) (hu : X.A.units + 8 < cLine) : CallR X (.builtin "sorted") rSortT := by
  intro pins s σ H vs us Q I r h
  obtain ⟨a, kvs, ps, rfl, ha, hk, q⟩ := h
  rw [Vals.ref1 r]
  obtain ⟨z, hsys, ks, pr, o, es, ep, ho, hx, hdt, he, hn⟩ := (show ObjOk X.prog X.w H s.heap a (.dT kvs) from I.hok a _ ha)
  have l1 : es.size = ks.length := size_of_entries he
  have l2 : kvs.length = ks.length := Paired.length pr
  have l3 : kvs.length = ps.length := by
    have := congrArg List.length hk
    rwa [List.length_map, List.length_map] at this
  refine sorted_raw hsys (I.ok.hd hc) ho hx hdt (by omega) fun h' tk acc hkp it => ?_
  have ea : acc.toList = ks.map fun x => Value.ref x.2.1 := by
    have hl : acc.toList.length = ks.length := by rw [Array.length_toList, it.1]; exact l1
    apply List.ext_getElem?
    intro j
    rw [List.getElem?_map]
    cases hj : acc.toList[j]? with
    | none =>
      have h1 := List.getElem?_eq_none_iff.mp hj
      rw [List.getElem?_eq_none (by omega)]
      all_goals rfl
    | some v =>
      obtain ⟨en, hen, hv⟩ := it.2 j v (by rw [← Array.getElem?_toList]; exact hj)
      have qe := entry_at he j
      rw [hen] at qe
      cases hb : ks[j]? with
      | none =>
        rw [hb] at qe
        exact nomatch (show some en = none from qe)
      | some b =>
        rw [hb] at qe
        have e2 : en = entryOfKey (tupleKind (mixKind X.prog X.w)) b := Option.some.inj qe
        rw [hv, e2]
        all_goals rfl
  have ik : IsKeys H kvs (ks.map fun x => x.2.1) := isKeys_of pr
  have each : PySem.W.EachIs (fun (v : Value) (q : Int × Int) => ∃ b, v = .ref b ∧ H b = some (.tup ((kyOf q).map kV))) acc.toList ps := by
    rw [ea]
    have gen : ∀ {kvs : List (List L2.Key × V)} {bs : List Addr} {ps : List (Int × Int)}, IsKeys H kvs bs → kvs.map (·.1) = ps.map kyOf → PySem.W.EachIs (fun (v : Value) (q : Int × Int) => ∃ b, v = .ref b ∧ H b = some (.tup ((kyOf q).map kV))) (bs.map Value.ref) ps := by
      intro kvs bs ps hp
      unfold IsKeys at hp
      induction hp generalizing ps with
      | nil =>
        intro e
        cases ps with
        | nil => exact .nil
        | cons _ _ => cases e
      | cons h t ih =>
        intro e
        cases ps with
        | nil => cases e
        | cons q ps =>
          rw [List.map_cons, List.map_cons] at e
          injection e with e1 e2
          exact .cons ⟨_, rfl, by rw [← e1]; exact h⟩ (ih e2)
    have := gen (bs := ks.map fun x => x.2.1) ik hk
    rwa [List.map_map] at this
  have hnew : (h'.push (seqObj "list" acc.toList.toArray 0)).get? h'.objs.size = some (seqObj "list" acc.toList.toArray 0) := Heap.get?_push_size _ rfl
  have keep2 : ∀ b o, s.heap.get? b = some o → (h'.push (seqObj "list" acc.toList.toArray 0)).get? b = some o := fun b o e => Heap.get?_push_of_some _ (hkp b o e)
  have er : PySem.W.EachIs (fun v (q : Int × Int) => ∃ as, Reads (h'.push (seqObj "list" acc.toList.toArray 0)) v (pdOf q) as ∧ h'.objs.size ∉ as) acc.toList ps := each.mono fun v q ⟨b, hv, hb⟩ => by
    subst hv
    exact ⟨[], PyProof.Rows.Reads.keeps keep2 (reads_pd I hb), List.not_mem_nil⟩
  have I1 : L2.Inv X pins σ H { s with heap := h', toks := tk } := I.kept hkp
  refine PySem.W.list_sort_data (vs := acc.toList) (bs := ps) (enc := pdOf) (n := 0) hnew each er (alike_pds ps) (PySem.W.Sortable.tuples fun b => ⟨_, _, rfl⟩) (by omega) (fun b _ => ?_) fun out ho2 eo => ?_
  · show X.A.units + 1 + 1 + (pdOf b).depth < cLine
    have : (pdOf b).depth ≤ 2 := by simp [pdOf, PyData.depth, PyData.depthAll]
    omega
  · obtain ⟨c, hc2⟩ := sortedHeap_at (vs := acc.toList) (out := out.toArray) hnew
    obtain ⟨bs, hbs, eo2⟩ : ∃ bs : List Addr, out = bs.map Value.ref ∧ Paired (fun (q : Int × Int) b => H b = some (.tup ((kyOf q).map kV))) (ps.mergeSort (PySem.W.dataLe false pdOf)) bs := by
      have gen : ∀ {out : List Value} {qs : List (Int × Int)}, PySem.W.EachIs (fun (v : Value) (q : Int × Int) => ∃ b, v = .ref b ∧ H b = some (.tup ((kyOf q).map kV))) out qs → ∃ bs : List Addr, out = bs.map Value.ref ∧ Paired (fun (q : Int × Int) b => H b = some (.tup ((kyOf q).map kV))) qs bs := by
        intro out qs h
        induction h with
        | nil => exact ⟨[], rfl, .nil⟩
        | cons h t ih =>
          obtain ⟨b, hv, hb⟩ := h
          obtain ⟨bs, e, p⟩ := ih
          exact ⟨b :: bs, by rw [hv, e]; rfl, .cons hb p⟩
      exact gen eo
    have hlen : bs.length ≤ sizeLine := by
      have h9 := Paired.length eo2
      rw [List.length_mergeSort] at h9
      omega
    refine ⟨.ref h'.objs.size, upd H h'.objs.size (.lst (bs.map V.ref)), I1.laid (t' := tk) (fun b ob e => ?_) (Nat.le_refl _) ⟨by rw [List.length_map]; exact hlen, out, c, by rw [hbs]; exact vals_refs bs, hc2⟩, rfl, q _ _ (I1.hok.fresh (Nat.le_refl _)) eo2⟩
    have hne : b ≠ h'.objs.size := Nat.ne_of_lt (Heap.lt_size e)
    rw [sortedHeap_old hne (by rw [Heap.size_push]; exact Nat.lt_succ_of_lt (Heap.lt_size e))]
    exact Heap.get?_push_of_some _ e
def plTup (p : Int × Int) : D := .tup [.int p.1, .int p.2]
/-- sorted(dict), sorted(list) -/
noncomputable def sortedXD (ds : List D) (S : Store) : Res D := match ds with
  | [.loc l] => match S[l]? with
    | some (.dT kvs) => match plOf kvs with
      | some ps => .ok (.lst ((ps.mergeSort (PySem.W.dataLe false pdOf)).map plTup)) S
      | none => .stuck
    | _ => sortedD ds S
  | _ => sortedD ds S
theorem cd_sortX (hc : X.calm = true) (hu : X.A.units + 64 < cLine) : CallD X W (.builtin "sorted") sortedXD := by
  obtain ⟨R, hR, hf⟩ := cd_sorted (X := X) (W := W) hu
  refine ⟨_, hR.or (cr_sortT hc (by omega)), fun w H S ds vs σ Q A r P => ?_⟩
  unfold sortedXD at P
  split at P
  · rename_i l
    split at P
    · rename_i kvs h1
      split at P
      · rename_i ps h2
        obtain ⟨v, rfl, r1⟩ := reps1 r
        simp only [Rep] at r1
        obtain ⟨a, el, rfl⟩ := r1
        obtain ⟨u, eu, vs', rfl, rr⟩ := A.ob l a _ el h1
        refine .inr ⟨a, vs', ps, rfl, eu, (rkv_keys rr).trans (plOf_keys h2), fun p bs hp hb => P w _ _ (Ex.new hp) (A.newF hp) (Rep.lstNew A hp ?_)⟩
        have gen : ∀ {qs : List (Int × Int)} {bs : List Addr}, Paired (fun (q : Int × Int) b => H b = some (.tup ((kyOf q).map kV))) qs bs → Reps X.K w H (qs.map plTup) (bs.map V.ref) := by
          intro qs bs h
          induction h with
          | nil => exact .nil
          | cons h t ih =>
            obtain ⟨n1, n2⟩ := tup_notM A h
            refine .cons ?_ ih
            simp only [plTup, Rep]
            exact ⟨_, _, rfl, ⟨n1, n2, h⟩, .cons (of_int _) (.cons (of_int _) .nil)⟩
        exact gen hb
      · exact P.elim
    · exact .inl (hf w H S _ vs σ Q A r P)
  · exact .inl (hf w H S _ vs σ Q A r P)
/-- list(dict) -/
def listXD (mu : Bool) (ds : List D) (S : Store) : Res D := match ds with
  | [.loc l] => match S[l]? with
    | some (.dT kvs) => if mu = true then .ok (.loc S.length) (S ++ [.lst (kvs.map fun kv => keysD kv.1)]) else .ok (.lst (kvs.map fun kv => keysD kv.1)) S
    | _ => listD mu ds S
  | _ => listD mu ds S
theorem cd_listX (hc : X.calm = true) (mu : Bool) : CallD X W (.type "list") (listXD mu) := by
  obtain ⟨R, hR, hf⟩ := cd_list (X := X) (W := W) hc mu
  refine ⟨_, hR.or (call_list_dT hc), fun w H S ds vs σ Q A r P => ?_⟩
  unfold listXD at P
  split at P
  · rename_i l
    split at P
    · rename_i kvs h1
      obtain ⟨v, rfl, r1⟩ := reps1 r
      simp only [Rep] at r1
      obtain ⟨a, el, rfl⟩ := r1
      obtain ⟨u, eu, vs', rfl, rr⟩ := A.ob l a _ el h1
      refine .inr ⟨a, vs', rfl, .inl eu, fun p bs hp hb => ?_⟩
      have gen : ∀ {kvs : List (List L2.Key × D)} {vs' : List (List L2.Key × V)} {bs : List Addr}, RKv X.K w H kvs vs' → IsKeys H vs' bs → Reps X.K w H (kvs.map fun kv => keysD kv.1) (bs.map V.ref) := by
        intro kvs
        induction kvs with
        | nil =>
          intro vs' bs h1 h2
          simp only [RKv] at h1
          subst h1
          cases h2
          exact .nil
        | cons kv kvs ih =>
          intro vs' bs h1 h2
          obtain ⟨k, d⟩ := kv
          simp only [RKv] at h1
          obtain ⟨v, us, rfl, h3, h4⟩ := h1
          cases h2 with
          | cons h5 h6 =>
            obtain ⟨n1, n2⟩ := tup_notM A h5
            refine .cons ?_ (ih h4 h6)
            simp only [keysD, Rep]
            exact ⟨_, _, rfl, ⟨n1, n2, h5⟩, keysD_reps k⟩
      exact newL A (gen rr hb) P p hp
    · exact .inl (hf w H S _ vs σ Q A r P)
  · exact .inl (hf w H S _ vs σ Q A r P)
end
end L3
namespace L3
open PySem PySem.Spec PyProof.Rows L2
/-! ### defs that may raise -/
def spDX (K : PySem.W.Frag) (mg : Str → Option Value) (n : Nat) (den : List D → Store → Res D) : Sp := fun vs H Q E => ∃ w ds S, Ab K w H mg S ∧ Reps K w H ds vs ∧ ds.length = n ∧
  (match den ds S with
  | .ok d S' => ∀ w' H' v, Ex w H w' H' → Ab K w' H' mg S' → Rep K w' H' d v → Q v H'
  | .exc c fs S' => ∀ w' H' C od, Ex w H w' H' → Ab K w' H' mg S' → mg c = some (.ref C) → XRel K w' H' fs od → E (.ref C) od H'
  | .stuck => False)
section
variable {P : Program} {w : World} {K : PySem.W.Frag} {mg : Str → Option Value} {base : Heap}
theorem fn_denX {x qual : Str} {st : Stmt} {f : Addr} {fd : FuncData} {N ps : List Str} {k : Nat} {m : DSt → Store → Res Fl} (F : Fun K x qual st f fd) (S : FnScope N ps (defScope st))
    (hbody : ∀ (cdv : Value) (A : Around) (outer : List Env) (s : Shared) (H : Hp) (E : XK), Room k (A.deeper (PyProof.Rows.envOfC qual (defScope st) s.heap.objs.size f cdv)) →
      PMSs (cxOf (L2.CX P w) P w K mg base N qual (defScope st) f cdv A outer s H E) (fun cls d _ H' => E cls d H') (defBody st) m) : FnOk P w K mg base (L2.CX P w) (k + 1) f fd ps (spDX K mg ps.length (denOf N.length m)) := by
  refine F.okX S (fun vs H Q E h => ?_) (fun cdv A outer s H vs Q E hr h => ⟨_, hbody cdv A outer s H E hr, ?_⟩)
  · obtain ⟨w, ds, S, A, r, hl, _⟩ := h
    rw [← r.length]; exact hl
  · obtain ⟨w, ds, S, A, r, hl, P⟩ := h
    refine ⟨w, _, S, A, start_rep r N, ?_⟩
    unfold denOf at P
    split at P
    · rename_i d S' hd
      split at hd
      · rename_i d' S'' hm
        cases hd
        rw [hm]
        exact P
      · rename_i σ' S'' hm
        cases hd
        rw [hm]
        exact fun w' H' σ2 e A' R => P w' H' _ e A' of_non
      · cases hd
      · cases hd
    · rename_i c fs S' hd
      split at hd
      · cases hd
      · cases hd
      · rename_i c' fs' σ' S'' hm
        cases hd
        rw [hm]
        exact fun w' H' σ2 C od e A' R g x => P w' H' C od e A' g x
      · cases hd
    · exact P.elim
end
open Classical in
/-- what a call that raises has made and left behind may be forgotten, too -/
noncomputable def gcX (den : List D → Store → Res D) (ds : List D) (S : Store) : Res D := match den ds S with
  | .exc c fs S' => if fs = [] ∧ Kept S S' then .exc c [] (S'.take S.length) else .exc c fs S'
  | .ok _ _ => gcD den ds S
  | .stuck => .stuck
theorem spDX_gc {K : PySem.W.Frag} {mg : Str → Option Value} {n : Nat} {den : List D → Store → Res D} {vs : List V} {H : Hp} {Q : VK} {E : XK} (h : spDX K mg n (gcX den) vs H Q E) : spDX K mg n den vs H Q E := by
  obtain ⟨w, ds, S, A, r, hl, P⟩ := h
  unfold gcX at P
  cases hd : den ds S with
  | stuck => rw [hd] at P; exact P.elim
  | ok d S' =>
    rw [hd] at P
    simp only at P
    have key : spD K mg n (gcD den) vs H Q E := ⟨w, ds, S, A, r, hl, by
      cases hg : gcD den ds S with
      | ok d2 S2 => rw [hg] at P; exact P
      | exc c fs S2 =>
        unfold gcD at hg
        rw [hd] at hg
        simp only at hg
        split at hg <;> cases hg
      | stuck => rw [hg] at P; exact P⟩
    obtain ⟨w', ds', S'', A', r', hl', P'⟩ := spD_gc key
    refine ⟨w', ds', S'', A', r', hl', ?_⟩
    cases hd2 : den ds' S'' with
    | ok d2 S2 => rw [hd2] at P'; exact P'
    | exc c fs S2 => rw [hd2] at P'; exact P'.elim
    | stuck => rw [hd2] at P'; exact P'
  | exc c fs S' =>
    rw [hd] at P
    refine ⟨w, ds, S, A, r, hl, ?_⟩
    rw [hd]
    simp only at P ⊢
    by_cases hc : fs = [] ∧ Kept S S'
    · rw [if_pos hc] at P
      obtain ⟨rfl, hk⟩ := hc
      intro w' H' C od e A' g x
      obtain ⟨e2, A2⟩ := A.cut A' e hk
      refine P w H' C od e2 A2 g ?_
      cases od with
      | none => exact x
      | some d => exact absurd rfl x.1
    · rw [if_neg hc] at P
      exact P
theorem fn_gcX {P : Program} {w : World} {K : PySem.W.Frag} {mg : Str → Option Value} {base : Heap} {k : Nat} {f : Addr} {fd : FuncData} {ps : List Str} {n : Nat} {den : List D → Store → Res D} (F : FnOk P w K mg base (L2.CX P w) k f fd ps (spDX K mg n den)) : FnOk P w K mg base (L2.CX P w) k f fd ps (spDX K mg n (gcX den)) :=
  F.imp fun _ _ _ _ h => spDX_gc h
theorem gcX_ok {den : List D → Store → Res D} {ds : List D} {S S2 : Store} {d : D} {S' : Store} (h : den ds S = .ok d S') (h2 : gcD den ds S = .ok d S2) : gcX den ds S = .ok d S2 := by
  unfold gcX
  rw [h]
  exact h2
theorem gcX_of {den : List D → Store → Res D} {ds : List D} {S : Store} {P : D → Store → Prop} (h : ∃ d S2, gcD den ds S = .ok d S2 ∧ P d S2) : ∃ d S2, gcX den ds S = .ok d S2 ∧ P d S2 := by
  obtain ⟨d, S2, e, p⟩ := h
  refine ⟨d, S2, ?_, p⟩
  unfold gcX
  cases hd : den ds S with
  | ok d' S' => exact e
  | exc c fs S' => unfold gcD at e; rw [hd] at e; cases e
  | stuck => unfold gcD at e; rw [hd] at e; cases e
theorem gcX_exc {den : List D → Store → Res D} {ds : List D} {S g : Store} {c : Str} (h : den ds S = .exc c [] (S ++ g)) : gcX den ds S = .exc c [] S := by
  unfold gcX
  rw [h]
  simp only
  rw [if_pos ⟨rfl, by simp, fun i hi => .inl (List.getElem?_append_left hi)⟩, List.take_left]
/-! ### calls of such defs -/
section
variable {X : Cx} {W : XW} {k n : Nat} {f : Addr} {fd : FuncData} {ps : List Str} {den : List D → Store → Res D} {x m : Str} {p pos apos : Pos} {e o : Expr} {es : List Expr}
def mCallX (n : Nat) (den : List D → Store → Res D) (ms : DSt → Store → Res (List D)) (σ : DSt) (S : Store) : Res D := (ms σ S).bind fun ds S1 => if ds.length = n then den ds S1 else .stuck
theorem callPX {σ : L2.St} {w : Wd} {H : Hp} {S : Store} {ds : List D} {vs : List V} {Q : VK} (A : Ab X.K w H X.mg S) (r : Reps X.K w H ds vs) (P : Post X.K X.mg (Rep X.K) W σ w H (if ds.length = n then den ds S else .stuck) Q) : spDX X.K X.mg n den vs H Q (WE W σ) := by
  split at P
  · rename_i hl
    refine ⟨w, ds, S, A, r, hl, ?_⟩
    cases hd : den ds S with
    | ok d S2 => rw [hd] at P; exact P
    | exc c fs S2 => rw [hd] at P; exact P
    | stuck => rw [hd] at P; exact P.elim
  · exact P.elim
theorem pm_callX {ms : DSt → Store → Res (List D)} (tk : Takes X W) (F : FnOk X.prog X.w X.K X.mg X.base (L2.CX X.prog X.w) k f fd ps (spDX X.K X.mg n den)) (hr : Room k X.A) (hg : Gl X x) (hm : X.mg x = some (.ref f)) (hk : PySem.W.keepIn X.K (.ref f) = true) (hb : Binds X.K fd ps [])
    (ha : PMA X W (e :: es) ms) (hdb : (x == ("__debug__" : Str)) = false := by decide) (he : starEach (e :: es) X.env = (false, eval e X.env) :: starEach es X.env := by rfl) (hpl : (backTo pos (starEach es X.env)).any (·.1) = false := by rfl) :
    PM X W (.Call (.Name x p) (e :: es) [] pos) (mCallX n den ms) :=
  PE.imp (pe_callS F hr hg hm hk hb (fun σ => passAt tk σ) ha hdb he hpl) fun σ H Q ⟨w, dσ, S, A, R, P⟩ => ⟨w, dσ, S, A, R, P.bind fun ds S1 w1 H1 vs e1 A1 r1 P1 => callPX A1 r1 P1⟩
def tMethS (C : Addr) (m : Str) (sp : Sp) (E : L2.St → XK) (ta : TE) (t : TA) : TE := fun σ H Q => ta σ H fun x H1 => ∃ (a dx : Addr) (fs : List (Str × V)), x = .ref a ∧ H1 a = some (.ins C dx fs) ∧ fs.lookup m = none ∧ t σ H1 fun vs H2 => sp (.ref a :: vs) H2 Q (E σ)
theorem pe_methSX {CX : CXT} {sp : Sp} {E : L2.St → XK} {C : Addr} {ta : TE} {t : TA} {pl : Sem Bool} (he : PE X o ta) (c : Cls X.K C) (hm : Meth X.K C m f) (F : FnOk X.prog X.w X.K X.mg X.base CX k f fd ps sp) (hr : Room k X.A) (hb : Binds X.K fd ps []) (hx : ∀ σ, PassesAt CX X σ (E σ)) (ha : PA X (e :: es) t)
    (hst : starEach (e :: es) X.env = (false, eval e X.env) :: starEach es X.env := by rfl) (hpl : (backTo pos (starEach es X.env)).any (·.1) = false := by rfl)
    (ht : eval (.Call (.Attribute o m apos) (e :: es) [] pos) X.env = (do
      let ov ← eval o X.env
      standAt apos.atName
      let (f, first) ← holding [ov] (getMethod ov m pl)
      callWith pos f first (backTo pos (starEach (e :: es) X.env)) (backToKw pos (keywordEach [] X.env))) := by rfl) :
    PE X (.Call (.Attribute o m apos) (e :: es) [] pos) (tMethS C m sp E ta t) := by
  refine ⟨fun pins s σ H Q I h => ?_⟩
  refine PySem.W.methodCall_KW (pl := pl) (thn (he.run pins s σ H _ I h) fun u s1 ⟨x, H1, I1, rx, a, dx, fs, ex, ea, l, q⟩ => ?_) ht
  subst ex
  obtain rfl : u = Value.ref a := rx
  refine getmeth_ok I1 ea c hm l ?_
  refine PySem.W.callWith_K (first := [.ref a]) (h₀ := X.base) I.ok.mod.kin hm.kp (thn (ha.run pos pins s1 σ H1 _ I1 q) fun us s2 ⟨vs, H2, I2, r, q2⟩ => ⟨I2.kIn, ?_⟩) hst hpl
  exact run_fnS (us := .ref a :: us) (vs := .ref a :: vs) F hr hb (hx σ) I2 (.cons rfl r) q2
theorem pe_methSX0 {CX : CXT} {sp : Sp} {E : L2.St → XK} {C : Addr} {ta : TE} {pl : Sem Bool} (he : PE X o ta) (c : Cls X.K C) (hm : Meth X.K C m f) (F : FnOk X.prog X.w X.K X.mg X.base CX k f fd ps sp) (hr : Room k X.A) (hb : Binds X.K fd ps []) (hx : ∀ σ, PassesAt CX X σ (E σ))
    (ht : eval (.Call (.Attribute o m apos) [] [] pos) X.env = (do
      let ov ← eval o X.env
      standAt apos.atName
      let (f, first) ← holding [ov] (getMethod ov m pl)
      callWith pos f first (backTo pos (starEach [] X.env)) (backToKw pos (keywordEach [] X.env))) := by rfl) :
    PE X (.Call (.Attribute o m apos) [] [] pos) (tMethS C m sp E ta tNil) := by
  refine ⟨fun pins s σ H Q I h => ?_⟩
  refine PySem.W.methodCall_KW (pl := pl) (thn (he.run pins s σ H _ I h) fun u s1 ⟨x, H1, I1, rx, a, dx, fs, ex, ea, l, q⟩ => ?_) ht
  subst ex
  obtain rfl : u = Value.ref a := rx
  refine getmeth_ok I1 ea c hm l ?_
  exact PySem.W.callWith_K0 (first := [.ref a]) I1.kIn hm.kp (run_fnS (us := [.ref a]) (vs := [.ref a]) F hr hb (hx σ) I1 (.cons rfl .nil) q)
def mMethX (n : Nat) (C m : Str) (den : List D → Store → Res D) (mo : DSt → Store → Res D) (ms : DSt → Store → Res (List D)) (σ : DSt) (S : Store) : Res D := (mo σ S).bind fun o S1 => match insOf S1 o with
  | some (C', fs) => if C' = C ∧ fs.lookup m = none then (ms σ S1).bind fun ds S2 => if ds.length + 1 = n then den (o :: ds) S2 else .stuck else .stuck
  | none => .stuck
theorem pm_methX {pl : Sem Bool} {C : Addr} {c : Str} {mo : DSt → Store → Res D} {ms : DSt → Store → Res (List D)} (tk : Takes X W) (ho : PM X W o mo) (hmc : X.mg c = some (.ref C)) (cl : Cls X.K C) (hm : Meth X.K C m f) (F : FnOk X.prog X.w X.K X.mg X.base (L2.CX X.prog X.w) k f fd ps (spDX X.K X.mg n den)) (hr : Room k X.A) (hb : Binds X.K fd ps []) (ha : PMA X W (e :: es) ms)
    (hst : starEach (e :: es) X.env = (false, eval e X.env) :: starEach es X.env := by rfl) (hpl : (backTo pos (starEach es X.env)).any (·.1) = false := by rfl)
    (ht : eval (.Call (.Attribute o m apos) (e :: es) [] pos) X.env = (do
      let ov ← eval o X.env
      standAt apos.atName
      let (f, first) ← holding [ov] (getMethod ov m pl)
      callWith pos f first (backTo pos (starEach (e :: es) X.env)) (backToKw pos (keywordEach [] X.env))) := by rfl) :
    PM X W (.Call (.Attribute o m apos) (e :: es) [] pos) (mMethX n c m den mo ms) :=
  PE.imp (pe_methSX ho cl hm F hr hb (fun σ => passAt tk σ) ha hst hpl ht) fun σ H Q ⟨w, dσ, S, A, R, P⟩ => ⟨w, dσ, S, A, R, P.bind fun od S1 w1 H1 v e1 A1 r1 P1 => by
    split at P1
    · rename_i C' fs hi
      split at P1
      · rename_i hc
        obtain ⟨l, a, A', dx, vs, rfl, el, q, rfl, hm', eu, r'⟩ := ins_rep A1 hi r1
        rw [hc.1, hmc] at hm'
        cases hm'
        refine ⟨a, dx, vs, rfl, eu, (lookup_rep m r').2 hc.2, w1, dσ, S1, A1, R.mono e1, P1.bind fun ds S2 w2 H2 us e2 A2 r2 P2 => ?_⟩
        split at P2
        · rename_i hl
          exact callPX A2 (.cons (r1.mono e2) r2) (by rw [if_pos (by simpa using hl)]; exact P2)
        · exact P2.elim
      · exact P1.elim
    · exact P1.elim⟩
theorem pm_methX0 {pl : Sem Bool} {C : Addr} {c : Str} {mo : DSt → Store → Res D} (tk : Takes X W) (ho : PM X W o mo) (hmc : X.mg c = some (.ref C)) (cl : Cls X.K C) (hm : Meth X.K C m f) (F : FnOk X.prog X.w X.K X.mg X.base (L2.CX X.prog X.w) k f fd ps (spDX X.K X.mg n den)) (hr : Room k X.A) (hb : Binds X.K fd ps [])
    (ht : eval (.Call (.Attribute o m apos) [] [] pos) X.env = (do
      let ov ← eval o X.env
      standAt apos.atName
      let (f, first) ← holding [ov] (getMethod ov m pl)
      callWith pos f first (backTo pos (starEach [] X.env)) (backToKw pos (keywordEach [] X.env))) := by rfl) :
    PM X W (.Call (.Attribute o m apos) [] [] pos) (mMethX n c m den mo mNil) :=
  PE.imp (pe_methSX0 ho cl hm F hr hb (fun σ => passAt tk σ) ht) fun σ H Q ⟨w, dσ, S, A, R, P⟩ => ⟨w, dσ, S, A, R, P.bind fun od S1 w1 H1 v e1 A1 r1 P1 => by
    split at P1
    · rename_i C' fs hi
      split at P1
      · rename_i hc
        obtain ⟨l, a, A', dx, vs, rfl, el, q, rfl, hm', eu, r'⟩ := ins_rep A1 hi r1
        rw [hc.1, hmc] at hm'
        cases hm'
        refine ⟨a, dx, vs, rfl, eu, (lookup_rep m r').2 hc.2, ?_⟩
        have P2 : Post X.K X.mg (Rep X.K) W σ w1 H1 (if ([] : List D).length + 1 = n then den (.loc l :: []) S1 else .stuck) Q := P1
        split at P2
        · rename_i hl
          exact callPX (ds := [.loc l]) A1 (.cons r1 .nil) (by rw [if_pos (by simpa using hl)]; exact P2)
        · exact P2.elim
      · exact P1.elim
    · exact P1.elim⟩
/-! ### a call of such a def, where it does not raise -/
theorem callPN {σ : L2.St} {w : Wd} {H : Hp} {S : Store} {ds : List D} {vs : List V} {Q : VK} (A : Ab X.K w H X.mg S) (r : Reps X.K w H ds vs) (P : Post X.K X.mg (Rep X.K) W σ w H (if ds.length = n then noX (den ds S) else .stuck) Q) : spDX X.K X.mg n den vs H Q E0 := by
  split at P
  · rename_i hl
    refine ⟨w, ds, S, A, r, hl, ?_⟩
    cases hd : den ds S with
    | ok d S2 => rw [hd] at P; exact P
    | exc c fs S2 => rw [hd] at P; exact P.elim
    | stuck => rw [hd] at P; exact P.elim
  · exact P.elim
theorem pm_callN {ms : DSt → Store → Res (List D)} (F : FnOk X.prog X.w X.K X.mg X.base (L2.CX X.prog X.w) k f fd ps (spDX X.K X.mg n den)) (hr : Room k X.A) (hg : Gl X x) (hm : X.mg x = some (.ref f)) (hk : PySem.W.keepIn X.K (.ref f) = true) (hb : Binds X.K fd ps [])
    (ha : PMA X W (e :: es) ms) (hdb : (x == ("__debug__" : Str)) = false := by decide) (he : starEach (e :: es) X.env = (false, eval e X.env) :: starEach es X.env := by rfl) (hpl : (backTo pos (starEach es X.env)).any (·.1) = false := by rfl) :
    PM X W (.Call (.Name x p) (e :: es) [] pos) (mCall n den ms) :=
  PE.imp (pe_call F hr hg hm hk hb .nil passL ha hdb he hpl) fun σ H Q ⟨w, dσ, S, A, R, P⟩ => ⟨w, dσ, S, A, R, P.bind fun ds S1 w1 H1 vs e1 A1 r1 P1 => by
    rw [List.append_nil]
    exact callPN A1 r1 P1⟩
theorem pm_methN {pl : Sem Bool} {C : Addr} {c : Str} {mo : DSt → Store → Res D} {ms : DSt → Store → Res (List D)} (ho : PM X W o mo) (hmc : X.mg c = some (.ref C)) (cl : Cls X.K C) (hm : Meth X.K C m f) (F : FnOk X.prog X.w X.K X.mg X.base (L2.CX X.prog X.w) k f fd ps (spDX X.K X.mg n den)) (hr : Room k X.A) (hb : Binds X.K fd ps []) (ha : PMA X W (e :: es) ms)
    (hst : starEach (e :: es) X.env = (false, eval e X.env) :: starEach es X.env := by rfl) (hpl : (backTo pos (starEach es X.env)).any (·.1) = false := by rfl)
    (ht : eval (.Call (.Attribute o m apos) (e :: es) [] pos) X.env = (do
      let ov ← eval o X.env
      standAt apos.atName
      let (f, first) ← holding [ov] (getMethod ov m pl)
      callWith pos f first (backTo pos (starEach (e :: es) X.env)) (backToKw pos (keywordEach [] X.env))) := by rfl) :
    PM X W (.Call (.Attribute o m apos) (e :: es) [] pos) (mMeth n c m den mo ms) :=
  PE.imp (pe_meth ho cl hm F hr hb .nil passL ha hst hpl ht) fun σ H Q ⟨w, dσ, S, A, R, P⟩ => ⟨w, dσ, S, A, R, P.bind fun od S1 w1 H1 v e1 A1 r1 P1 => by
    split at P1
    · rename_i C' fs hi
      split at P1
      · rename_i hc
        obtain ⟨l, a, A', dx, vs, rfl, el, q, rfl, hm', eu, r'⟩ := ins_rep A1 hi r1
        rw [hc.1, hmc] at hm'
        cases hm'
        refine ⟨a, dx, vs, rfl, eu, (lookup_rep m r').2 hc.2, w1, dσ, S1, A1, R.mono e1, P1.bind fun ds S2 w2 H2 us e2 A2 r2 P2 => ?_⟩
        rw [List.append_nil]
        split at P2
        · rename_i hl
          exact callPN (W := W) (σ := σ) A2 (.cons (r1.mono e2) r2) (by rw [if_pos (by simpa using hl)]; exact P2)
        · exact P2.elim
      · exact P1.elim
    · exact P1.elim⟩
theorem pm_methN0 {pl : Sem Bool} {C : Addr} {c : Str} {mo : DSt → Store → Res D} (ho : PM X W o mo) (hmc : X.mg c = some (.ref C)) (cl : Cls X.K C) (hm : Meth X.K C m f) (F : FnOk X.prog X.w X.K X.mg X.base (L2.CX X.prog X.w) k f fd ps (spDX X.K X.mg n den)) (hr : Room k X.A) (hb : Binds X.K fd ps [])
    (ht : eval (.Call (.Attribute o m apos) [] [] pos) X.env = (do
      let ov ← eval o X.env
      standAt apos.atName
      let (f, first) ← holding [ov] (getMethod ov m pl)
      callWith pos f first (backTo pos (starEach [] X.env)) (backToKw pos (keywordEach [] X.env))) := by rfl) :
    PM X W (.Call (.Attribute o m apos) [] [] pos) (mMeth n c m den mo mNil) :=
  PE.imp (pe_meth0 ho cl hm F hr hb .nil passL ht) fun σ H Q ⟨w, dσ, S, A, R, P⟩ => ⟨w, dσ, S, A, R, P.bind fun od S1 w1 H1 v e1 A1 r1 P1 => by
    split at P1
    · rename_i C' fs hi
      split at P1
      · rename_i hc
        obtain ⟨l, a, A', dx, vs, rfl, el, q, rfl, hm', eu, r'⟩ := ins_rep A1 hi r1
        rw [hc.1, hmc] at hm'
        cases hm'
        refine ⟨a, dx, vs, rfl, eu, (lookup_rep m r').2 hc.2, ?_⟩
        have P2 : Post X.K X.mg (Rep X.K) W σ w1 H1 (if ([] : List D).length + 1 = n then noX (den (.loc l :: []) S1) else .stuck) Q := P1
        show spDX X.K X.mg n den ([.ref a] ++ []) H1 Q E0
        rw [List.append_nil]
        split at P2
        · rename_i hl
          exact callPN (W := W) (σ := σ) (ds := [.loc l]) A1 (.cons r1 .nil) (by rw [if_pos (by simpa using hl)]; exact P2)
        · exact P2.elim
      · exact P1.elim
    · exact P1.elim⟩
/-! ### raise -/
theorem pmk_own0 {C : Addr} {bmB : List Value} {B newId initId : String} (F : ExcBaseFacts B newId initId bmB) (q : PySem.W.excIn X.K C bmB newId = true) (gC : X.mg x = some (.ref C)) (kC : PySem.W.keepIn X.K (.ref C) = true) (r : Raises X (.ref C)) (hg : Gl X x)
    (hdb : (x == ("__debug__" : Str)) = false := by decide) : PMk X (.Call (.Name x p) [] [] pos) (fun _ H Q => Q (.ref C) none H) := by
  intro pins s σ H Q I h
  refine wpAny_Call_Name_kw (ld_glob I hg gC ?_ hdb)
  refine PySem.W.callWith_K0 I.kIn kC ?_
  show wpAny _ _ (call (.ref C) []) _ _ _
  obtain ⟨bm, N, nm, qn, bs, hdct, sn, sub, ab, col, dd, k0, k1, k2, k3, k5, mN, hC, hN, hni, T⟩ := exc_obj I.kIn q
  refine wpAny_call_exc_subT F T hC hN hni (fun h' e hm => ?_) (by show 0 ≤ sizeLine; omega)
  exact mk_of I hm r h (I.hok.gone hm.new)
/-- what the module says of an own exception class without an __init__ -/
structure ExcT (K : PySem.W.Frag) (C : Addr) : Prop where
  ex : PySem.W.excIn K C [.type "ValueError", .type "Exception", .type "BaseException", .type "object"] "ValueError.__new__" = true
  kp : PySem.W.keepIn K (.ref C) = true
  bs : PySem.W.subIn K (.ref C) (.type "BaseException") = some true
  ty : PySem.W.typeIn K (.ref C) = some (.type "type")
  ic : ExcC K C
def mRaise (c : Str) (σ : DSt) (S : Store) : Res Fl := .ok (.ex c [] σ) S
theorem pms_raise {C : Addr} {pos' : Pos} (hc : X.calm = true) (tk : Takes X W) (T : ExcT X.K C) (gC : X.mg x = some (.ref C)) (hg : Gl X x) (hdb : (x == ("__debug__" : Str)) = false := by decide) : PMS X W (.Raise (some (.Call (.Name x p) [] [] pos)) none pos') (mRaise x) :=
  PS.imp (ps_raise hc tk (pmk_own0 PySem.F.excBase_ValueError T.ex gC T.kp (raises_own T.bs T.ty) hg hdb)) fun D σ H ⟨w, dσ, S, A, R, P⟩ => P w H σ C none (Ex.refl _ _) A R gC rfl
/-! ### try .. except X as n -/
/-- behind the suite the name is gone -/
def finT (i : Nat) : Res Fl → Res Fl
  | .ok (.nx σ2) S2 => .ok (.nx (σ2.set i none)) S2
  | .ok (.rt d) S2 => .ok (.rt d) S2
  | _ => .stuck
open Classical in
/-- whatever the exception's address is -/
noncomputable def suiteT (i : Nat) (m : Nat → DSt → Store → Res Fl) (σ : DSt) (S : Store) : Res Fl := if h : ∃ r, ∀ a, finT i (m a (σ.set i (some (.exn a))) S) = r then h.choose else .stuck
theorem suiteT_of {i : Nat} {m : Nat → DSt → Store → Res Fl} {σ : DSt} {S : Store} {r : Res Fl} (h : ∀ a, finT i (m a (σ.set i (some (.exn a))) S) = r) : suiteT i m σ S = r := by
  unfold suiteT
  have hx : ∃ r, ∀ a, finT i (m a (σ.set i (some (.exn a))) S) = r := ⟨r, h⟩
  rw [dif_pos hx]
  exact (hx.choose_spec 0).symm.trans (h 0)
noncomputable def mTry (l : List (Str × (Nat → DSt → Store → Res Fl))) (i : Nat) (mb : DSt → Store → Res Fl) (σ : DSt) (S : Store) : Res Fl := match mb σ S with
  | .ok (.ex c fs σ1) S1 => if fs = [] then (match l.lookup c with
    | some m => suiteT i m σ1 S1
    | none => .stuck) else .stuck
  | r => r
theorem lookup_mem {α : Type} {c : Str} {m : α} : ∀ {l : List (Str × α)}, l.lookup c = some m → (c, m) ∈ l
  | [], h => by cases h
  | (d, x) :: l, h => by
    rw [List.lookup_cons] at h
    split at h
    · rename_i hc
      cases h
      rw [eq_of_beq hc]
      exact List.mem_cons_self
    · exact List.mem_cons_of_mem _ (lookup_mem h)
theorem RSt.wipe1 {K : PySem.W.Frag} {w : Wd} {H : Hp} {dσ : DSt} {σ : L2.St} (h : RSt K w H dσ σ) (i : Nat) (v : Option V) : RSt K w H (dσ.set i none) (σ.set i v) := by
  refine ⟨by simpa using h.1, fun j e hj => ?_⟩
  by_cases z : i = j
  · subst z
    by_cases hl : i < dσ.length
    · rw [List.getElem?_set_self hl] at hj
      cases hj
    · rw [List.getElem?_eq_none (by simpa using hl)] at hj
      cases hj
  · rw [List.getElem?_set_ne z] at hj ⊢
    exact h.2 j e hj
theorem of_exn {K : PySem.W.Frag} {w : Wd} {H : Hp} (a : Nat) : Rep K w H (.exn a) (.ref a) := by simp only [Rep]
theorem pms_try {i : Nat} {n : Str} {c : Value} {np pos' : Pos} {l : List (Str × (Nat → DSt → Store → Res Fl))} {body suite : List Stmt} {b₀ : Stmt} {mb : DSt → Store → Res Fl} (hs : X.stack = X.env :: X.outer) (hf : X.env.frame = some X.env.locals) (hN : X.N.Nodup) (hi : X.N[i]? = some n) (hln : X.env.kindOf n = some .local) (hc : Names X x c)
    (hb : ∀ (W : WX) (pn : List (Addr × Obj)) (xe : Value → Shared → Prop), Takes (X.tr pn xe) W → PMSs (X.tr pn xe) W body mb)
    (hsu : ∀ y ∈ l, ∃ D, X.mg y.1 = some (.ref D) ∧ PySem.W.exmOne X.K (.ref D) c = some true ∧ ∀ (a : Addr) (oe : Obj) (pn : List (Addr × Obj)), Zc (.ref D) none oe → (∃ vs, oe.data = .fields vs) → PMSs (X.suite a ((a, oe) :: pn)) W0 (b₀ :: suite) (y.2 a)) :
    PMS X W (.Try body [.ExceptHandler (some (.Name x np)) (some n) (b₀ :: suite) pos'] [] [] pos) (mTry l i mb) := by
  have key := ps_try_as (i := i) (x := x) (n := n) (c := c) (np := np) (pos := pos) (pos' := pos') (body := body) (suite := suite) (b₀ := b₀) (Wout := W0) (tb := fun W => tOfS X.K X.mg W mb)
    (ts := fun a cls d D σ H => ∃ y, y ∈ l ∧ ∃ Da, cls = .ref Da ∧ X.mg y.1 = some (.ref Da) ∧ d = none ∧ tOfS X.K X.mg W0 (y.2 a) D σ H) hs hf hN hi hln hc takes0 (fun W pn xe tk _ => hb W pn xe tk) (fun a oe cls d pn hz hfd => ⟨fun pins s σ H D I h => by
      obtain ⟨y, hy, Da, rfl, hm, rfl, h⟩ := h
      obtain ⟨D', hD, _, hp⟩ := hsu y hy
      rw [hD] at hm
      cases hm
      exact (hp a oe pn hz hfd).run pins s σ H D I h⟩)
  refine PS.imp key fun D σ H ⟨w, dσ, S, A, R, P⟩ => ⟨w, dσ, S, A, R, ?_⟩
  unfold mTry at P
  cases hm : mb dσ S with
  | stuck => rw [hm] at P; exact P.elim
  | exc c' fs S' => rw [hm] at P; exact P.elim
  | ok fl S1 =>
    cases fl with
    | nx d => rw [hm] at P; exact P
    | bk d => rw [hm] at P; exact P
    | ct d => rw [hm] at P; exact P
    | rt d => rw [hm] at P; exact P
    | ex c' fs σ1 =>
      rw [hm] at P
      simp only at P
      split at P
      · rename_i hcc
        subst hcc
        split at P
        · rename_i m hlk
          have hmem := lookup_mem hlk
          intro w' H' σ' C od e A' R' g xr
          obtain ⟨Dc, hD, hex, _⟩ := hsu _ hmem
          rw [hD] at g
          cases g
          have hod : od = none := by
            cases od with
            | none => rfl
            | some d => exact absurd rfl xr.1
          subst hod
          unfold suiteT at P
          split at P
          · rename_i hx
            refine ⟨true, hex, fun _ a ha => ⟨_, hmem, _, rfl, hD, rfl, w', σ1.set i (some (.exn a)), S1, A', R'.set (of_exn a) i, ?_⟩, fun z => by cases z⟩
            have hr := hx.choose_spec a
            rw [← hr] at P
            cases hs2 : m a (σ1.set i (some (.exn a))) S1 with
            | stuck => rw [hs2] at P; exact P.elim
            | exc c2 fs2 S2 => rw [hs2] at P; exact P.elim
            | ok fl2 S2 =>
              show PostS X.K X.mg W0 w' H' (m a (σ1.set i (some (.exn a))) S1) _
              rw [hs2]
              cases fl2 with
              | nx σ2 =>
                rw [hs2] at P
                exact fun w2 H2 σ3 e2 A2 R2 => P w2 H2 _ (e.trans e2) A2 (R2.wipe1 i none)
              | rt d =>
                rw [hs2] at P
                exact fun w2 H2 v e2 A2 r2 => P w2 H2 v (e.trans e2) A2 r2
              | bk d => rw [hs2] at P; exact P.elim
              | ct d => rw [hs2] at P; exact P.elim
              | ex _ _ _ => rw [hs2] at P; exact P.elim
          · exact P.elim
        · exact P.elim
      · exact P.elim
/-! ### isinstance of the exception in hand -/
def mIsE (i a : Nat) (b : Bool) (σ : DSt) (S : Store) : Res D := match σ[i]? with
  | some (some (.exn a')) => if a' = a then .ok (.bl b) S else .stuck
  | _ => .stuck
theorem mIsE_of {i a : Nat} {b : Bool} {σ : DSt} {S : Store} (h : σ[i]? = some (some (.exn a))) : mIsE i a b σ S = .ok (.bl b) S := by
  simp only [mIsE, h, if_pos]
end
section
variable {X : Cx} {W : XW} {D a : Addr} {oe : Obj} {pn : List (Addr × Obj)} {i : Nat} {n tn : Str} {p p1 p2 pos : Pos} {b : Bool} {cv : Value}
def tCs (vs : List V) : TA := fun _ H Q => Q vs H
theorem pac_nil {X : Cx} : PA X [] (tCs []) := pa_nil
theorem pac_cons {X : Cx} {e : Expr} {es : List Expr} {c : V} {cs : List V} (he : PE X e (tC c)) (h : PA X es (tCs cs)) (hs : starEach (e :: es) X.env = (false, eval e X.env) :: starEach es X.env := by rfl) : PA X (e :: es) (tCs (c :: cs)) := pa_cons he h hs
theorem isE_reading {K : PySem.W.Frag} {mg : Str → Option Value} {w : Wd} {H : Hp} {S : Store} {dσ : DSt} {σ : L2.St} {Q : VK} (A : Ab K w H mg S) (R : RSt K w H dσ σ) (P : Post K mg (Rep K) W σ w H (mIsE i a b dσ S) Q) : σ[i]? = some (some (.ref a)) ∧ Post K mg (Rep K) W σ w H (.ok (.bl b) S) Q := by
  unfold mIsE at P
  split at P
  · rename_i a' e
    split at P
    · rename_i ha
      subst ha
      obtain ⟨v, e1, r⟩ := R.2 i _ e
      simp only [Rep] at r
      subst r
      exact ⟨e1, P⟩
    · exact P.elim
  · exact P.elim
theorem pm_isE {c : V} (C : ExcC X.K D) (hz : Zc (.ref D) none oe) (hf : ∃ vs, oe.data = .fields vs) (hg : Gl X "isinstance") (hm : X.mg "isinstance" = none) (hv : bootBuiltins "isinstance" = some (.builtin "isinstance"))
    (hN : X.N[i]? = some n) (hvs : Vis X.env.scope n) (hc : PE (X.suite a ((a, oe) :: pn)) (.Name tn p2) (tC c)) (hcv : ∀ u, RelV c u → u = cv) (hk : PySem.W.kitOne X.K (.ref D) cv = some b)
    (hd : (n == ("__debug__" : Str)) = false := by decide) (hcd : (n == ("__classdict__" : Str)) = false := by decide)
    (he : starEach [.Name n p1, .Name tn p2] X.env = (false, eval (.Name n p1) X.env) :: starEach [.Name tn p2] X.env := by rfl) (hpl : (backTo pos (starEach [.Name tn p2] X.env)).any (·.1) = false := by rfl)
    (he2 : starEach [.Name tn p2] X.env = (false, eval (.Name tn p2) X.env) :: starEach [] X.env := by rfl) :
    PM (X.suite a ((a, oe) :: pn)) W (.Call (.Name "isinstance" p) [.Name n p1, .Name tn p2] [] pos) (mIsE i a b) :=
  PE.imp (pe_callB (X := X.suite a ((a, oe) :: pn)) (call_isE C hz hf) hg hm hv (pa_cons (pe_var hN hvs hd hcd) (pa_cons hc pa_nil he2) he) (by decide) (by decide) he hpl) fun σ H Q ⟨w, dσ, S, A, R, P⟩ => by
    obtain ⟨e1, P⟩ := isE_reading A R P
    exact ⟨_, e1, c, cv, b, rfl, hcv, hk, P.fin A (of_bl b)⟩
def rIsEt (K : PySem.W.Frag) (D a : Addr) : List V → Hp → VK → Prop := fun xs H Q => ∃ (q : Addr) (cs : List Addr) (b : Bool), xs = [.ref a, .ref q] ∧ H q = some (.tup (cs.map V.ref)) ∧ PySem.W.kitAny K (.ref D) (cs.map Value.ref) = some b ∧ Q (.bl b) H
theorem vals_refs_eq : ∀ {cs : List Addr} {its : List Value}, Vals (cs.map V.ref) its → its = cs.map Value.ref
  | [], _, h => by cases h; rfl
  | c :: cs, _, h => by
    cases h with
    | cons h1 h2 =>
      cases h1
      rw [vals_refs_eq h2]
      rfl
theorem call_isEt {X : Cx} {a D : Addr} {oe : Obj} {pn : List (Addr × Obj)} (C : ExcC X.K D) (hz : Zc (.ref D) none oe) (hf : ∃ vs, oe.data = .fields vs) : CallR (X.suite a ((a, oe) :: pn)) (.builtin "isinstance") (rIsEt X.K D a) := by
  intro pins s σ H xs us Q I r h
  obtain ⟨tq, cs, b, rfl, hq, e, q⟩ := h
  cases r with
  | cons rx rr =>
    cases rr with
    | cons rt rr =>
      cases rr
      cases rx
      cases rt
      obtain ⟨hget, _⟩ := I.pin (a, oe) (List.mem_append.mpr (.inl List.mem_cons_self))
      obtain ⟨vs, hv⟩ := hf
      have J : PySem.W.InstAt s.heap a oe D none := by
        obtain ⟨oc, od, oda, osl⟩ := oe
        obtain ⟨h1, h2⟩ := hz
        dsimp only at h1 h2 hv
        subst h1 h2 hv
        exact ⟨hget, rfl, rfl, trivial⟩
      obtain ⟨_, its, rv, ot, e1, e2, nt, e3⟩ := (show ObjOk X.prog X.w H s.heap tq (.tup (cs.map V.ref)) from I.hok tq _ hq)
      have ei := vals_refs_eq rv
      subst ei
      obtain ⟨tc, td, tdt, tsl⟩ := ot
      dsimp only at e2 e3
      subst e2 e3
      exact PySem.W.kia_tup (PySem.W.handS_kitx_exc C.hg C.hk C.hs C.hd C.ha C.hn C.ht C.hm) I.kIn J e1 e (fun z => nomatch z) fun tk => ⟨.bl b, H, I.kept (t' := tk) fun _ _ z => z, rfl, q⟩
theorem pm_isEt {es : List Expr} {x1} {tp : Pos} {cs : List Addr} (C : ExcC X.K D) (hz : Zc (.ref D) none oe) (hf : ∃ vs, oe.data = .fields vs) (hg : Gl X "isinstance") (hm : X.mg "isinstance" = none) (hv : bootBuiltins "isinstance" = some (.builtin "isinstance"))
    (hN : X.N[i]? = some n) (hvs : Vis X.env.scope n) (hc : PA (X.suite a ((a, oe) :: pn)) es (tCs (cs.map V.ref))) (hk : PySem.W.kitAny X.K (.ref D) (cs.map Value.ref) = some b) (hl : cs.length ≤ 100)
    (hd : (n == ("__debug__" : Str)) = false := by decide) (hcd : (n == ("__classdict__" : Str)) = false := by decide)
    (he : starEach [.Name n p1, .Tuple es x1 tp] X.env = (false, eval (.Name n p1) X.env) :: starEach [.Tuple es x1 tp] X.env := by rfl) (hpl : (backTo pos (starEach [.Tuple es x1 tp] X.env)).any (·.1) = false := by rfl)
    (he2 : starEach [.Tuple es x1 tp] X.env = (false, eval (.Tuple es x1 tp) X.env) :: starEach [] X.env := by rfl) :
    PM (X.suite a ((a, oe) :: pn)) W (.Call (.Name "isinstance" p) [.Name n p1, .Tuple es x1 tp] [] pos) (mIsE i a b) :=
  PE.imp (pe_callB (X := X.suite a ((a, oe) :: pn)) (call_isEt C hz hf) hg hm hv (pa_cons (pe_var hN hvs hd hcd) (pa_cons (pe_tup hc) pa_nil he2) he) (by decide) (by decide) he hpl) fun σ H Q ⟨w, dσ, S, A, R, P⟩ => by
    obtain ⟨e1, P⟩ := isE_reading A R P
    refine ⟨_, e1, by rw [List.length_map, sizeLine_eq]; exact Nat.le_trans hl (by decide), fun q hq => ⟨q, cs, b, rfl, upd_same .., hk, ?_⟩⟩
    exact P w _ _ (Ex.new hq) (A.newF hq) (of_bl b)
end
end L3
namespace L3
open PySem PySem.Spec PyProof.Rows L2
theorem kit_ref {K : PySem.W.Frag} {D C : Addr} {b : Bool} (hc : PySem.W.isClsIn K C = true) (ht : PySem.W.typeIn K (.ref C) = some (.type "type")) (hs : PySem.W.subIn K (.ref C) (.ref C) = some true) (h : PySem.W.subIn K (.ref D) (.ref C) = some b) : PySem.W.kitOne K (.ref D) (.ref C) = some b := by
  unfold PySem.W.kitOne
  by_cases e : ((Value.ref D) == Value.ref C) = true
  · rw [if_pos e]
    have e2 : D = C := Value.ref.inj (beq_iff_eq.mp e)
    subst e2
    rw [hs] at h
    exact h
  · rw [if_neg e]
    unfold PySem.W.kitCls
    simp only
    rw [if_pos (by rw [show (PySem.W.clsIn K C).isSome = true from hc, ht]; rfl)]
    exact h
theorem kit_bt {K : PySem.W.Frag} {D : Addr} {T : String} {b : Bool} (hm : PySem.W.kitMeta T = true) (h : PySem.W.subIn K (.ref D) (.type T) = some b) : PySem.W.kitOne K (.ref D) (.type T) = some b := by
  unfold PySem.W.kitOne
  rw [if_neg (by intro z; cases beq_iff_eq.mp z)]
  unfold PySem.W.kitCls
  simp only
  rw [if_pos hm]
  exact h
/-! ### count, index of a list of truths -/
theorem vals_bls : ∀ {bs : List Bool} {its : List Value}, Vals (bs.map V.bl) its → its = bs.map Value.bool
  | [], _, h => by cases h; rfl
  | b :: bs, _, h => by
    cases h with
    | cons h1 h2 =>
      cases h1
      rw [vals_bls h2]
      rfl
theorem idx_first {b : Bool} : ∀ {bs : List Bool} {m : Nat}, m < bs.idxOf b → bs[m]? ≠ some b
  | [], m, h => by simp at h
  | c :: bs, m, h => by
    rw [List.idxOf_cons] at h
    cases hc : c == b with
    | true => rw [hc] at h; simp at h
    | false =>
      rw [hc] at h
      have hcb : c ≠ b := fun z => by rw [z] at hc; simp at hc
      cases m with
      | zero => simpa using hcb
      | succ m =>
        rw [List.getElem?_cons_succ]
        exact idx_first (by simpa using h)
def eqB (b : Bool) : Value → Bool
  | .bool b' => b' == b
  | _ => false
theorem eqB_count (b : Bool) : ∀ bs : List Bool, (bs.map Value.bool).countP (eqB b) = bs.count b
  | [] => rfl
  | c :: bs => by
    have ih := eqB_count b bs
    rw [List.map_cons, List.countP_cons, List.count_cons, ih]
    rfl
section
variable {X : Cx} {W : XW}
def rCntB (K : PySem.W.Frag) : V → List V → Hp → VK → Prop := fun x xs H Q => ∃ (p : Addr) (bs : List Bool) (b : Bool), x = .ref p ∧ xs = [.bl b] ∧ SqL K H p (bs.map V.bl) ∧ Q (.int (bs.count b : Nat)) H
theorem mt_bcount : MtR X "list.count" (rCntB X.K) := by
  intro pins s σ H x xs v us Q I rx rxs h
  obtain ⟨p, bs, b, rfl, rfl, hs, q⟩ := h
  cases rx
  obtain ⟨u, rfl, ru⟩ := rxs.one
  cases ru
  obtain ⟨its, rv, ⟨⟨cls, dd, data, sl⟩, n, ho, hc, hdn, hd⟩, hlen⟩ := I.list hs
  simp only at hc hd
  subst hc hd
  have hi := vals_bls rv
  subst hi
  refine call_meets PySem.F.slot_list_count ⟨_, ho, rfl⟩ PySem.F.entry_list_count (PySem.F.args_list_count_2 _ _)
    (SeqAt.list_countAt p (bs.map Value.bool).toArray n dd sl (.bool b) (eqB b)) ⟨ho, fun y hy => ?_, ?_⟩
  · obtain ⟨b', _, rfl⟩ := List.mem_map.mp (List.mem_toArray.mp hy)
    exact eqAt_V (y := .bl b') (x := .bl b) rfl rfl rfl rfl
  · refine ⟨.int (bs.count b : Nat), H, I.tok _, ⟨s.toks, ?_⟩, q⟩
    show Value.int ((((bs.map Value.bool).toArray).toList.countP (eqB b) : Nat) : Int) s.toks = Value.int ((bs.count b : Nat) : Int) s.toks
    rw [show ((bs.map Value.bool).toArray).toList = bs.map Value.bool from rfl, eqB_count]
def blsD (S : Store) (d : D) : Option (List Bool) := match rdL S d with
  | some es => blsOf es
  | none => none
/-- xs.count(b) -/
def lcountD (d : D) (ds : List D) (S : Store) : Res D := match ds, blsD S d with
  | [.bl b], some bs => .ok (.int (bs.count b : Nat)) S
  | _, _ => .stuck
theorem md_lcount : MtD X W "list" "list.count" lcountD := by
  refine ⟨_, mt_bcount, fun w H S d ds v vs σ Q A r rs P => ?_⟩
  unfold lcountD at P
  split at P
  · rename_i b bs hb
    unfold blsD at hb
    split at hb
    · rename_i es h1
      obtain ⟨a, us, rfl, f, r'⟩ := rdL_rep A h1 r
      have eu := blsOf_rep hb r'
      subst eu
      obtain ⟨y, rfl, ry⟩ := reps1 rs
      rw [rep_bl ry]
      exact ⟨a, bs, b, rfl, rfl, f, P.fin A (of_int _)⟩
    · cases hb
  · exact P.elim
/-- xs.index(b) -/
def lindexD (d : D) (ds : List D) (S : Store) : Res D := match ds, blsD S d with
  | [.bl b], some bs => if b ∈ bs then .ok (.int (bs.idxOf b : Nat)) S else .stuck
  | _, _ => .stuck
theorem md_lindex : MtD X W "list" "list.index" lindexD := by
  refine ⟨_, mt_index, fun w H S d ds v vs σ Q A r rs P => ?_⟩
  unfold lindexD at P
  split at P
  · rename_i b bs hb
    split at P
    · rename_i hmem
      unfold blsD at hb
      split at hb
      · rename_i es h1
        obtain ⟨a, us, rfl, f, r'⟩ := rdL_rep A h1 r
        have eu := blsOf_rep hb r'
        subst eu
        obtain ⟨y, rfl, ry⟩ := reps1 rs
        rw [rep_bl ry]
        have hlt : bs.idxOf b < bs.length := List.idxOf_lt_length_iff.mpr hmem
        refine ⟨a, bs.map V.bl, .bl b, bs.idxOf b, .bl b, rfl, rfl, f, rfl, ?_, ?_, ?_, fun m z hm hz => ?_, P.fin A (of_int _)⟩
        · rw [List.all_map]; simp [flatV, Function.comp_def]
        · rw [List.getElem?_map, List.getElem?_eq_getElem hlt, List.getElem_idxOf hlt]; rfl
        · simp [eqV]
        · rw [List.getElem?_map] at hz
          obtain ⟨b', hb', rfl⟩ := Option.map_eq_some_iff.mp hz
          have hne : b' ≠ b := fun z => by
            rw [z] at hb'
            exact idx_first hm hb'
          simp only [eqV]
          exact beq_eq_false_iff_ne.mpr hne
      · cases hb
    · exact P.elim
  · exact P.elim
end
end L3
namespace L3
open PySem PySem.Spec PyProof.Rows PySem.Calls L2
/-! ### a, b = a list of two -/
section
variable {X : Cx} {W : XW} {pos : Pos}
theorem assign_Tuple_list {prog : Program} {w : World} {A : Around} {E : Value → Shared → Prop} {s : Shared} {env : Env} {elts : List Expr} {x1} {pos : Pos} {t : Addr} {items : Array Value} {Q : Unit → Shared → Prop} (hh : A.handled = none) (ht : s.heap.IsList t items)
    (hn : (assignEach elts env).length = items.size) (hstar : (assignEach elts env).findIdx? (·.1) = none)
    (h : ∀ h', Heap.ExtBut s.heap.objs.size s.heap h' → wpAny (model prog w) A (assignInOrder ((assignEach elts env).map (·.2)) items.toList) Q E { s with heap := h' }) :
    wpAny (model prog w) A (assign (.Tuple elts x1 pos) env (.ref t)) Q E s := by
  rw [assign_Tuple]
  refine wpAny_bind (wpAny_standAt ?_)
  unfold unpack
  rw [hn, hstar]
  exact wpAny_bind (wpAny_holding (PySem.W.kun_itemsOf hh ht h))
def gLst (K : PySem.W.Frag) (n : Nat) (t : TGs) : TG := fun v σ H Q => ∃ a xs, v = .ref a ∧ SqL K H a xs ∧ xs.length = n ∧ t xs σ H Q
theorem pg_lst {es : List Expr} {k : Nat} {t : TGs} {n : Nat} (hc : X.calm = true) (h : PGs X es t)
    (hn : (assignEach es X.env).length = n := by rfl) (hst : (assignEach es X.env).findIdx? (·.1) = none := by rfl) : PG X (.Tuple es k pos) (gLst X.K n t) := by
  refine ⟨fun pins s σ H v u Q I r hw => ?_⟩
  obtain ⟨a, xs, e1, hq, hl, hw⟩ := hw
  subst e1
  cases r
  obtain ⟨its, rv, ht, hz⟩ := I.list hq
  refine assign_Tuple_list (I.ok.hd hc) ht.isList (by simp [hn, ← hl, rv.length]) hst fun h' hx => ?_
  have I1 : Inv X pins σ H { s with heap := h' } := I.kept (t' := s.toks) fun b o e => hx b o (Nat.ne_of_lt (Heap.lt_size e)) e
  exact h.run pins _ σ H xs _ Q I1 (by simpa using rv) hw
def gtLst (n : Nat) (g : List D → DSt → Store → Res DSt) (d : D) (σ : DSt) (S : Store) : Res DSt := match rdL S d with
  | some ds => if ds.length = n then g ds σ S else .stuck
  | none => .stuck
theorem pmg_lst {es : List Expr} {k : Nat} {g : List D → DSt → Store → Res DSt} {n : Nat} (hc : X.calm = true) (h : PMGs X es g)
    (hn : (assignEach es X.env).length = n := by rfl) (hst : (assignEach es X.env).findIdx? (·.1) = none := by rfl) : PMG X (.Tuple es k pos) (gtLst n g) :=
  PG.imp (pg_lst hc h hn hst) fun v σ H Q ⟨w, dσ, S, d, A, R, r, P⟩ => by
    unfold gtLst at P
    split at P
    · rename_i ds hd
      split at P
      · rename_i hl
        obtain ⟨a, vs, rfl, f, r'⟩ := rdL_rep A hd r
        exact ⟨a, vs, rfl, f, by rw [← r'.length]; exact hl, w, dσ, S, ds, A, R, r', P⟩
      · exact P.elim
    · exact P.elim
end
end L3
namespace L3
open PySem PySem.Spec PyProof.Rows PySem.Calls L2
/-! ### sorted(..) of a tuple -/
section
variable {prog : Program} {w : World} {A : Around} {E : Value → Shared → Prop} {s : Shared} {Q : Value → Shared → Prop}
theorem sorted_tup {t : Addr} {its : List Value} (ht : IsTup s.heap t its.toArray) (hn : its.length ≤ sizeLine)
    (h : ∀ (h' : Heap), (∀ b o, s.heap.get? b = some o → h'.get? b = some o) →
      wpAny (model prog w) A.in1 (call (.builtin "list.sort") [.ref h'.objs.size]) (fun _ s' => Q (.ref h'.objs.size) s') E { s with heap := h'.push (seqObj "list" its.toArray 0) }) :
    wpAny (model prog w) A (call (.builtin "sorted") [.ref t]) Q E s := by
  obtain ⟨o, ho, hc, n, hd⟩ := ht
  refine call_function_entry kind_sorted plain_sorted entry_sorted (PyProof.Rows.args_sorted1 _) ?_
  unfold Builtin.«sorted»
  refine wpAny_bind (m := checkCount "sorted" 1 1 _) (wpAny_pure ?_)
  refine wpAny_bind (wpAny_collect_seq t (.inr rfl) ho hc hd (fun h' hk => ?_) (by simpa using hn))
  refine wpAny_bind (wpAny_newList ?_ (by simpa using hn))
  refine wpAny_bind (wpAny_holding (wpAny_mono (h h' hk) (fun _ s' x => ?_) fun _ _ e => e))
  exact wpAny_pure ⟨_, rfl, x⟩
end
def rSortedTup (K : PySem.W.Frag) : List V → Hp → VK → Prop := fun vs H Q => ∃ (a : Addr) (us : List V) (es : List D) (w : Wd), vs = [V.ref a] ∧ SqT K H a us ∧ Reps K w H es us ∧ Srt es ∧ es.length ≤ sizeLine ∧
  ∀ (xs : List V) (p : Addr), Reps K w H (es.mergeSort dLe) xs → H p = none → Q (.ref p) (upd H p (.lst xs))
theorem cr_sortedTup {X : Cx} (hu : X.A.units + 64 < cLine) : CallR X (.builtin "sorted") (rSortedTup X.K) := by
  intro pins s σ H vs us Q I r h
  obtain ⟨a, zs, es, w, rfl, hs, rp, ⟨⟨ps, hps⟩, hal, hk, hd⟩, hz, q⟩ := h
  obtain ⟨its, rv, hl, hlz⟩ := I.tuple hs
  rw [Vals.ref1 r]
  obtain ⟨b1, b2, b3⟩ := reps_zip rp
  have eq1 : (es.zip zs).map (fun b => encD b.1) = es.map encD := by
    rw [show (fun b : D × V => encD b.1) = encD ∘ Prod.fst from rfl, ← List.map_map]
    congr 1
  have hil : its.length ≤ sizeLine := by rw [← rv.length]; exact hlz
  refine sorted_tup hl hil fun h' hkp => ?_
  have hnew : (h'.push (seqObj "list" its.toArray 0)).get? h'.objs.size = some (seqObj "list" its.toArray 0) := Heap.get?_push_size _ rfl
  have keep2 : ∀ b o, s.heap.get? b = some o → (h'.push (seqObj "list" its.toArray 0)).get? b = some o := fun b o e => Heap.get?_push_of_some _ (hkp b o e)
  have er : PySem.W.EachIs (fun (v : Value) (b : D × V) => ∃ as, Reads (h'.push (seqObj "list" its.toArray 0)) v (encD b.1) as ∧ h'.objs.size ∉ as) its (es.zip zs) := (each_reads I (toPys_get hps) rp rv).mono fun v b ⟨as, hr⟩ => by
    refine ⟨as, PyProof.Rows.Reads.keeps keep2 hr, fun hm => ?_⟩
    obtain ⟨o, ho⟩ := PyProof.On.reads_mem_get hr _ hm
    exact Nat.lt_irrefl _ (Heap.lt_size (hkp _ o ho))
  have I1 : L2.Inv X pins σ H { s with heap := h' } := I.kept (t' := s.toks) hkp
  refine PySem.W.list_sort_data (vs := its) (enc := fun b : D × V => encD b.1) (R := fun u b => RelV b.2 u) (n := 0) hnew (each_of_reps rp rv) er (by rw [eq1]; exact hal) (by rw [eq1]; exact hk) (by rw [b3]; exact hz) (fun b hb => ?_) fun out ho2 eo => ?_
  · have : b.1 ∈ es := by rw [← b2]; exact List.mem_map.mpr ⟨b, hb, rfl⟩
    have := hd b.1 this
    show X.A.units + 1 + 1 + (encD b.1).depth < cLine
    omega
  · obtain ⟨c, hc2⟩ := sortedHeap_at (vs := its) (out := out.toArray) hnew
    have hm : ((es.zip zs).mergeSort (PySem.W.dataLe false fun b : D × V => encD b.1)).map (·.1) = es.mergeSort dLe := by
      rw [List.map_mergeSort (r := PySem.W.dataLe false fun b : D × V => encD b.1) (s := dLe) (fun _ _ _ _ => rfl), b2]
    have rs := reps_of (K := X.K) (w := w) (H := H) (bs := (es.zip zs).mergeSort (PySem.W.dataLe false fun b : D × V => encD b.1)) fun b hb => b1 b (List.mem_mergeSort.mp hb)
    rw [hm] at rs
    have vv := vals_each eo
    generalize ((es.zip zs).mergeSort (PySem.W.dataLe false fun b : D × V => encD b.1)).map (·.2) = xs at *
    have hlen : xs.length ≤ sizeLine := by
      have h9 := rs.length
      rw [List.length_mergeSort] at h9
      omega
    have hfresh : H h'.objs.size = none := I1.hok.fresh (Nat.le_refl _)
    refine ⟨.ref _, upd H h'.objs.size (.lst xs), I1.laid (t' := s.toks) (o := .lst xs) (h' := _) (fun b o e => ?_) (Nat.le_refl _) ⟨hlen, out, c, vv, hc2⟩, rfl, q _ _ rs hfresh⟩
    have e2 : (h'.push (seqObj "list" its.toArray 0)).get? b = some o := Heap.get?_push_of_some _ e
    exact (sortedHeap_old (Nat.ne_of_lt (Heap.lt_size e)) (Heap.lt_size e2)).trans e2
open Classical in
noncomputable def sortedTD (ds : List D) (S : Store) : Res D := match ds with
  | [d] => match rdT d with
    | some es => if Srt es ∧ es.length ≤ sizeLine then .ok (.lst (es.mergeSort dLe)) S else .stuck
    | none => .stuck
  | _ => .stuck
theorem cd_sortedT {X : Cx} {W : XW} (hu : X.A.units + 64 < cLine) : CallD X W (.builtin "sorted") sortedTD := by
  refine ⟨_, cr_sortedTup hu, fun w H S ds vs σ Q A r P => ?_⟩
  unfold sortedTD at P
  split at P
  · split at P
    · split at P
      · rename_i d _ es h1 hs
        obtain ⟨v, rfl, r1⟩ := reps1 r
        obtain ⟨a, us, rfl, f, r'⟩ := rdT_rep h1 r1
        exact ⟨a, us, es, w, rfl, f, r', hs.1, hs.2, fun xs p rx hp => P w _ _ (Ex.new hp) (A.newF hp) (Rep.lstNew A hp rx)⟩
      · exact P.elim
    · exact P.elim
  · exact P.elim
end L3
namespace L2
open PySem PySem.Spec PyProof.Rows
/-! ### t >= u of two tuples of ints -/
def lexGeI (ns ms : List Int) : Bool := Ob.lexAt (fun j => decide (ns.getD j 0 = ms.getD j 0)) (fun j => decide (ms.getD j 0 ≤ ns.getD j 0)) (decide (ns.length ≥ ms.length)) 0 (min ns.length ms.length)
def rGeT (K : PySem.W.Frag) : R2 := fun x y H Q => ∃ (a b : Addr) (ns ms : List Int), x = .ref a ∧ y = .ref b ∧ SqT K H a (ns.map V.int) ∧ SqT K H b (ms.map V.int) ∧ Q (.bl (lexGeI ns ms)) H
theorem op_geT {X : Cx} (hu : X.A.units < cLine) : OpR X (compareOp .GtE) (rGeT X.K) := by
  intro pins s σ H x y v u Q I rx ry h
  obtain ⟨a, b, ns, ms, rfl, rfl, ha, hb, q⟩ := h
  cases rx
  cases ry
  obtain ⟨its, r1, p1, _⟩ := I.tuple ha
  obtain ⟨its2, r2, p2, _⟩ := I.tuple hb
  have i1 : IntsAre its ns := Vals.ints r1
  have i2 : IntsAre its2 ms := Vals.ints r2
  have e1 : its.toArray.size = ns.length := by rw [List.size_toArray]; exact i1.length
  have e2 : its2.toArray.size = ms.length := by rw [List.size_toArray]; exact i2.length
  have at1 : ∀ j (h1 : j < its.toArray.size), ∃ t, its.toArray[j] = .int (ns.getD j 0) t := fun j h1 => PyProof.Rows.IntsAre.int_at i1 _ _ (by simp at h1; simp [h1])
  have at2 : ∀ j (h1 : j < its2.toArray.size), ∃ t, its2.toArray[j] = .int (ms.getD j 0) t := fun j h1 => PyProof.Rows.IntsAre.int_at i2 _ _ (by simp at h1; simp [h1])
  have R := Ob.RcOp.tuples_ge (A := X.A) (s := s) (e := fun j => decide (ns.getD j 0 = ms.getD j 0)) (r := fun j => decide (ms.getD j 0 ≤ ns.getD j 0)) p1 p2 hu (fun j h1 h2 => by
    obtain ⟨t, et⟩ := at1 j h1
    obtain ⟨t', et'⟩ := at2 j h2
    rw [et, et']
    have z : (ns.getD j 0 == ms.getD j 0) = decide (ns.getD j 0 = ms.getD j 0) := by
      by_cases q : ns.getD j 0 = ms.getD j 0
      · rw [decide_eq_true q]; exact beq_iff_eq.mpr q
      · rw [decide_eq_false q]; exact beq_eq_false_iff_ne.mpr q
    rw [← z]
    exact SeqAt.EqAt.int_int _ _ _ _) (fun j h1 h2 _ => by
    obtain ⟨t, et⟩ := at1 j h1
    obtain ⟨t', et'⟩ := at2 j h2
    rw [et, et']
    exact Ob.RcOp.ge_int _ _ _ _)
  rw [e1, e2] at R
  have z : wpAny (model X.prog X.w) X.A (compareOp .GtE (.ref a) (.ref b)) (EP X pins σ Q) X.xe s := R X.prog X.w X.xe (EP X pins σ Q) ⟨.bl _, H, I, rfl, q⟩
  exact z
end L2
namespace L3
open PySem PySem.Spec L2
section
variable {X : Cx} {W : XW}
def geTD (d e : D) (S : Store) : Res D := match d, e with
  | .int i, .int j => .ok (.bl (decide (j ≤ i))) S
  | .tup a, .tup b => match intsOf a, intsOf b with
    | some ns, some ms => .ok (.bl (lexGeI ns ms)) S
    | _, _ => .stuck
  | _, _ => .stuck
theorem od_geT (hu : X.A.units < cLine) : OpD X W (compareOp .GtE) geTD := by
  refine ⟨_, op_ge.or (op_geT hu), fun w H S d e x y σ Q A rd re P => ?_⟩
  unfold geTD at P
  split at P
  · exact .inl ⟨_, _, rep_int rd, rep_int re, P.fin A (of_bl _)⟩
  · split at P
    · rename_i ns ms h1 h2
      obtain ⟨a, vs, rfl, f, r⟩ := tup_rep rd
      obtain ⟨b, us, rfl, g, r'⟩ := tup_rep re
      exact .inr ⟨a, b, ns, ms, rfl, rfl, by rw [← intsOf_rep h1 r]; exact .of f, by rw [← intsOf_rep h2 r']; exact .of g, P.fin A (of_bl _)⟩
    · exact P.elim
  · exact P.elim
end
end L3
set_option maxHeartbeats 4000000
namespace L2
open PySem PySem.Spec PyProof.Rows
/-! ### a tuple times 1, times 0 -/
theorem tuple_mul1 (l : Addr) (items : Array Value) (n : Nat) (dd : Option Addr) (sl : Array (Option Value)) (x : Int) (u : Tok) (c0 : (decide (x < -(2 ^ 63)) || decide (x ≥ 2 ^ 63)) = false) (c1 : (items.isEmpty || x == 1) = true) :
    Meets (Builtin.«tuple.__mul__» ⟨[.ref l, .int x u], []⟩) (fun _ R s => s.heap.get? l = some { cls := .type "tuple", dict := dd, data := .seq items n, slots := sl } ∧ R (.ok (.ret (Value.ref l))) s) :=
  .of_wp fun prog w A R s h => by
    obtain ⟨hp, g, d, tk, os⟩ := s
    obtain ⟨hl, h⟩ := h
    have f1 := AutoSeq1.idx_int
    wp_walk using wpAny_loadPart' hl
    repeat (first
      | (refine wpAny_ite_false (decide_eq_false (by rw [c0]; exact Bool.false_ne_true)) ?_; wp_walk using wpAny_loadPart' hl)
      | (refine wpAny_ite_true (decide_eq_true c1) ?_; wp_walk using wpAny_loadPart' hl))
    exact ⟨_, rfl, h⟩
theorem tuple_mul0 (l : Addr) (items : Array Value) (n : Nat) (dd : Option Addr) (sl : Array (Option Value)) (x : Int) (u : Tok) (c0 : (decide (x < -(2 ^ 63)) || decide (x ≥ 2 ^ 63)) = false) (c1 : (items.isEmpty || x == 1) = false) (c2 : (decide (x ≤ 0) || items.isEmpty) = true) :
    Meets (Builtin.«tuple.__mul__» ⟨[.ref l, .int x u], []⟩) (fun _ R s => s.heap.get? l = some { cls := .type "tuple", dict := dd, data := .seq items n, slots := sl } ∧
      R (.ok (.ret (Value.ref s.heap.objs.size))) { s with heap := s.heap.push { cls := Value.type "tuple", data := Data.seq #[] }, toks := s.toks }) :=
  .of_wp fun prog w A R s h => by
    obtain ⟨hp, g, d, tk, os⟩ := s
    obtain ⟨hl, h⟩ := h
    have f1 := AutoSeq1.idx_int
    wp_walk using wpAny_loadPart' hl
    repeat (first
      | (refine wpAny_ite_false (decide_eq_false (by rw [c0]; exact Bool.false_ne_true)) ?_; wp_walk using wpAny_loadPart' hl)
      | (refine wpAny_ite_false (decide_eq_false (by rw [c1]; exact Bool.false_ne_true)) ?_; wp_walk using wpAny_loadPart' hl)
      | (refine wpAny_ite_true (decide_eq_true c2) ?_; wp_walk using wpAny_loadPart' hl))
    exact ⟨_, rfl, h⟩
section
variable {X : Cx}
def rRepT1 (K : PySem.W.Frag) : R2 := fun x y H Q => ∃ l k xs, x = .ref l ∧ y = .int k ∧ SqT K H l xs ∧ (xs = [] ∨ k = 1) ∧ -1000000 ≤ k ∧ k ≤ 1000000 ∧ Q (.ref l) H
theorem op_repT1 : OpR X (binaryOp .Mult) (rRepT1 X.K) := by
  intro pins s σ H x y v u Q I rx ry h
  obtain ⟨l, k, xs, rfl, rfl, hT, hne, h1, h2, q⟩ := h
  cases rx
  obtain ⟨t, rfl⟩ := ry
  obtain ⟨its, r, ⟨⟨cls, dd, data, sl⟩, ho, hc, n, hd⟩, hs⟩ := I.tuple hT
  simp only at hc hd
  subst hc hd
  have hle : its.length = xs.length := r.length.symm
  have c0 : (decide (k < -(2 ^ 63)) || decide (k ≥ 2 ^ 63)) = false := by
    rw [decide_eq_false (by omega), decide_eq_false (by omega)] <;> rfl
  have c1 : (its.toArray.isEmpty || k == 1) = true := by
    rcases hne with e | e
    · rw [e] at hle
      rw [List.eq_nil_of_length_eq_zero hle]
      rfl
    · rw [e]; simp
  exact wpAny_binaryOp_repeat_ref (T := "tuple") (U := "int") (by decide) ⟨_, ho, rfl⟩ (fun s' => typeIs_int s' k t) noFill_tuple_mul F.fills_int_mul F.slot_int_rmul repeat_tuple F.slot_int_index.lookup
    (call_meets F.slot_int_rmul (typeIs_int s k t) F.entry_int_rmul (F.args_int_rmul_2 _ _) (int_rmul_tuple k t l its.toArray n dd sl)
      ⟨ho, rfl, ⟨_, ho, rfl⟩, call_meets F.slot_tuple_mul ⟨_, ho, rfl⟩ F.entry_tuple_mul (F.args_tuple_mul_2 _ _) (tuple_mul1 l its.toArray n dd sl k t c0 c1) ⟨ho, ⟨.ref l, H, I, rfl, q⟩⟩⟩)
def rRepT0 (K : PySem.W.Frag) : R2 := fun x y H Q => ∃ l k xs, x = .ref l ∧ y = .int k ∧ SqT K H l xs ∧ xs ≠ [] ∧ k ≤ 0 ∧ -1000000 ≤ k ∧ ∀ p, H p = none → Q (.ref p) (upd H p (.tup []))
theorem op_repT0 : OpR X (binaryOp .Mult) (rRepT0 X.K) := by
  intro pins s σ H x y v u Q I rx ry h
  obtain ⟨l, k, xs, rfl, rfl, hT, hne, h1, h2, q⟩ := h
  cases rx
  obtain ⟨t, rfl⟩ := ry
  obtain ⟨its, r, ⟨⟨cls, dd, data, sl⟩, ho, hc, n, hd⟩, hs⟩ := I.tuple hT
  simp only at hc hd
  subst hc hd
  have hle : its.length = xs.length := r.length.symm
  have hn : its ≠ [] := fun e => hne (by
    rw [e] at hle
    exact List.eq_nil_of_length_eq_zero hle.symm)
  have hi : its.toArray.isEmpty = false := by
    cases its with
    | nil => exact absurd rfl hn
    | cons a b => rfl
  have c0 : (decide (k < -(2 ^ 63)) || decide (k ≥ 2 ^ 63)) = false := by
    rw [decide_eq_false (by omega), decide_eq_false (by omega)] <;> rfl
  have c1 : (its.toArray.isEmpty || k == 1) = false := by
    rw [hi, Bool.false_or]
    exact beq_eq_false_iff_ne.mpr (by omega)
  have c2 : (decide (k ≤ 0) || its.toArray.isEmpty) = true := by
    rw [decide_eq_true h1]; rfl
  refine wpAny_binaryOp_repeat_ref (T := "tuple") (U := "int") (by decide) ⟨_, ho, rfl⟩ (fun s' => typeIs_int s' k t) noFill_tuple_mul F.fills_int_mul F.slot_int_rmul repeat_tuple F.slot_int_index.lookup
    (call_meets F.slot_int_rmul (typeIs_int s k t) F.entry_int_rmul (F.args_int_rmul_2 _ _) (int_rmul_tuple k t l its.toArray n dd sl)
      ⟨ho, rfl, ⟨_, ho, rfl⟩, call_meets F.slot_tuple_mul ⟨_, ho, rfl⟩ F.entry_tuple_mul (F.args_tuple_mul_2 _ _) (tuple_mul0 l its.toArray n dd sl k t c0 c1 c2) ⟨ho, ?_⟩⟩)
  refine ⟨.ref s.heap.objs.size, _, I.laid (t' := s.toks) (o := .tup []) (fun b ob q => Heap.get?_push_of_some _ q) (Nat.le_refl _) ?_, rfl, q _ (I.hok.fresh (Nat.le_refl _))⟩
  exact ⟨Nat.zero_le _, _, .nil, IsTup.new _ _⟩
end
end L2
namespace L3
open PySem PySem.Spec L2
section
variable {X : Cx} {W : XW}
def mulTD (d e : D) (S : Store) : Res D := match d, e with
  | .tup a, .int k => if -1000 ≤ k ∧ k ≤ 1000 ∧ a.length ≤ 1000 then .ok (.tup (List.replicate k.toNat a).flatten) S else .stuck
  | _, _ => .stuck
theorem od_mulT : OpD X W (binaryOp .Mult) mulTD := by
  refine ⟨_, op_repT1.or (op_repT0.or op_repT), fun w H S d e x y σ Q A rd re P => ?_⟩
  unfold mulTD at P
  split at P
  · rename_i a k
    split at P
    · rename_i hz
      obtain ⟨l, vs, rfl, f, r⟩ := tup_rep rd
      have hlen := r.length
      by_cases h1 : vs = [] ∨ k = 1
      · refine .inl ⟨l, k, vs, rfl, rep_int re, .of f, h1, by omega, by omega, ?_⟩
        have e : (List.replicate k.toNat a).flatten = a := by
          rcases h1 with h1 | h1
          · rw [h1] at hlen
            rw [List.eq_nil_of_length_eq_zero hlen]
            simp
          · rw [h1]; simp
        rw [e] at P
        exact P.fin A rd
      · rw [not_or] at h1
        by_cases h2 : k ≤ 0
        · refine .inr (.inl ⟨l, k, vs, rfl, rep_int re, .of f, h1.1, h2, by omega, fun p hp => ?_⟩)
          have e : (List.replicate k.toNat a).flatten = [] := by
            rw [show k.toNat = 0 by omega]; rfl
          rw [e] at P
          exact P w _ _ (Ex.new hp) (A.newF hp) (Rep.tupNew A hp .nil)
        · exact .inr (.inr ⟨l, k, vs, rfl, rep_int re, .of f, h1.1, by omega, by omega, by omega, fun p hp => P w _ _ (Ex.new hp) (A.newF hp) (Rep.tupNew A hp (r.flat _))⟩)
    · exact P.elim
  · exact P.elim
end
end L3
namespace L2
open PySem PySem.Spec PyProof.Rows
section
variable {X : Cx} {pins : List (Addr × Obj)} {σ : St} {H : Hp} {s : Shared} {a : Addr} {y v : V} {u r : Value} {A : Around} {E : Value → Shared → Prop}
/-- what a display stores, with a tuple as the key -/
theorem d_dictSetT {kvs : List (List Key × V)} {k : List Key} {b : Addr} {Q : Unit → Shared → Prop} (hu : A.units + 1 < cLine) (I : Inv X pins σ H s) (e : H a = some (.dT kvs)) (eb : H b = some (.tup (k.map kV))) (l : kvs.length < sizeLine) (rv : RelV v r) (h : ∀ s', Inv X pins σ (upd H a (.dT (putK kvs k v))) s' → Q () s') :
    wpAny (model X.prog X.w) A (dictSet a (.ref b) r) Q E s := by
  obtain ⟨z, hd, xs, rel, dd⟩ := dt_of I.hok e
  have hz : xs.length ≤ sizeLine := by rw [← Paired.length rel]; exact z
  have hl : (putK kvs k v).length ≤ sizeLine := by have := length_putK kvs k v; omega
  refine wpAny_dictSet_heap (hsz := hz) (show (tupleKind (mixKind X.prog X.w)).room A from Nat.lt_of_succ_lt hu) (key_of I.hok eb) dd fun h' dd' hs => h _ ?_
  obtain ⟨q, es, ep, hq, h2, h3, h4, _, h5⟩ := dd'
  refine d_write I (by rw [e]; exact True.intro) hs ⟨q, hq⟩ ⟨hl, hd, _, (rel.put k eb rv).keeps fun c ys ec => ?_, q, es, ep, hq, h2, h3, h4, h5⟩
  rw [upd_ne (ne_of ec e (fun z => nomatch z))]
  exact ec
end
/-- {k: v}, the key a tuple -/
def tDisp1T (tk tv : TE) : TE := fun σ H Q => ∀ p, H p = none → tk σ (upd H p (.dT [])) fun x H1 => tv σ H1 fun y H2 => H2 p = some (.dT []) ∧ ∃ (k : List Key) (b : Addr), x = .ref b ∧ H2 b = some (.tup (k.map kV)) ∧ Q (.ref p) (upd H2 p (.dT [(k, y)]))
theorem pe_disp1T {X : Cx} {pos : Pos} {k v : Expr} {tk tv : TE} (hu : X.A.units + 1 < cLine) (hk : PE X k tk) (hv : PE X v tv) : PE X (.Dict [some k] [v] pos) (tDisp1T tk tv) := by
  refine ⟨fun pins s σ H Q I q => ?_⟩
  have hn := I.hok.fresh (Nat.le_refl s.heap.objs.size)
  have I1 := I.laid (a := s.heap.objs.size) (o := .dT []) (h' := s.heap.push { cls := .type "dict", data := .dict #[] }) (t' := s.toks) (fun _ _ q => Heap.get?_push_of_some _ q) (Nat.le_refl _) (dt_empty s.heap I.big)
  refine wpAny_Dict_any rfl rfl (by simp) (by simp) ?_
  refine thn ((pps_cons hk hv pps_nil).run pins _ σ _ (fun ps H2 => match ps with
    | [(x, y)] => H2 s.heap.objs.size = some (.dT []) ∧ ∃ (k : List Key) (b : Addr), x = .ref b ∧ H2 b = some (.tup (k.map kV)) ∧ Q (.ref s.heap.objs.size) (upd H2 s.heap.objs.size (.dT [(k, y)]))
    | _ => False) I1 (q _ hn)) fun ws s2 ⟨ps, H2, I2, rel, z⟩ => ?_
  match ps, z with
  | [(x, y)], ⟨e, kk, b, ex, eb, q2⟩ =>
    subst ex
    cases rel with
    | @cons p w2 _ _ h t =>
      cases t
      obtain ⟨u1, u2⟩ := w2
      obtain ⟨h1, h2⟩ := h
      cases (show u1 = Value.ref b from h1)
      unfold storeAll
      rw [List.forIn_cons]
      refine wpAny_bind (wpAny_bind (d_dictSetT hu I2 e eb (by simp [sizeLine_eq]) h2 fun s3 I3 => wpAny_pure ?_))
      show wpAny _ _ (forIn [] PUnit.unit _) _ _ _
      rw [List.forIn_nil]
      exact wpAny_pure ⟨.ref s.heap.objs.size, _, I3, rfl, q2⟩
end L2
namespace L3
open PySem PySem.Spec L2
section
variable {X : Cx} {W : XW} {pos : Pos}
/-- {k: v}, the key a tuple of numbers and texts -/
def mDisp1T (mk mv : DSt → Store → Res D) (σ : DSt) (S : Store) : Res D := (mk σ (S ++ [.dT []])).bind fun x S1 => (mv σ S1).bind fun y S2 => match S2[S.length]?, x with
  | some (.dT []), .tup ks => match keysOf ks with
    | some key => .ok (.loc S.length) (S2.set S.length (.dT [(key, y)]))
    | none => .stuck
  | _, _ => .stuck
theorem pm_disp1T {k v : Expr} {mk mv : DSt → Store → Res D} (hu : X.A.units + 1 < cLine) (hk : PM X W k mk) (hv : PM X W v mv) : PM X W (.Dict [some k] [v] pos) (mDisp1T mk mv) := by
  refine PE.imp (pe_disp1T hu hk hv) fun σ H Q ⟨w, dσ, S, A, R, P⟩ p hp => ?_
  have A1 := A.newM hp (o := .dT []) (ob := .dT []) ⟨[], rfl, rfl⟩
  have rl : Rep X.K ⟨w.M ++ [p], w.B⟩ (upd H p (.dT [])) (.loc S.length) (.ref p) := Rep.locNew A
  refine ⟨_, dσ, S ++ [.dT []], A1, R.mono (Ex.newM hp), (P.ex (Ex.newM hp)).bind fun x S1 w1 H1 xv e1 A2 r1 P1 => ⟨w1, dσ, S1, A2, (R.mono (Ex.newM hp)).mono e1, P1.bind fun y S2 w2 H2 yv e2 A3 r2 P2 => ?_⟩⟩
  have rl2 := (rl.mono e1).mono e2
  simp only [Rep] at rl2
  obtain ⟨a, el, ea⟩ := rl2
  cases ea
  have hmem : p ∈ w2.M := List.mem_of_getElem? el
  split at P2
  · rename_i ks q
    obtain ⟨u, eu, vs, rfl, r⟩ := A3.ob _ p _ el q
    have hvs : vs = [] := List.eq_nil_of_length_eq_zero (by rw [← r.length]; rfl)
    subst hvs
    split at P2
    · rename_i k hk
      obtain ⟨b, us, rfl, f, r'⟩ := tup_rep (r1.mono e2)
      have e2' := keysOf_rep hk r'
      subst e2'
      refine ⟨eu, k, b, rfl, f, P2 w2 _ _ (Ex.wr hmem (nz_dT eu)) (A3.wr el (nz_dT eu) ⟨_, rfl, ?_⟩) ?_⟩
      · have z := r.put k r2
        simpa [putD, putK] using z
      simp only [Rep]
      exact ⟨p, el, rfl⟩
    · exact P2.elim
  · exact P2.elim
end
end L3
namespace L3
open PySem PySem.Spec L2
section
variable {X : Cx} {W : XW} {pos : Pos}
/-- a, b, c = x, y, z -/
def mPar3 (i j l : Nat) (ms : DSt → Store → Res (List D)) (σ : DSt) (S : Store) : Res Fl := liftE (ms σ S) σ fun ds S1 => match ds with
  | [a, b, c] => .ok (.nx (((σ.set i (some a)).set j (some b)).set l (some c))) S1
  | _ => .stuck
theorem pms_par3 {i j l : Nat} {x y z : Str} {a b c : Expr} {ms : DSt → Store → Res (List D)} {px py pz pt : Pos} {kt k2 pt2} (hc : X.calm = true) (hN : X.N.Nodup) (hi : X.N[i]? = some x) (hj : X.N[j]? = some y) (hl : X.N[l]? = some z) (hij : i ≠ j) (hil : i ≠ l) (hjl : j ≠ l)
    (hx : X.env.scope.names.lookup x = some .local) (hy : X.env.scope.names.lookup y = some .local) (hz : X.env.scope.names.lookup z = some .local) (ha : PMA X W [a, b, c] ms)
    (hw : swappedStores [.Tuple [.Name x px, .Name y py, .Name z pz] kt pt] (.Tuple [a, b, c] k2 pt2) X.env = pure (some [x, y, z]))
    (hs : swapsWithSole [.Tuple [.Name x px, .Name y py, .Name z pz] kt pt] (.Tuple [a, b, c] k2 pt2) pos.line X.env = pure false := by rfl) :
    PMS X W (.Assign [.Tuple [.Name x px, .Name y py, .Name z pz] kt pt] (.Tuple [a, b, c] k2 pt2) pos) (mPar3 i j l ms) :=
  PS.imp (ps_par3 hc hN hi hj hl hij hil hjl hx hy hz ha hw hs) fun D σ H ⟨w, dσ, S, A, R, P⟩ => ⟨w, dσ, S, A, R, P.bindE R fun ds S1 w1 H1 vs e1 A1 r1 P1 => by
    split at P1
    · simp only [Reps] at r1
      obtain ⟨v1, u1, rfl, q1, v2, u2, rfl, q2, v3, u3, rfl, q3, rfl⟩ := r1
      exact ⟨v1, v2, v3, rfl, P1.nx A1 ((((R.mono e1).set q1 i).set q2 j).set q3 l)⟩
    · exact P1.elim⟩
end
end L3
namespace L3
open PySem PySem.Spec PyProof.Rows L2
/-! ### exceptions with a field -/
/-- __init__(self, n): self.f = n, of an own exception -/
def spXI (K : PySem.W.Frag) (f : Str) : Sp := fun vs H Q E => ∃ (a C : Addr) (v : V), vs = [.ref a, v] ∧ OexC K C ∧ PySem.W.findIn K (.ref C) f = some none ∧ H a = some (exo a C none) ∧ ∀ dx, H dx = none → dx ≠ a → Q .non (upd (upd H dx (exd dx [(f, v)])) a (exo a C (some dx)))
section
variable {P : Program} {w : World} {K : PySem.W.Frag} {mg : Str → Option Value} {base : Heap}
theorem fn_xi {x qual f n : Str} {st : Stmt} {fI : Addr} {fd : FuncData} {k : Nat} (F : Fun K x qual st fI fd) (S : FnScope ["self", n] ["self", n] (defScope st))
    (hbody : ∀ (cdv : Value) (A : Around) (outer : List Env) (s : Shared) (H : Hp) (E : XK), Room k (A.deeper (envOfC qual (defScope st) s.heap.objs.size fI cdv)) →
      PSs (cxOf (L2.CX P w) P w K mg base ["self", n] qual (defScope st) fI cdv A outer s H E) (defBody st) (tOst K f (tVar 0) (tVar 1))) : FnOk P w K mg base (L2.CX P w) (k + 1) fI fd ["self", n] (spXI K f) := by
  refine F.okX S (fun vs H Q E h => ?_) (fun cdv A outer s H vs Q E hr h => ⟨_, hbody cdv A outer s H E hr, ?_⟩)
  · obtain ⟨a, C, v, rfl, _⟩ := h
    rfl
  · obtain ⟨a, C, v, rfl, T, hno, ha, q⟩ := h
    exact ⟨v, rfl, .ref a, rfl, a, C, rfl, T, hno, .inl ⟨ha, fun dx h1 h2 => q dx h1 h2⟩⟩
end
section
variable {X : Cx} {W : XW} {x f n : Str} {e : Expr} {p pos pos' : Pos} {C fI : Addr} {k : Nat} {fd : FuncData}
def mRaiseF (c f : Str) (me : DSt → Store → Res D) (σ : DSt) (S : Store) : Res Fl := liftE (me σ S) σ fun d S1 => .ok (.ex c [(f, d)] σ) S1
theorem upd_back {H : Hp} {a dx : Addr} {o1 o2 o3 o4 : HO} (ha : H a = none) (hd : dx ≠ a) : upd (del (upd (upd (upd H a o1) dx o2) a o3) a) dx o4 = upd H dx o4 := by
  funext b
  by_cases h1 : b = dx
  · subst h1; rw [upd_same, upd_same]
  · rw [upd_ne h1, upd_ne h1]
    by_cases h2 : b = a
    · subst h2; rw [del_same, ha]
    · rw [del_ne h2, upd_ne h2, upd_ne h1, upd_ne h2]
theorem pms_raiseF {me : DSt → Store → Res D} (hc : X.calm = true) (tk : Takes X W) (T : OexC X.K C) (iC : PySem.W.findIn X.K (.ref C) "__init__" = some (some (.ref fI))) (tI : PySem.W.typeIn X.K (.ref fI) = some (.type "function"))
    (F1 : FnOk X.prog X.w X.K X.mg X.base (L2.CX X.prog X.w) k fI fd ["self", n] (spXI X.K f)) (hr : Room (k + 1) X.A) (hb : Binds X.K fd ["self", n] []) (hno : PySem.W.findIn X.K (.ref C) f = some none) (hg : Gl X x) (hm : X.mg x = some (.ref C)) (he : PM X W e me)
    (hdb : (x == ("__debug__" : Str)) = false := by decide) (hs : starEach [e] X.env = (false, eval e X.env) :: starEach [] X.env := by rfl) (hpl : (backTo pos (starEach [] X.env)).any (·.1) = false := by rfl) :
    PMS X W (.Raise (some (.Call (.Name x p) [e] [] pos)) none pos') (mRaiseF x f me) := by
  refine PS.imp (ps_raise hc tk (pmk_oex T iC tI F1 hr hb .nil passL hg hm (pa_cons he pa_nil hs) hdb hs hpl)) fun D σ H ⟨w, dσ, S, A, R, P⟩ => ?_
  refine ⟨w, dσ, S, A, R, P.bindE R fun d S1 w1 H1 v e1 A1 r1 P1 => ⟨by simp, fun a ha => ?_⟩⟩
  refine ⟨a, C, v, rfl, T, hno, upd_same .., fun dx h1 h2 => ⟨rfl, dx, [(f, v)], upd_same .., by rw [upd_ne h2, upd_same], ?_, ?_⟩⟩
  · rw [upd_ne h2] at h1; exact h1
  · rw [upd_ne h2] at h1
    rw [upd_back ha h2]
    exact P1 w1 _ σ C (some dx) (Ex.new h1) (A1.newF h1) ((R.mono e1).mono (Ex.new h1)) hm ⟨by simp, [(f, v)], upd_same .., ⟨v, [], rfl, r1.mono (Ex.new h1), rfl⟩, A1.new h1⟩
end
end L3
set_option maxHeartbeats 4000000
/-! ### isinstance of a caught exception that has its dict -/
namespace PySem.W
open PySem PySem.Spec PySem.Calls PyProof.Rows
section
variable {prog : Program} {w : World} {A : Around} {E : Value → Shared → Prop} {s : Shared} {K : Frag} {x D : Addr} {ox : Obj} {od : Option Obj}
theorem l3_findD {C : Addr} {name : Str} {b g : Value} (hc : (clsIn K C).isSome = true) (hb : findIn K (.ref C) name = some (some b)) (hg : specialIn K b "__get__" = some (some g)) (ht : takesIn K b = some true) : findObj K C od name = some (.bind g b) := by
  obtain ⟨cd, hc⟩ := Option.isSome_iff_exists.mp hc
  unfold findObj; rw [hc, Option.bind_some, hb, Option.bind_some]; simp [hg, ht]
theorem l3_classF {Q : Option Value → Shared → Prop} (T : L2.ExcC K D) (X : K.In s.heap) (J : InstAt s.heap x ox D od) (h : Q (some (.ref D)) { s with toks := s.toks + 1 }) : wpAny (model prog w) A (getAttr? (.ref x) "__class__") Q E s := by
  have hf : findObj K D od "__class__" = some (.bind (.builtin "getset_descriptor.__get__") (.builtin "object.__class__")) := l3_findD (by obtain ⟨c, e, _⟩ := any_some T.hd; rw [e]; rfl) T.ha T.hn T.ht
  obtain ⟨hp, gs, dr, tk, os⟩ := s
  have k0 := J.type (M := model prog w); have k1 := looks_findIn (M := model prog w) X T.hg; have k2 := looks_findIn (M := model prog w) X T.hk; have k3 := looks_find (M := model prog w) X J hf
  have ks : Looks (model prog w) hp (isInstance (.ref x) (.type "BaseException")) true := k0.andThen (looks_subIn X T.hs)
  have z2 : (Value.builtin "BaseException.__getattribute__" == Value.builtin "object.__getattribute__") = false := by decide +kernel
  have z1 : (onTheHeap (Value.ref D) && Value.builtin "BaseException.__getattribute__" == Value.builtin "object.__getattribute__") = false := by rw [z2]; rfl
  have z0 : (false && onTheHeap (Value.builtin "BaseException.__getattribute__")) = false := rfl
  unfold getAttr? getAttrBy? getAttrBy
  refine wpAny_bind (wpAny_mkText (wpAny_bind (wpAny_attempt (wpAny_holding (wpAny_bind (k0.at (wpAny_bind (k1.at ?_))))))))
  show wpAny _ _ (if (onTheHeap (Value.ref D) && Value.builtin "BaseException.__getattribute__" == Value.builtin "object.__getattribute__") = true then _ else _) _ _ _
  rw [z1, if_neg Bool.false_ne_true]; unfold getAttrByItsOwn hookBefore; refine wpAny_bind ?_; rw [if_pos (show onTheHeap (Value.ref D) = true from rfl)]
  refine k2.at (wpAny_bind (wpAny_attempt (wpAny_holding ?_))); unfold callGetattribute; rw [z0, if_neg Bool.false_ne_true]; unfold boundAndCalled
  rw [PySem.F.excAttr_ValueError.ga.bind (.ref x)]; refine wpAny_bind (wpAny_pure ?_)
  show wpAny _ _ (call (.builtin "BaseException.__getattribute__") [.ref x, .str "__class__" tk]) _ _ _
  refine wpAny_call (codeAny_call_builtin PySem.F.excAttr_ValueError.ga.plain PySem.F.entry_bexc_ga (@check_slot (model prog w) _ _ ⟨hp, gs, dr, tk + 1, os⟩ "BaseException.__getattribute__" "BaseException" "__getattribute__" (.ref x) [.str "__class__" tk] [] _ (by decide +kernel) (by decide +kernel) ks (PySem.F.args_bexc_ga (.ref x) (.str "__class__" tk)) ?_))
  unfold Builtin.«object.__getattribute__»
  refine wpAny_bind (wpAny_of_eq (a := ((Value.ref x : Value), [Value.str "__class__" tk])) (by first | rfl | (simp only [slotArgs]; rfl)) (wpAny_bind (wpAny_pure (wpAny_bind (k0.at (wpAny_bind (k3.at ?_)))))))
  show wpAny _ _ (holding [Value.builtin "object.__class__"] (call (.builtin "getset_descriptor.__get__") [.builtin "object.__class__", .ref x, .ref D]) >>= ret) _ _ _
  refine wpAny_bind (wpAny_holding (wpAny_call (class_get (s := ⟨hp, gs, dr, tk + 1, os⟩) (ox := ox) (od := od) X J T.hm (wpAny_pure ?_))))
  show wpAny _ _ (handedOut (.ref D)) _ _ _
  rw [handedOut_of (v := .ref D) rfl]
  first | exact wpAny_pure (wpAny_pure h) | exact wpAny_pure h | exact wpAny_pure (wpAny_bind (wpAny_pure (wpAny_pure h)))
theorem l3_clsat (T : L2.ExcC K D) : ∃ d cd sl c, K.lookup D = some ⟨c, d, .cls cd, sl⟩ := by
  obtain ⟨c, e, _⟩ := any_some T.hd; unfold clsIn at e; split at e
  · rename_i c' d' cd' sl' ho; exact ⟨_, _, _, _, ho⟩
  · cases e
theorem l3_kitx (T : L2.ExcC K D) : KitX K (.ref x) (.ref D) (fun h => InstAt h x ox D od) where
  ty := fun _ _ _ I => I.type
  it := fun M h X _ => by
    obtain ⟨d, cd, sl, c, ho⟩ := l3_clsat T
    intro A' Q' E' s' k q; unfold isType loadHead; exact wpAny_bind (wpAny_loadPart (k _ _ (X _ _ ho)) (wpAny_pure q))
  ne := fun h tp dd its n sl X htp => by
    obtain ⟨d, cd, sl', c, ho⟩ := l3_clsat T
    refine Bool.eq_false_iff.mpr fun q => ?_
    have z : D = tp := Value.ref.inj (beq_iff_eq.mp q); rw [← z, X _ _ ho] at htp; cases htp
  ca := fun X I k => l3_classF T X I k
end
end PySem.W
namespace L3
open PySem PySem.Spec PyProof.Rows L2
/-! ### a suite that holds an exception with its field -/
section
variable {X : Cx} {W : XW} {Cd a dd : Addr} {oe : Obj} {pn : List (Addr × Obj)} {i : Nat} {n tn f : Str} {p p1 p2 pos : Pos} {b : Bool} {cv : Value}
/-- the dict of a caught exception -/
def HasXd (H : Hp) (dd : Addr) : Prop := ∃ fs, H dd = some (.xd fs)
theorem inst_xd {pins : List (Addr × Obj)} {σ : L2.St} {H : Hp} {s : Shared} (I : Inv (X.suite a ((a, oe) :: pn)) pins σ H s) (hz : Zc (.ref Cd) (some dd) oe) (hf : ∃ vs, oe.data = .fields vs) (hd : HasXd H dd) : ∃ od, PySem.W.InstAt s.heap a oe Cd (some od) := by
  obtain ⟨ha, _⟩ := I.pin (a, oe) (List.mem_append_left _ List.mem_cons_self)
  obtain ⟨vs, hv⟩ := hf
  obtain ⟨fs, hd⟩ := hd
  obtain ⟨mA, hns, hr⟩ := (show ObjOk X.prog X.w H s.heap dd (.xd fs) from I.hok dd _ hd)
  obtain ⟨od, ho, hl⟩ := lookIn_ns hns
  exact ⟨od, ha, hz.1, by unfold PySem.W.notCls; rw [hv], by rw [hz.2]; exact ho⟩
def rIsF (K : PySem.W.Frag) (Cd a dd : Addr) : List V → Hp → VK → Prop := fun xs H Q => ∃ (c : V) (cv : Value) (b : Bool), xs = [.ref a, c] ∧ HasXd H dd ∧ (∀ u, RelV c u → u = cv) ∧ PySem.W.kitOne K (.ref Cd) cv = some b ∧ Q (.bl b) H
theorem call_isF (C : ExcC X.K Cd) (hz : Zc (.ref Cd) (some dd) oe) (hf : ∃ vs, oe.data = .fields vs) : CallR (X.suite a ((a, oe) :: pn)) (.builtin "isinstance") (rIsF X.K Cd a dd) := by
  intro pins s σ H xs us Q I r ⟨c, cv, b, e0, hd, hcv, e, q⟩
  subst e0
  cases r with
  | cons rx rr => cases rr with
    | cons rt rr =>
      cases rr; cases rx
      have ec := hcv _ rt
      subst ec
      obtain ⟨od, J⟩ := inst_xd I hz hf hd
      exact PySem.W.kia_one (PySem.W.l3_kitx C) I.kIn J e (fun z => nomatch z) fun tk => ⟨.bl b, H, I.kept (t' := tk) fun _ _ z => z, rfl, q⟩
def rIsFt (K : PySem.W.Frag) (Cd a dd : Addr) : List V → Hp → VK → Prop := fun xs H Q => ∃ (q : Addr) (cs : List Addr) (b : Bool), xs = [.ref a, .ref q] ∧ HasXd H dd ∧ H q = some (.tup (cs.map V.ref)) ∧ PySem.W.kitAny K (.ref Cd) (cs.map Value.ref) = some b ∧ Q (.bl b) H
theorem call_isFt (C : ExcC X.K Cd) (hz : Zc (.ref Cd) (some dd) oe) (hf : ∃ vs, oe.data = .fields vs) : CallR (X.suite a ((a, oe) :: pn)) (.builtin "isinstance") (rIsFt X.K Cd a dd) := by
  intro pins s σ H xs us Q I r ⟨tq, cs, b, e0, hd, hq, e, q⟩
  subst e0
  cases r with
  | cons rx rr => cases rr with
    | cons rt rr =>
      cases rr; cases rx; cases rt
      obtain ⟨od, J⟩ := inst_xd I hz hf hd
      obtain ⟨_, its, rv, ot, e1, e2, nt, e3⟩ := (show ObjOk X.prog X.w H s.heap tq (.tup (cs.map V.ref)) from I.hok tq _ hq)
      have ei := vals_refs_eq rv
      subst ei
      obtain ⟨tc, td, tdt, tsl⟩ := ot
      dsimp only at e2 e3
      subst e2 e3
      exact PySem.W.kia_tup (PySem.W.l3_kitx C) I.kIn J e1 e (fun z => nomatch z) fun tk => ⟨.bl b, H, I.kept (t' := tk) fun _ _ z => z, rfl, q⟩
/-- isinstance(n, ..), n the exception with its field -/
def mIsF (i a dd : Nat) (b : Bool) (σ : DSt) (S : Store) : Res D := match σ[i]? with
  | some (some (.exf a' dd' _ _)) => if a' = a ∧ dd' = dd then .ok (.bl b) S else .stuck
  | _ => .stuck
theorem isF_reading {K : PySem.W.Frag} {mg : Str → Option Value} {w : Wd} {H : Hp} {S : Store} {dσ : DSt} {σ : L2.St} {Q : VK} (A : Ab K w H mg S) (R : RSt K w H dσ σ) (P : Post K mg (Rep K) W σ w H (mIsF i a dd b dσ S) Q) : σ[i]? = some (some (.ref a)) ∧ HasXd H dd ∧ Post K mg (Rep K) W σ w H (.ok (.bl b) S) Q := by
  unfold mIsF at P
  split at P
  · rename_i a' d' f' z' e
    split at P
    · rename_i ha
      obtain ⟨rfl, rfl⟩ := ha
      obtain ⟨v, e1, r⟩ := R.2 i _ e
      simp only [Rep] at r
      rw [r.1] at e1
      exact ⟨e1, ⟨_, r.2.2.2⟩, P⟩
    · exact P.elim
  · exact P.elim
theorem pm_isF {c : V} (C : ExcC X.K Cd) (hz : Zc (.ref Cd) (some dd) oe) (hf : ∃ vs, oe.data = .fields vs) (hg : Gl X "isinstance") (hm : X.mg "isinstance" = none) (hv : bootBuiltins "isinstance" = some (.builtin "isinstance"))
    (hN : X.N[i]? = some n) (hvs : Vis X.env.scope n) (hc : PE (X.suite a ((a, oe) :: pn)) (.Name tn p2) (tC c)) (hcv : ∀ u, RelV c u → u = cv) (hk : PySem.W.kitOne X.K (.ref Cd) cv = some b)
    (hd : (n == ("__debug__" : Str)) = false := by decide) (hcd : (n == ("__classdict__" : Str)) = false := by decide)
    (he : starEach [.Name n p1, .Name tn p2] X.env = (false, eval (.Name n p1) X.env) :: starEach [.Name tn p2] X.env := by rfl) (hpl : (backTo pos (starEach [.Name tn p2] X.env)).any (·.1) = false := by rfl)
    (he2 : starEach [.Name tn p2] X.env = (false, eval (.Name tn p2) X.env) :: starEach [] X.env := by rfl) :
    PM (X.suite a ((a, oe) :: pn)) W (.Call (.Name "isinstance" p) [.Name n p1, .Name tn p2] [] pos) (mIsF i a dd b) :=
  PE.imp (pe_callB (X := X.suite a ((a, oe) :: pn)) (call_isF C hz hf) hg hm hv (pa_cons (pe_var hN hvs hd hcd) (pa_cons hc pa_nil he2) he) (by decide) (by decide) he hpl) fun σ H Q ⟨w, dσ, S, A, R, P⟩ => by
    obtain ⟨e1, h2, P⟩ := isF_reading A R P
    exact ⟨_, e1, c, cv, b, rfl, h2, hcv, hk, P.fin A (of_bl b)⟩
theorem pm_isFt {es : List Expr} {x1} {tp : Pos} {cs : List Addr} (C : ExcC X.K Cd) (hz : Zc (.ref Cd) (some dd) oe) (hf : ∃ vs, oe.data = .fields vs) (hg : Gl X "isinstance") (hm : X.mg "isinstance" = none) (hv : bootBuiltins "isinstance" = some (.builtin "isinstance"))
    (hN : X.N[i]? = some n) (hvs : Vis X.env.scope n) (hc : PA (X.suite a ((a, oe) :: pn)) es (tCs (cs.map V.ref))) (hk : PySem.W.kitAny X.K (.ref Cd) (cs.map Value.ref) = some b) (hl : cs.length ≤ 100)
    (hd : (n == ("__debug__" : Str)) = false := by decide) (hcd : (n == ("__classdict__" : Str)) = false := by decide)
    (he : starEach [.Name n p1, .Tuple es x1 tp] X.env = (false, eval (.Name n p1) X.env) :: starEach [.Tuple es x1 tp] X.env := by rfl) (hpl : (backTo pos (starEach [.Tuple es x1 tp] X.env)).any (·.1) = false := by rfl)
    (he2 : starEach [.Tuple es x1 tp] X.env = (false, eval (.Tuple es x1 tp) X.env) :: starEach [] X.env := by rfl) :
    PM (X.suite a ((a, oe) :: pn)) W (.Call (.Name "isinstance" p) [.Name n p1, .Tuple es x1 tp] [] pos) (mIsF i a dd b) :=
  PE.imp (pe_callB (X := X.suite a ((a, oe) :: pn)) (call_isFt C hz hf) hg hm hv (pa_cons (pe_var hN hvs hd hcd) (pa_cons (pe_tup hc) pa_nil he2) he) (by decide) (by decide) he hpl) fun σ H Q ⟨w, dσ, S, A, R, P⟩ => by
    obtain ⟨e1, h2, P⟩ := isF_reading A R P
    obtain ⟨fs, h2⟩ := h2
    refine ⟨_, e1, by rw [List.length_map, sizeLine_eq]; exact Nat.le_trans hl (by decide), fun q hq => ⟨q, cs, b, rfl, ⟨fs, ?_⟩, upd_same .., hk, ?_⟩⟩
    · rw [upd_ne (fun z => by rw [z, hq] at h2; cases h2)]; exact h2
    · exact P w _ _ (Ex.new hq) (A.newF hq) (of_bl b)
/-- n.f -/
def mXf (i a dd : Nat) (f : Str) (σ : DSt) (S : Store) : Res D := match σ[i]? with
  | some (some (.exf a' dd' f' z)) => if a' = a ∧ dd' = dd ∧ f' = f then .ok (.int z) S else .stuck
  | _ => .stuck
theorem pm_xf (T : XfC X.K Cd) (hno : PySem.W.findIn X.K (.ref Cd) f = some none) (hz : Zc (.ref Cd) (some dd) oe) (hf : ∃ vs, oe.data = .fields vs) (hN : X.N[i]? = some n) (hvs : Vis X.env.scope n)
    (hd : (n == ("__debug__" : Str)) = false := by decide) (hcd : (n == ("__classdict__" : Str)) = false := by decide) (hb : attributeBase (.Name n p1) f X.env (eval (.Name n p1) X.env) = eval (.Name n p1) X.env := by rfl) :
    PM (X.suite a ((a, oe) :: pn)) W (.Attribute (.Name n p1) f pos) (mXf i a dd f) :=
  PE.imp (pe_xf T hno hz hf (pe_var (X := X.suite a ((a, oe) :: pn)) hN hvs hd hcd) hb) fun σ H Q ⟨w, dσ, S, A, R, P⟩ => by
    unfold mXf at P
    split at P
    · rename_i a' d' f' z' e
      split at P
      · rename_i ha
        obtain ⟨rfl, rfl, rfl⟩ := ha
        obtain ⟨v, e1, r⟩ := R.2 i _ e
        simp only [Rep] at r
        rw [r.1] at e1
        exact ⟨_, e1, rfl, rfl, _, _, _, rfl, r.2.2.2, by rw [List.lookup_cons, beq_self_eq_true], P.fin A (of_int z')⟩
      · exact P.elim
    · exact P.elim
end
end L3
namespace L3
open PySem PySem.Spec PyProof.Rows L2
/-! ### try .. except X as n, where the exception may have a field -/
section
variable {X : Cx} {W : XW} {x : Str} {pos : Pos}
open Classical in
/-- whatever the exception's address is, and its dict's -/
noncomputable def suiteF (i : Nat) (f : Str) (z : Int) (m : Nat → Nat → DSt → Store → Res Fl) (σ : DSt) (S : Store) : Res Fl := if h : ∃ r, ∀ a dd, finT i (m a dd (σ.set i (some (.exf a dd f z))) S) = r then h.choose else .stuck
theorem suiteF_of {i : Nat} {f : Str} {z : Int} {m : Nat → Nat → DSt → Store → Res Fl} {σ : DSt} {S : Store} {r : Res Fl} (h : ∀ a dd, finT i (m a dd (σ.set i (some (.exf a dd f z))) S) = r) : suiteF i f z m σ S = r := by
  unfold suiteF
  have hx : ∃ r, ∀ a dd, finT i (m a dd (σ.set i (some (.exf a dd f z))) S) = r := ⟨r, h⟩
  rw [dif_pos hx]
  exact (hx.choose_spec 0 0).symm.trans (h 0 0)
noncomputable def caughtF (l : List (Str × (Nat → DSt → Store → Res Fl))) (lf : List (Str × (Nat → Nat → DSt → Store → Res Fl))) (i : Nat) (c : Str) (fs : List (Str × D)) (σ1 : DSt) (S1 : Store) : Res Fl := match fs with
  | [] => (match l.lookup c with
    | some m => suiteT i m σ1 S1
    | none => .stuck)
  | [(f, .int z)] => (match lf.lookup c with
    | some m => suiteF i f z m σ1 S1
    | none => .stuck)
  | _ => .stuck
noncomputable def mTryF (l : List (Str × (Nat → DSt → Store → Res Fl))) (lf : List (Str × (Nat → Nat → DSt → Store → Res Fl))) (i : Nat) (mb : DSt → Store → Res Fl) (σ : DSt) (S : Store) : Res Fl := match mb σ S with
  | .ok (.ex c fs σ1) S1 => caughtF l lf i c fs σ1 S1
  | r => r
theorem fin_suite {K : PySem.W.Frag} {mg : Str → Option Value} {w w' : Wd} {H H' : Hp} {D : Ends} {i : Nat} {r0 r : Res Fl} (e : Ex w H w' H') (hr : finT i r0 = r) (P : PostS K mg W w H r D) : PostS K mg W0 w' H' r0 { D with nx := fun σ H => D.nx (σ.set i none) H, bk := fun σ H => D.bk (σ.set i none) H, ct := fun σ H => D.ct (σ.set i none) H } := by
  cases r0 with
  | stuck => rw [← hr] at P; exact P.elim
  | exc c2 fs2 S2 => rw [← hr] at P; exact P.elim
  | ok fl2 S2 => cases fl2 with
    | nx σ2 => rw [← hr] at P; exact fun w2 H2 σ3 e2 A2 R2 => P w2 H2 _ (e.trans e2) A2 (R2.wipe1 i none)
    | rt d => rw [← hr] at P; exact fun w2 H2 v e2 A2 r2 => P w2 H2 v (e.trans e2) A2 r2
    | bk d => rw [← hr] at P; exact P.elim
    | ct d => rw [← hr] at P; exact P.elim
    | ex _ _ _ => rw [← hr] at P; exact P.elim
theorem of_exf {K : PySem.W.Frag} {mg : Str → Option Value} {w : Wd} {H : Hp} {S : Store} (A : Ab K w H mg S) {f : Str} {z : Int} {dd : Addr} (x : XRel K w H [(f, .int z)] (some dd)) (a : Nat) : Rep K w H (.exf a dd f z) (.ref a) := by
  obtain ⟨_, vs, h1, h2, h3⟩ := x
  simp only [RKv] at h2
  obtain ⟨v, r, rfl, hv, rfl⟩ := h2
  simp only [Rep] at hv ⊢
  subst hv
  refine ⟨trivial, h3, fun z => ?_, h1⟩
  obtain ⟨xs, e⟩ := A.bt _ z
  rw [h1] at e
  cases e
theorem pms_tryF {i : Nat} {n : Str} {c : Value} {np pos' : Pos} {l : List (Str × (Nat → DSt → Store → Res Fl))} {lf : List (Str × (Nat → Nat → DSt → Store → Res Fl))} {body suite : List Stmt} {b₀ : Stmt} {mb : DSt → Store → Res Fl} (hs : X.stack = X.env :: X.outer) (hf : X.env.frame = some X.env.locals) (hN : X.N.Nodup) (hi : X.N[i]? = some n) (hln : X.env.kindOf n = some .local) (hc : Names X x c)
    (hb : ∀ (W : WX) (pn : List (Addr × Obj)) (xe : Value → Shared → Prop), Takes (X.tr pn xe) W → PMSs (X.tr pn xe) W body mb)
    (hsu : ∀ y ∈ l, ∃ D, X.mg y.1 = some (.ref D) ∧ PySem.W.exmOne X.K (.ref D) c = some true ∧ ∀ (a : Addr) (oe : Obj) (pn : List (Addr × Obj)), Zc (.ref D) none oe → (∃ vs, oe.data = .fields vs) → PMSs (X.suite a ((a, oe) :: pn)) W0 (b₀ :: suite) (y.2 a))
    (hsf : ∀ y ∈ lf, ∃ D, X.mg y.1 = some (.ref D) ∧ PySem.W.exmOne X.K (.ref D) c = some true ∧ ∀ (a dd : Addr) (oe : Obj) (pn : List (Addr × Obj)), Zc (.ref D) (some dd) oe → (∃ vs, oe.data = .fields vs) → PMSs (X.suite a ((a, oe) :: pn)) W0 (b₀ :: suite) (y.2 a dd)) :
    PMS X W (.Try body [.ExceptHandler (some (.Name x np)) (some n) (b₀ :: suite) pos'] [] [] pos) (mTryF l lf i mb) := by
  have key := ps_try_as (i := i) (x := x) (n := n) (c := c) (np := np) (pos := pos) (pos' := pos') (body := body) (suite := suite) (b₀ := b₀) (Wout := W0) (tb := fun W => tOfS X.K X.mg W mb)
    (ts := fun a cls d D σ H => (∃ y, y ∈ l ∧ ∃ Da, cls = .ref Da ∧ X.mg y.1 = some (.ref Da) ∧ d = none ∧ tOfS X.K X.mg W0 (y.2 a) D σ H) ∨ (∃ y, y ∈ lf ∧ ∃ Da dd, cls = .ref Da ∧ X.mg y.1 = some (.ref Da) ∧ d = some dd ∧ tOfS X.K X.mg W0 (y.2 a dd) D σ H)) hs hf hN hi hln hc takes0 (fun W pn xe tk _ => hb W pn xe tk) (fun a oe cls d pn hz hfd => ⟨fun pins s σ H D I h => by
      rcases h with ⟨y, hy, Da, rfl, hm, rfl, h⟩ | ⟨y, hy, Da, dd, rfl, hm, rfl, h⟩
      · obtain ⟨D', hD, _, hp⟩ := hsu y hy
        rw [hD] at hm
        cases hm
        exact (hp a oe pn hz hfd).run pins s σ H D I h
      · obtain ⟨D', hD, _, hp⟩ := hsf y hy
        rw [hD] at hm
        cases hm
        exact (hp a dd oe pn hz hfd).run pins s σ H D I h⟩)
  refine PS.imp key fun D σ H ⟨w, dσ, S, A, R, P⟩ => ⟨w, dσ, S, A, R, ?_⟩
  unfold mTryF at P
  cases hm : mb dσ S with
  | stuck => rw [hm] at P; exact P.elim
  | exc c' fs S' => rw [hm] at P; exact P.elim
  | ok fl S1 => cases fl with
    | nx d => rw [hm] at P; exact P
    | bk d => rw [hm] at P; exact P
    | ct d => rw [hm] at P; exact P
    | rt d => rw [hm] at P; exact P
    | ex c' fs σ1 =>
      rw [hm] at P
      replace P : PostS X.K X.mg W w H (caughtF l lf i c' fs σ1 S1) D := P
      unfold caughtF at P
      intro w' H' σ' C od e A' R' g xr
      split at P
      · split at P
        · rename_i m hlk
          obtain ⟨Dc, hD, hex, _⟩ := hsu _ (lookup_mem hlk)
          rw [hD] at g
          cases g
          have hod : od = none := by
            cases od with
            | none => rfl
            | some d => exact absurd rfl xr.1
          subst hod
          unfold suiteT at P
          split at P
          · rename_i hx
            refine ⟨true, hex, fun _ a ha => .inl ⟨_, lookup_mem hlk, _, rfl, hD, rfl, w', σ1.set i (some (.exn a)), S1, A', R'.set (of_exn a) i, ?_⟩, fun z => by cases z⟩
            exact fin_suite e (hx.choose_spec a) P
          · exact P.elim
        · exact P.elim
      · rename_i f z
        split at P
        · rename_i m hlk
          obtain ⟨Dc, hD, hex, _⟩ := hsf _ (lookup_mem hlk)
          rw [hD] at g
          cases g
          obtain ⟨dd, rfl⟩ : ∃ dd, od = some dd := by
            cases od with
            | none => cases xr
            | some d => exact ⟨d, rfl⟩
          unfold suiteF at P
          split at P
          · rename_i hx
            refine ⟨true, hex, fun _ a ha => .inr ⟨_, lookup_mem hlk, _, dd, rfl, hD, rfl, w', σ1.set i (some (.exf a dd f z)), S1, A', R'.set (of_exf A' xr a) i, ?_⟩, fun z => by cases z⟩
            exact fin_suite e (hx.choose_spec a dd) P
          · exact P.elim
        · exact P.elim
      · exact P.elim
end
end L3
namespace L3
open PySem PySem.Spec PyProof.Rows L2
/-! ### set(x), by what its update leaves -/
abbrev setNew (w : World) : Obj := { cls := .type "set", dict := none, data := .set #[] 0 (.fresh 0 0 (!w.params.followText "set-order")) }
section
variable {prog : Program} {w : World} {A : Around} {E : Value → Shared → Prop} {s : Shared}
set_option maxHeartbeats 3200000 in
theorem set_call {x : Value} {R : Shared → Prop} {Q : Value → Shared → Prop}
    (up : ∀ E' : Value → Shared → Prop, wpAny (model prog w) A.in1.in1 (Builtin.Frozenset.updateFrom "set.__init__" s.heap.objs.size x) (fun _ s' => R s') E' { s with heap := s.heap.push (setNew w) })
    (fin : ∀ s', R s' → Q (.ref s.heap.objs.size) s') : wpAny (model prog w) A (call (.type "set") [x]) Q E s := by
  obtain ⟨cl, tl, mro⟩ := F.called_set.mro
  have made := F.called_set.made; have sb := F.called_set.sub
  have nt := F.called_set.notType; have cc := F.called_set.canCreate; have ct := F.typeCall_set_1 x
  refine wpAny_call (codeAny_of_tree (show wpAny _ _ (callAny (.type "set") _) _ _ _ from wpAny_pure ⟨Code.quiet_builtin _ (by decide +kernel), codeAny_builtin F.entry_type_call ?_⟩))
  rw [Around.under_plain (weight_type_call_type "set" [x] []) rfl]
  repeat (any_goals (first | assumption | wp_step))
  refine codeAny_mono (code_set_led1 x (E := E) (Q₁ := fun ob s1 => ob = .ref s.heap.objs.size ∧ s1 = { s with heap := s.heap.push (setNew w) }) ⟨rfl, rfl⟩) fun r s1 hr => ?_
  cases r with
  | error e => exact hr
  | ok fl =>
    cases fl with
    | ret ob =>
      obtain ⟨rfl, rfl⟩ := hr
      have ty : Shared.TypeIs { s with heap := s.heap.push (setNew w) } (.ref s.heap.objs.size) "set" := ⟨_, Heap.get?_push_size _ rfl, rfl⟩
      have ho : (s.heap.push (setNew w)).get? s.heap.objs.size = some (setNew w) := Heap.get?_push_size _ rfl
      have il := F.called_set.init.lookup; have ib := F.called_set.init.bind (.ref s.heap.objs.size)
      repeat (any_goals (first | assumption | wp_step))
      refine codeAny_mono (codeAny_call_builtin (R := wants (fun r s2 => r = .none ∧ R s2) E) F.called_set.init.plain F.entry_set_init (check_set_init_1 ty ?_)) fun r2 s2 hr2 => ?_
      · have u1 := up
        unfold Builtin.«set.__init__» noKeywords
        generalize hUF : Builtin.Frozenset.updateFrom = UF at u1 ⊢
        wp_walk
        exact wpAny_mono (u1 _) (fun _ s' h => wpAny_pure ⟨rfl, h⟩) fun _ _ h => h
      · cases r2 with
        | error e => exact hr2
        | ok f2 =>
          cases f2 with
          | ret r =>
            obtain ⟨rfl, hs2⟩ := hr2
            repeat (any_goals (first | assumption | wp_step))
            exact fin _ hs2
          | _ => exact hr2.elim
    | _ => exact hr.elim
theorem upd_walk {x : Value} {T : String} {S : Addr} {Q : Unit → Shared → Prop} (hT : s.TypeIs x T) (h1 : isSubtype (.type T) (.type "set") = pure false) (h2 : isSubtype (.type T) (.type "frozenset") = pure false) (h3 : (Value.type T == Value.type "dict") = false)
    (hi : wpAny (model prog w) A (pyIter x) (fun v s1 => ∃ I, v = .ref I ∧ codeAny (model prog w) A (.builtin "set.update.loop" ⟨[.ref S, .ref I], []⟩) (wants (fun _ s2 => Q () s2) E) s1) E s) :
    wpAny (model prog w) A (Builtin.Frozenset.updateFrom "set.__init__" S x) Q E s := by
  unfold Builtin.Frozenset.updateFrom Builtin.Frozenset.isAnySet orM
  refine wpAny_bind (wpAny_bind (wpAny_isInstance hT h1 (show wpAny _ _ (isInstance x (.type "frozenset")) _ _ s from wpAny_isInstance hT h2 ?_)))
  simp only [Bool.false_eq_true, if_false]
  refine wpAny_bind (wpAny_typeOf hT ?_)
  simp only [h3, Bool.false_eq_true, if_false]
  refine wpAny_bind (wpAny_mono hi ?_ fun _ _ h => h)
  rintro _ s1 ⟨I, rfl, hc⟩
  refine wpAny_bind (wpAny_runValue ?_)
  refine codeAny_mono hc fun r s' h => ?_
  cases r with
  | error e => exact h
  | ok f => cases f with
    | ret v => exact wpAny_pure h
    | _ => exact h.elim
/-- what x's iterator gives, beside a new set at S -/
def Feeds (prog : Program) (w : World) (A : Around) (s0 : Shared) (S : Addr) (x : Value) (n : Nat) (Pv : Nat → Value → Prop) : Prop :=
  ∀ (E : Value → Shared → Prop) (Q : Value → Shared → Prop), (∀ (I : Addr) (fp : List Addr) (St : Nat → Shared → Prop) (o : Obj), WalksS prog w A.in1 I fp [I] (fun a b => b = a) n Pv St → S ∉ fp → I = s0.heap.objs.size →
    St 0 { s0 with heap := s0.heap.push o } → Q (.ref I) { s0 with heap := s0.heap.push o }) → wpAny (model prog w) A (pyIter x) Q E s0
theorem feeds_list {A : Around} {s0 : Shared} {S l : Addr} {items : Array Value} (hh : A.in1.handled = none) (hl : s0.heap.IsList l items) (h1 : S < s0.heap.objs.size) (h2 : S ≠ l) : Feeds prog w A s0 S (.ref l) items.size (fun i v => items[i]? = some v) := by
  intro E Q k
  have lt : l < s0.heap.objs.size := by obtain ⟨o, ho, _⟩ := hl; exact Heap.lt_size ho
  refine wpAny_pyIter_list hl (k _ _ _ _ (Walks.list hh _ l (Nat.ne_of_lt lt) items).toS (fun z => ?_) rfl ⟨⟨_, Heap.get?_push_size _ rfl, rfl, rfl⟩, hl.push _⟩)
  rcases List.mem_cons.mp z with z | z
  · exact absurd z (Nat.ne_of_lt h1)
  · exact h2 (List.mem_singleton.mp z)
theorem feeds_tup {A : Around} {s0 : Shared} {S l : Addr} {items : Array Value} (hh : A.in1.handled = none) (hl : s0.heap.IsTuple l items) (h1 : S < s0.heap.objs.size) (h2 : S ≠ l) : Feeds prog w A s0 S (.ref l) items.size (fun i v => items[i]? = some v) := by
  intro E Q k
  have lt : l < s0.heap.objs.size := by obtain ⟨o, ho, _⟩ := hl; exact Heap.lt_size ho
  refine wpAny_pyIter_tuple hl (k _ _ _ _ (Walks.tuple hh _ l (Nat.ne_of_lt lt) items).toS (fun z => ?_) rfl ⟨⟨_, Heap.get?_push_size _ rfl, rfl, rfl⟩, hl.push _⟩)
  rcases List.mem_cons.mp z with z | z
  · exact absurd z (Nat.ne_of_lt h1)
  · exact h2 (List.mem_singleton.mp z)
theorem feeds_str {A : Around} {s0 : Shared} {S : Addr} {x : Str} {t : Tok} (hh : A.in1.handled = none) (h1 : S < s0.heap.objs.size) : Feeds prog w A s0 S (.str x t) x.cps.size (SignAt x) := by
  intro E Q k
  refine wpAny_pyIter_str fun o St W st => k _ _ _ o (W _ hh).toS (fun z => ?_) rfl st
  exact absurd (List.mem_singleton.mp z) (Nat.ne_of_lt h1)
/-- set(x) of what is fed -/
theorem set_fed {x : Value} {T : String} {n : Nat} {Pv : Nat → Value → Prop} {R : Shared → Prop} {Q : Value → Shared → Prop} (hT : ({ s with heap := s.heap.push (setNew w) } : Shared).TypeIs x T) (h1 : isSubtype (.type T) (.type "set") = pure false) (h2 : isSubtype (.type T) (.type "frozenset") = pure false) (h3 : (Value.type T == Value.type "dict") = false)
    (hF : Feeds prog w A.in1.in1 { s with heap := s.heap.push (setNew w) } s.heap.objs.size x n Pv)
    (loop : ∀ (E' : Value → Shared → Prop) (I : Addr) (fp : List Addr) (St : Nat → Shared → Prop) (s1 : Shared), WalksS prog w A.in1.in1.in1 I fp [I] (fun a b => b = a) n Pv St → s.heap.objs.size ∉ fp → I = s.heap.objs.size + 1 → St 0 s1 →
      s1.gens = s.gens → s1.drawn = s.drawn → s1.os = s.os → s1.heap.get? s.heap.objs.size = some (setNew w) → (∀ b o, s.heap.get? b = some o → s1.heap.get? b = some o) →
      codeAny (model prog w) A.in1.in1 (.builtin "set.update.loop" ⟨[.ref s.heap.objs.size, .ref I], []⟩) (wants (fun _ s2 => R s2) E') s1)
    (fin : ∀ s', R s' → Q (.ref s.heap.objs.size) s') : wpAny (model prog w) A (call (.type "set") [x]) Q E s := by
  refine set_call (fun E' => upd_walk hT h1 h2 h3 (hF _ _ fun I fp St o W hS hI st => ⟨I, rfl, loop E' I fp St _ W hS ?_ st rfl rfl rfl ?_ fun b u e => Heap.get?_push_of_some _ (Heap.get?_push_of_some _ e)⟩)) fin
  · rw [hI, Heap.size_push]
  · exact Heap.get?_push_of_some _ (Heap.get?_push_size _ rfl)
end
/-! ### sets of texts -/
def keyX (e : Int × Value) : Str := match e.2 with | .str k _ => k | _ => Str.empty
def EntX (w : World) (e : Int × Value) : Prop := ∃ k tk, e.2 = Value.str k tk ∧ e.1 = hashStr w k
/-- the set at a holds the texts xs, in its table's order -/
def SetX (w : World) (h : Heap) (a : Addr) (xs : List Str) : Prop :=
  ∃ o es ep t, h.get? a = some o ∧ o.ExactSet ∧ o.data = .set es ep t ∧ (∀ e ∈ es.toList, EntX w e) ∧ es.toList.map keyX = xs ∧ xs.Nodup ∧ es.size < scanBound ∧ t.fits es.size = true ∧ Ris t.place.toList ∧ (w.params.followText "set-order" = true ∨ t.led = true)
section
variable {P : Program} {w : World} {A : Around} {E : Value → Shared → Prop} {s : Shared} {a : Addr} {xs : List Str}
theorem entX_is {e : Int × Value} (g : EntX w e) (k : Str) : (PySem.strKind P w).is k e.2 = true ↔ keyX e = k := by
  obtain ⟨k0, tk, h1, _⟩ := g
  have h2 : (PySem.strKind P w).is k0 e.2 = true := by rw [h1]; exact strKind_is P w k0 tk
  have h3 : keyX e = k0 := by unfold keyX; rw [h1]
  rw [h3]
  exact ⟨fun h => (PySem.strKind P w).inj _ _ _ h2 h, fun h => h ▸ h2⟩
theorem entX_elems {l : List (Int × Value)} (g : ∀ e ∈ l, EntX w e) : ElemsOf (PySem.strKind P w) l := fun e he => by
  obtain ⟨k, tk, h1, h2⟩ := g e he
  exact ⟨⟨k, by rw [h1]; exact strKind_is P w k tk, h2⟩, by rw [h1]; rfl⟩
theorem setX_new {h : Heap} {a : Addr} (ho : h.get? a = some (setNew w)) : SetX w h a [] :=
  ⟨_, #[], 0, _, ho, ⟨rfl, rfl, rfl⟩, rfl, fun e he => by simp at he, rfl, List.nodup_nil, by decide, rfl, List.Pairwise.nil, by
    show _ ∨ (!w.params.followText "set-order") = true
    cases w.params.followText "set-order" <;> simp⟩
theorem SetX.keep {h h' : Heap} (R : SetX w h a xs) (k : ∀ o, h.get? a = some o → h'.get? a = some o) : SetX w h' a xs := by
  obtain ⟨o, es, ep, t, ho, r⟩ := R
  exact ⟨o, es, ep, t, k o ho, r⟩
/-- what is stored behind a new entry, the table laid anew where it is too full -/
theorem setX_tail {g : Bool → Sem Unit} (hg : ∀ (b : Bool) (s1 : Shared) (Q' : Unit → Shared → Prop), Q' () s1 → wpAny (model P w) A (g b) Q' E s1)
    {o : Obj} {es es1 : Array (Int × Value)} {ep : Nat} {t t2 : SetTable} (ho : s.heap.get? a = some o) (hex : o.ExactSet) (hd : o.data = .set es ep t) (g1 : ∀ e ∈ es1.toList, EntX w e) (nd1 : (es1.toList.map keyX).Nodup)
    (hb1 : es1.size < scanBound) (hf2 : t2.fits es1.size = true) (hr : Ris t2.place.toList) (hl : w.params.followText "set-order" = true ∨ t2.led = true) {wasDummy : Bool} {R : Option Bool → Shared → Prop}
    (hR : ∀ h' ys, Heap.SameBut a s.heap h' → SetX w h' a ys → ys.Perm (es1.toList.map keyX) → R (some true) { s with heap := h' }) :
    wpAny (model P w) A (do
        storeSet a es1 t2
        if (!wasDummy && t2.tooFull) = true then do
            g (relayAll t2 es1 (SetTable.grown es1.size)).2.2
            storeSet a (relayAll t2 es1 (SetTable.grown es1.size)).1 (relayAll t2 es1 (SetTable.grown es1.size)).2.1
            pure (some true)
          else pure (some true)) R E s := by
  have w1 := store_at (es' := es1) (t' := t2) ho hd
  have q1 := Heap.SameBut.update s.heap a (Obj.putSet es1 t2)
  refine wpAny_bind (wpAny_storeSet_of ho hd ?_ (fits_of_scanBound hb1))
  split
  · have p2 := relayAll_perm t2 es1 (SetTable.grown es1.size); have f2 := relayAll_fits t2 es1 (SetTable.grown es1.size)
    have r2 := relayAll_ris t2 es1 (SetTable.grown es1.size); have l2 := relayAll_led t2 es1 (SetTable.grown es1.size)
    generalize relayAll t2 es1 (SetTable.grown es1.size) = Y at p2 f2 r2 l2 ⊢
    obtain ⟨es2, t3, gv⟩ := Y
    dsimp only at p2 f2 r2 l2 ⊢
    have z2 : es2.size = es1.size := by rw [← Array.length_toList, p2.length_eq, Array.length_toList]
    refine wpAny_bind (hg _ _ _ (wpAny_bind (wpAny_storeSet_of w1 rfl ?_ (fits_of_scanBound (by rw [z2]; exact hb1)))))
    refine wpAny_pure (hR _ _ (q1.trans (Heap.SameBut.update _ a _)) ⟨_, es2, _, t3, store_at (es' := es2) (t' := t3) w1 rfl, hex, rfl, fun e he => g1 e (p2.mem_iff.mp he), rfl, (p2.map keyX).nodup_iff.mpr nd1, by rw [z2]; exact hb1, f2, r2, hl.imp id fun z => by rw [l2]; exact z⟩ (p2.map keyX))
  · exact wpAny_pure (hR _ _ q1 ⟨_, es1, _, t2, w1, hex, rfl, g1, rfl, nd1, hb1, hf2, hr, hl⟩ (List.Perm.refl _))
/-- a text added -/
theorem setX_add {k : Str} {tk : Tok} {Q : Bool → Shared → Prop} (R : SetX w s.heap a xs) (room : xs.length + 1 < scanBound)
    (hQ : ∀ b h' ys, Heap.SameBut a s.heap h' → SetX w h' a ys → (k ∈ xs ∧ ys = xs ∨ k ∉ xs ∧ ys.Perm (k :: xs)) → Q b { s with heap := h' }) :
    wpAny (model P w) A (setAddHashed a (.str k tk) ((PySem.strKind P w).hash k)) Q E s := by
  obtain ⟨o, es, ep, t, ho, hex, hd, g, rfl, nd, hb, hf, hr, hl⟩ := R
  have hkey : (PySem.strKind P w).is k (.str k tk) = true := strKind_is P w k tk
  have hel : ElemsOf (PySem.strKind P w) es.toList := entX_elems g
  have hsc : (Value.str k tk).scannable = true := rfl
  unfold setAddHashed setAddHashedIn
  refine wpAny_holding (wpAny_bind (wpAny_setState_of ho hd hf ?_))
  dsimp only
  rw [byScan_of hsc hb hel]
  simp only [↓reduceIte]
  unfold setAddByScan
  refine wpAny_bind (wpAny_bind (wpAny_rule (wpAny_bind (wpAny_setScan_of hkey ho hd hf hel ?_))))
  cases hfi : List.findIdx? (fun e => (PySem.strKind P w).is k e.2) es.toList with
  | some j =>
    dsimp only
    obtain ⟨hj, pj, _⟩ := List.findIdx?_eq_some_iff_getElem.mp hfi
    have hm : k ∈ es.toList.map keyX := List.mem_map.mpr ⟨es.toList[j], List.getElem_mem hj, (entX_is (P := P) (g _ (List.getElem_mem hj)) k).mp pj⟩
    exact wpAny_pure (wpAny_pure (hQ _ s.heap _ (Heap.SameBut.refl a s.heap) ⟨o, es, ep, t, ho, hex, hd, g, rfl, nd, hb, hf, hr, hl⟩ (.inl ⟨hm, rfl⟩)))
  | none =>
    dsimp only
    have hnk : k ∉ es.toList.map keyX := fun z => by
      obtain ⟨e, he, q⟩ := List.mem_map.mp z
      have c := List.findIdx?_eq_none_iff.mp hfi e he
      rw [(entX_is (P := P) (g e he) k).mpr q] at c
      cases c
    have hgw : ∀ (b : Bool) {s1 : Shared} {Q' : Unit → Shared → Prop}, Q' () s1 → wpAny (model P w) A (match b with | true => rule "set.scan.the-table-gave-way" | false => pure ()) Q' E s1 :=
      fun b s1 Q' q => by cases b <;> first | exact wpAny_pure q | exact wpAny_rule q
    have pm := layNew_perm t es ((PySem.strKind P w).hash k) (.str k tk); have f1 := layNew_fits t es ((PySem.strKind P w).hash k) (.str k tk)
    have r1 := layNew_ris t es ((PySem.strKind P w).hash k) (.str k tk) hr; have l1 := layNew_led t es ((PySem.strKind P w).hash k) (.str k tk)
    generalize layNew t es ((PySem.strKind P w).hash k) (.str k tk) = Z at pm f1 r1 l1 ⊢
    obtain ⟨es1, t1, wd, gv⟩ := Z
    dsimp only at pm f1 r1 l1 ⊢
    rw [Array.toList_push] at pm
    have pc : es1.toList.Perm (((PySem.strKind P w).hash k, Value.str k tk) :: es.toList) := pm.trans (List.perm_append_singleton _ _)
    have pk : (es1.toList.map keyX).Perm (k :: es.toList.map keyX) := pc.map keyX
    have g1 : ∀ e ∈ es1.toList, EntX w e := fun e he => by
      rcases List.mem_cons.mp (pc.mem_iff.mp he) with z | z
      · exact ⟨k, tk, by rw [z], by rw [z]; rfl⟩
      · exact g e z
    have nd1 : (es1.toList.map keyX).Nodup := pk.nodup_iff.mpr (List.nodup_cons.mpr ⟨hnk, nd⟩)
    have hb1 : es1.size < scanBound := by
      have e1 : es1.size = (es.toList.map keyX).length + 1 := by rw [← Array.length_toList, pc.length_eq, List.length_cons, List.length_map]
      rw [e1]; exact room
    have hled : w.params.followText "set-order" = true ∨ t1.led = true := hl.imp id fun z => by rw [l1]; exact z
    have fin : ∀ h' ys, Heap.SameBut a s.heap h' → SetX w h' a ys → ys.Perm (es1.toList.map keyX) → Q true { s with heap := h' } := fun h' ys sb r pr => hQ _ h' ys sb r (.inr ⟨hnk, pr.trans pk⟩)
    refine wpAny_bind (hgw _ ?_)
    split
    · refine wpAny_bind ?_
      rw [hashByValue_scannable 8 hsc]
      refine wpAny_pure (setX_tail (fun b s1 Q' q => by cases b <;> first | exact wpAny_pure q | exact wpAny_rule q) ho hex hd g1 nd1 hb1 ?_ ?_ ?_ fun h' ys sb r pr => wpAny_pure (fin h' ys sb r pr))
      · first | (split <;> first | exact f1 | exact SetTable.fits_plain_off f1) | exact f1
      · first | (split <;> exact r1) | exact r1
      · first | (split <;> exact hled) | exact hled
    · refine wpAny_bind (wpAny_pure ?_)
      simp only [↓reduceIte]
      exact setX_tail (fun b s1 Q' q => by cases b <;> first | exact wpAny_pure q | exact wpAny_rule q) ho hex hd g1 nd1 hb1 f1 r1 hled fun h' ys sb r pr => wpAny_pure (fin h' ys sb r pr)
/-- set.update's loop over texts -/
theorem setX_loop {I : Addr} {fp wr : List Addr} {G : Array GenState → Array GenState → Prop} {n : Nat} {Pv : Nat → Value → Prop} {St : Nat → Shared → Prop} {R : Result → Shared → Prop} (W : WalksS P w A.in1 I fp wr G n Pv St) (S : Addr) (hSf : S ∉ fp)
    (src : List Str) (hn : n = src.length) (hb : n + 1 < scanBound) (hval : ∀ i v, Pv i v → ∃ x tk, src[i]? = some x ∧ v = .str x tk) :
    ∀ (k i : Nat) (s : Shared), n - i = k → i ≤ n → St i s → (∃ xs, SetX w s.heap S xs ∧ (∀ x, x ∈ xs ↔ x ∈ src.take i) ∧ xs.length ≤ i) →
      (∀ s' xs, Moved (S :: wr) G s s' → SetX w s'.heap S xs → (∀ x, x ∈ xs ↔ x ∈ src) → xs.length ≤ n → R (.ok (.ret .none)) s') → codeAny (model P w) A (.builtin "set.update.loop" ⟨[.ref S, .ref I], []⟩) R s := by
  have nw : S ∉ wr := fun z => hSf (W.sub _ z)
  have up : ∀ b ∈ wr, b ∈ S :: wr := fun b z => List.mem_cons_of_mem _ z
  intro k
  induction k with
  | zero =>
    intro i s hk hi st ⟨xs, hx, hm, hl⟩ hR
    have e : i = n := by omega
    subst e
    refine codeAny_builtin F.entry_set_update_loop ?_
    rw [Around.under_plainId F.plain_set_update_loop _]
    refine wpAny_bind (W.done s _ _ st fun s' mv => ?_)
    refine wpAny_pure (hR s' xs (mv.mono up) (hx.keep fun o q => mv.heap S o nw q) (fun x => ?_) hl)
    rw [hm x, hn, List.take_length]
  | succ k ih =>
    intro i s hk hi st ⟨xs, hx, hm, hl⟩ hR
    have lt : i < n := by omega
    refine codeAny_builtin F.entry_set_update_loop ?_
    rw [Around.under_plainId F.plain_set_update_loop _]
    refine wpAny_bind (W.item i s _ _ lt st fun v s' hP st' mv => ?_)
    obtain ⟨x, tk, hs, rfl⟩ := hval i v hP
    have hx' : SetX w s'.heap S xs := hx.keep fun o q => mv.heap S o nw q
    refine wpAny_bind (wpAny_holding ?_)
    unfold setAdd
    refine wpAny_holding (wpAny_bind ((PySem.strKind P w).pyHash (k := x) (strKind_is _ _ _ _) ?_))
    refine setX_add (s := { s' with toks := s'.toks + 1 }) hx' (by unfold scanBound at hb ⊢; omega) fun b h' ys sb r c => ?_
    have tn : src.take (i + 1) = src.take i ++ [x] := take_next hs
    refine wpAny_pure ⟨plainId_quiet F.plain_set_update_loop _, ih (i + 1) _ (by omega) lt (W.frame _ s' _ _ st' (Nat.le_succ _) fun b z o q => ?_) ⟨ys, r, fun y => ?_, ?_⟩ fun s2 zs mv2 q1 q2 q3 => hR s2 zs (Moved.trans W.gtrans ((mv.mono up).then_heap (Nat.le_succ _) fun b o z q => ?_) mv2) q1 q2 q3⟩
    · rw [sb.2 b fun e : b = S => hSf (e ▸ z)]; exact q
    · rw [tn, List.mem_append, ← hm y, List.mem_singleton]
      rcases c with ⟨c1, rfl⟩ | ⟨c1, c2⟩
      · exact ⟨.inl, fun z => z.elim id fun e => e ▸ c1⟩
      · rw [c2.mem_iff, List.mem_cons]; exact Or.comm
    · rcases c with ⟨c1, rfl⟩ | ⟨c1, c2⟩
      · omega
      · rw [c2.length_eq, List.length_cons]; omega
    · rw [sb.2 b fun e : b = S => z (e ▸ List.mem_cons_self)]; exact q
/-- set(x) of texts -/
theorem call_setX {x : Value} {T : String} {n : Nat} {Pv : Nat → Value → Prop} {src : List Str} {Q : Value → Shared → Prop} (hT : ({ s with heap := s.heap.push (setNew w) } : Shared).TypeIs x T) (h1 : isSubtype (.type T) (.type "set") = pure false) (h2 : isSubtype (.type T) (.type "frozenset") = pure false) (h3 : (Value.type T == Value.type "dict") = false)
    (hF : Feeds P w A.in1.in1 { s with heap := s.heap.push (setNew w) } s.heap.objs.size x n Pv) (hn : n = src.length) (hb : n + 1 < scanBound) (hval : ∀ i v, Pv i v → ∃ x tk, src[i]? = some x ∧ v = .str x tk)
    (fin : ∀ h' tk xs, SetX w h' s.heap.objs.size xs → (∀ x, x ∈ xs ↔ x ∈ src) → xs.length ≤ n → (∀ b o, s.heap.get? b = some o → h'.get? b = some o) → Q (.ref s.heap.objs.size) { s with heap := h', toks := tk }) : wpAny (model P w) A (call (.type "set") [x]) Q E s := by
  refine set_fed (R := fun s' => ∃ h' tk xs, s' = { s with heap := h', toks := tk } ∧ SetX w h' s.heap.objs.size xs ∧ (∀ x, x ∈ xs ↔ x ∈ src) ∧ xs.length ≤ n ∧ ∀ b o, s.heap.get? b = some o → h'.get? b = some o) hT h1 h2 h3 hF (fun E' I fp St s1 W hS hI st g1 g2 g3 g4 g5 => ?_) ?_
  · refine setX_loop W s.heap.objs.size hS src hn hb hval n 0 s1 (by omega) (Nat.zero_le _) st ⟨[], setX_new g4, fun x => by simp, Nat.le_refl _⟩ fun s2 xs mv q1 q2 q3 => ?_
    refine ⟨s2.heap, s2.toks, xs, ?_, q1, q2, q3, fun b o e => mv.heap b o (fun z => ?_) (g5 b o e)⟩
    · have a1 : s2.gens = s.gens := Eq.trans mv.gens g1
      have a2 : s2.drawn = s.drawn := mv.drawn.trans g2
      have a3 : s2.os = s.os := mv.os.trans g3
      cases s2
      simp only at a1 a2 a3
      subst a1 a2 a3
      rfl
    · have lt := Heap.lt_size e
      rcases List.mem_cons.mp z with z | z
      · exact absurd z (Nat.ne_of_lt lt)
      · rw [List.mem_singleton.mp z, hI] at lt
        exact absurd lt (Nat.not_lt.mpr (Nat.le_succ _))
  · rintro _ ⟨h', tk, xs, rfl, q1, q2, q3, q4⟩
    exact fin h' tk xs q1 q2 q3 q4
/-- a text's value -/
def IsX (u : Value) (k : Str) : Prop := ∃ tk, u = .str k tk
def encX (k : Str) : PyData := .str k
theorem leX : PySem.W.dataLe false encX = fun a b => decide (a.cps.toList ≤ b.cps.toList) := PySem.W.dataLe_str (fun k => k)
theorem isX_of : ∀ {l : List Value}, (∀ u ∈ l, ∃ k, IsX u k) → ∃ ks, PySem.W.EachIs IsX l ks
  | [], _ => ⟨[], .nil⟩
  | u :: l, h => by
    obtain ⟨k, hk⟩ := h u List.mem_cons_self
    obtain ⟨ks, r⟩ := isX_of fun v hv => h v (List.mem_cons_of_mem _ hv)
    exact ⟨k :: ks, .cons hk r⟩
theorem isX_key : ∀ {l : List Value} {ks : List Str}, PySem.W.EachIs IsX l ks → l.map (fun u => match u with | .str k _ => k | _ => Str.empty) = ks
  | _, _, .nil => rfl
  | _, _, .cons ⟨tk, e⟩ t => by rw [List.map_cons, isX_key t, e]
theorem isX_vals : ∀ {l : List Value} {ks : List Str}, PySem.W.EachIs IsX l ks → Vals (ks.map V.str) l
  | _, _, .nil => .nil
  | _, _, .cons ⟨tk, e⟩ t => .cons ⟨tk, e⟩ (isX_vals t)
theorem sorted_setX (R : SetX w s.heap a xs) (hh : A.handled = none) (hu : A.units + 8 < cLine) {Q : Value → Shared → Prop}
    (hQ : ∀ (s' : Shared) (p : Addr) (out : List Value) (c : Nat) (ys : List Str), (∀ b o, s.heap.get? b = some o → s'.heap.get? b = some o) → s'.gens = s.gens → s'.os = s.os → s.heap.objs.size ≤ p →
      s'.heap.get? p = some (seqObj "list" out.toArray c) → Vals (ys.map V.str) out → ys.Perm xs → ys.Pairwise (fun x y => x.cps.toList ≤ y.cps.toList) → Q (.ref p) s') :
    wpAny (model P w) A (call (.builtin "sorted") [.ref a]) Q E s := by
  obtain ⟨o, es, ep, t, ho, hex, hd, g, rfl, nd, hb, hf, hr, hl⟩ := R
  refine Calls.call_function_entry kind_sorted plain_sorted entry_sorted (args_sorted1 _) ?_
  unfold Builtin.«sorted»
  refine wpAny_bind (m := checkCount "sorted" 1 1 _) (wpAny_pure ?_)
  refine wpAny_bind (collect_set (A := A.in1) hh ⟨o, ho, hex.1, hd⟩ hf hb hr hl fun s1 vs k1 hz g1 o1 pm => ?_)
  have sz : vs.length < 4096 := by rw [pm.length_eq, List.length_map, Array.length_toList]; exact hb
  have hv : ∀ u ∈ vs, ∃ k, IsX u k := fun u hu => by
    obtain ⟨e, he, q⟩ := List.mem_map.mp (pm.mem_iff.mp hu)
    obtain ⟨k, tk, h1, _⟩ := g e he
    exact ⟨k, tk, q ▸ h1⟩
  obtain ⟨ks, hks⟩ := isX_of hv
  have pk : ks.Perm (es.toList.map keyX) := by
    have q := pm.map (fun u => match u with | .str k _ => k | _ => Str.empty)
    rw [isX_key hks, List.map_map] at q
    exact q
  refine wpAny_bind (wpAny_newList ?_ (by rw [sizeLine_eq]; omega))
  have hoL : (s1.heap.push (seqObj "list" vs.toArray 0)).get? s1.heap.objs.size = some (seqObj "list" vs.toArray 0) := Heap.get?_push_size _ rfl
  have kl : ks.length = vs.length := hks.length.symm
  refine wpAny_bind (wpAny_holding (PySem.W.list_sort_data (s := { s1 with heap := s1.heap.push (seqObj "list" vs.toArray 0) }) (enc := encX) hoL hks (hks.mono fun u k h => by
    obtain ⟨tk, rfl⟩ := h
    exact ⟨[], .str _ _, List.not_mem_nil⟩) (PySem.W.AllAlike.of fun b b' => by simp [encX, PySem.W.alike]) (PySem.W.Sortable.others fun b => ⟨by simp [encX], fun ys => by simp [encX]⟩) (by rw [kl, sizeLine_eq]; omega) (fun b _ => by
      show A.units + 1 + 1 + _ < _
      simp [encX, PyData.depth]
      omega) fun out h1 h2 => ?_))
  obtain ⟨c, hc⟩ := sortedHeap_at (vs := vs) (out := out.toArray) hoL
  refine wpAny_pure ⟨_, rfl, hQ _ s1.heap.objs.size out c _ (fun b u e => ?_) g1 o1 hz hc (isX_vals h2) ((List.mergeSort_perm _ _).trans pk) ?_⟩
  · have q := k1 b u e
    have lt := Heap.lt_size q
    show (sortedHeap (s1.heap.push (seqObj "list" vs.toArray 0)) s1.heap.objs.size vs out.toArray).get? b = some u
    rw [sortedHeap_old (Nat.ne_of_lt lt) (by rw [size_push']; exact Nat.lt_succ_of_lt lt)]
    exact Heap.get?_push_of_some _ q
  · rw [leX]
    have h := List.pairwise_mergeSort (le := fun a b : Str => decide (a.cps.toList ≤ b.cps.toList)) (fun x y z => by
      simp only [decide_eq_true_eq]
      exact fun h1 h2 => Std.le_trans h1 h2) (fun x y => by
      simp only [Bool.or_eq_true, decide_eq_true_eq]
      exact Std.le_total) ks
    exact h.imp fun h => of_decide_eq_true h
end
/-! ### the same, over tracked objects -/
def SetXO (w : World) (a : Addr) (xs : List Str) : HO := .ext fun h => SetX w h a xs
theorem setXO_new {w : World} {P : Program} {H : Hp} {h : Heap} {a : Addr} {xs : List Str} (R : SetX w h a xs) : ObjOk P w H h a (SetXO w a xs) := by
  have ⟨o, es, ep, t, ho, r⟩ := R
  exact ⟨R, ⟨o, ho⟩, fun h1 h2 p k => SetX.keep p k⟩
def sgns (z : Str) : List Str := z.cps.toList.map fun c => ⟨#[c]⟩
theorem valsX : ∀ {ys : List Str} {us : List Value}, Vals (ys.map V.str) us → ∀ (i : Nat) (u : Value), us[i]? = some u → ∃ x tk, ys[i]? = some x ∧ u = .str x tk
  | [], _, .nil, i, u, h => by simp at h
  | y :: ys, _, .cons r t, 0, u, h => by
    obtain ⟨k, rfl⟩ := r
    simp at h
    exact ⟨y, k, rfl, h.symm⟩
  | y :: ys, _, .cons r t, i + 1, u, h => valsX t i u (by simpa using h)
def rSetX (K : PySem.W.Frag) (w : World) : List V → Hp → VK → Prop := fun vs H Q => ∃ (x : V) (src : List Str), vs = [x] ∧ ((∃ z, x = .str z ∧ src = sgns z) ∨ ∃ l, x = .ref l ∧ (SqL K H l (src.map V.str) ∨ SqT K H l (src.map V.str))) ∧ src.length < 4000 ∧
  ∀ (a : Addr) (xs : List Str), H a = none → xs.Nodup → (∀ y, y ∈ xs ↔ y ∈ src) → Q (.ref a) (upd H a (SetXO w a xs))
def rLenX (w : World) : List V → Hp → VK → Prop := fun vs H Q => ∃ (a : Addr) (xs : List Str), vs = [V.ref a] ∧ H a = some (SetXO w a xs) ∧ Q (.int xs.length) H
def rSortX (w : World) : List V → Hp → VK → Prop := fun vs H Q => ∃ (a : Addr) (xs : List Str), vs = [V.ref a] ∧ H a = some (SetXO w a xs) ∧ ∀ (ys : List Str) (p : Addr), ys.Perm xs → ys.Pairwise (fun x y => x.cps.toList ≤ y.cps.toList) → H p = none → Q (.ref p) (upd H p (.lst (ys.map V.str)))
section
variable {X : Cx}
theorem cr_setX (hc : X.calm = true) : CallR X (.type "set") (rSetX X.K X.w) := by
  intro pins s σ H vs us Q I r h
  obtain ⟨x, src, rfl, hx, hl, q⟩ := h
  have hh : X.A.in1.in1.in1.handled = none := by
    have := I.ok.hd hc
    simp [this]
  have hn : H s.heap.objs.size = none := I.hok.fresh (Nat.le_refl _)
  have fin : ∀ h' tk xs, SetX X.w h' s.heap.objs.size xs → (∀ y, y ∈ xs ↔ y ∈ src) → (∀ b o, s.heap.get? b = some o → h'.get? b = some o) → EP X pins σ Q (.ref s.heap.objs.size) { s with heap := h', toks := tk } := fun h' tk xs R m k =>
    ⟨.ref s.heap.objs.size, upd H s.heap.objs.size (SetXO X.w s.heap.objs.size xs), I.laid (t' := tk) k (Nat.le_refl _) (setXO_new R), rfl, q _ xs hn (by obtain ⟨_, _, _, _, _, _, _, _, _, nd, _⟩ := R; exact nd) m⟩
  have lt1 : s.heap.objs.size < (s.heap.push (setNew X.w)).objs.size := by rw [Heap.size_push]; exact Nat.lt_succ_self _
  rcases hx with ⟨z, rfl, rfl⟩ | ⟨l, rfl, hq⟩
  · obtain ⟨u, r1, rfl⟩ : ∃ u, RelV (V.str z) u ∧ us = [u] := by
      cases r with
      | cons r1 r2 => cases r2; exact ⟨_, r1, rfl⟩
    obtain ⟨tk, rfl⟩ := r1
    have sl : (sgns z).length = z.cps.size := by simp [sgns]
    refine call_setX (T := "str") (src := sgns z) (typeIs_str _ _ _) PySem.F.sub_str_set PySem.F.sub_str_frozenset (by decide) (feeds_str hh lt1) sl.symm (by rw [← sl]; unfold scanBound; omega) (fun i v hv => ?_) fun h' tk xs R m _ k => fin h' tk xs R m k
    obtain ⟨c, t2, h1, h2⟩ := hv
    refine ⟨⟨#[c]⟩, t2, ?_, h2⟩
    unfold sgns
    rw [List.getElem?_map, Array.getElem?_toList, h1]
    rfl
  · rw [Vals.ref1 r]
    rcases hq with hq | hq
    · obtain ⟨its, rv, pl, hz⟩ := I.list hq
      have il : its.toArray.size = src.length := by rw [List.size_toArray, ← rv.length, List.length_map]
      have lt2 : l < s.heap.objs.size := by obtain ⟨o, n, e, _⟩ := pl; exact Heap.lt_size e
      have pl2 := (pl.isList).push (setNew X.w)
      refine call_setX (T := "list") (src := src) pl2.typeIs PySem.F.sub_list_set PySem.F.sub_list_frozenset (by decide) (feeds_list hh pl2 lt1 (Nat.ne_of_gt lt2)) il (by rw [il]; unfold scanBound; omega) (fun i v hv => valsX rv i v (by simpa using hv)) fun h' tk xs R m _ k => fin h' tk xs R m k
    · obtain ⟨its, rv, pl, hz⟩ := I.tuple hq
      have il : its.toArray.size = src.length := by rw [List.size_toArray, ← rv.length, List.length_map]
      have lt2 : l < s.heap.objs.size := by obtain ⟨o, e, _⟩ := pl; exact Heap.lt_size e
      have pl2 := Heap.IsTuple.push pl (setNew X.w)
      refine call_setX (T := "tuple") (src := src) pl2.typeIs PySem.F.sub_tuple_set PySem.F.sub_tuple_frozenset (by decide) (feeds_tup hh pl2 lt1 (Nat.ne_of_gt lt2)) il (by rw [il]; unfold scanBound; omega) (fun i v hv => valsX rv i v (by simpa using hv)) fun h' tk xs R m _ k => fin h' tk xs R m k
theorem cr_lenX : CallR X (.builtin "len") (rLenX X.w) := by
  intro pins s σ H vs us Q I r h
  obtain ⟨a, xs, rfl, ha, q⟩ := h
  rw [Vals.ref1 r]
  obtain ⟨o, es, ep, t, ho, hex, hd, g, e, nd, hb, hf, hr, hl⟩ := (I.hok a _ ha).1
  have e2 : es.size = xs.length := by rw [← e, List.length_map, Array.length_toList]
  refine call_len_set ho hex hd hf (by unfold scanBound at hb; omega) ⟨.int xs.length, H, I.tok _, ⟨_, by rw [e2]⟩, q⟩
theorem cr_sortX (hc : X.calm = true) (hu : X.A.units + 8 < cLine) : CallR X (.builtin "sorted") (rSortX X.w) := by
  intro pins s σ H vs us Q I r h
  obtain ⟨a, xs, rfl, ha, q⟩ := h
  rw [Vals.ref1 r]
  have R : SetX X.w s.heap a xs := (I.hok a _ ha).1
  have bd : xs.length < 4096 := by
    obtain ⟨o, es, ep, t, ho, hex, hd, g, e, nd, hb, _⟩ := R
    rw [← e, List.length_map, Array.length_toList]
    exact hb
  refine sorted_setX R (I.ok.hd hc) hu fun s' p out c ys k g o hp hg hv pm pw => ?_
  have hn : H p = none := I.hok.fresh hp
  have hl : (ys.map V.str).length ≤ sizeLine := by rw [List.length_map, pm.length_eq, sizeLine_eq]; omega
  have e : s' = { s with heap := s'.heap, gens := s'.gens, drawn := s'.drawn, toks := s'.toks } := by
    cases s'; cases s; cases o; rfl
  have J : Inv X pins σ (upd H p (.lst (ys.map V.str))) { s with heap := s'.heap, gens := s'.gens, drawn := s'.drawn, toks := s'.toks } :=
    I.call (ch := []) (Un.laid k hp hn) (I.hok.laid k hp ⟨hl, out, c, hv, hg⟩) (by rw [g]; exact I.bare) (fun _ z => nomatch z)
  rw [e]
  exact ⟨.ref p, _, J, rfl, q ys p pm pw hn⟩
end
end L3
namespace L3
open PySem PySem.Spec PyProof.Rows L2
/-! ### sets of places -/
theorem none_from {h : Heap} {b : Addr} (hb : h.objs.size ≤ b) : h.get? b = none := by
  cases q : h.get? b with
  | none => rfl
  | some o => exact absurd (Nat.lt_of_lt_of_le (Heap.lt_size q) hb) (Nat.lt_irrefl _)
section
variable {P : Program} {w : World} {A : Around} {E : Value → Shared → Prop} {s : Shared}
/-- set.update's loop over tuples, few of them unlike -/
theorem setP_loop {I : Addr} {fp wr : List Addr} {G : Array GenState → Array GenState → Prop} {n : Nat} {Pv : Nat → Value → Prop} {St : Nat → Shared → Prop} {R : Result → Shared → Prop} (W : WalksS P w A.in1 I fp wr G n Pv St) (S : Addr) (hSf : S ∉ fp)
    (ks : List (Addr × List Int)) (hn : n = ks.length) (few : ∀ L : List (Addr × List Int), (∀ p ∈ L, p ∈ ks) → (L.map (·.2)).Nodup → L.length < 63) (hval : ∀ i v, Pv i v → ∃ p, ks[i]? = some p ∧ v = .ref p.1)
    (h0 : Heap) (hk : ∀ p ∈ ks, IsT P w h0 p.2 p.1) (hS0 : h0.get? S = none) (hw0 : ∀ b ∈ wr, h0.get? b = none) (hu : A.in1.units < cLine) :
    ∀ (k i : Nat) (s : Shared), n - i = k → i ≤ n → St i s → (∀ b o, h0.get? b = some o → s.heap.get? b = some o) → (∃ L es ep t, SetTR P w s.heap S L es ep t ∧ Got ks i L) →
      (∀ s' L es ep t, Moved (S :: wr) G s s' → SetTR P w s'.heap S L es ep t → Got ks n L → (∀ b o, h0.get? b = some o → s'.heap.get? b = some o) → R (.ok (.ret .none)) s') → codeAny (model P w) A (.builtin "set.update.loop" ⟨[.ref S, .ref I], []⟩) R s := by
  have nw : S ∉ wr := fun z => hSf (W.sub _ z)
  have up : ∀ b ∈ wr, b ∈ S :: wr := fun b z => List.mem_cons_of_mem _ z
  have old : ∀ {s s' : Shared}, Moved wr G s s' → (∀ b o, h0.get? b = some o → s.heap.get? b = some o) → ∀ b o, h0.get? b = some o → s'.heap.get? b = some o := fun mv q b o e => mv.heap b o (fun z => by rw [hw0 b z] at e; cases e) (q b o e)
  intro k
  induction k with
  | zero =>
    intro i s hk' hi st q ⟨L, es, ep, t, hx, g⟩ hR
    have e : i = n := by omega
    subst e
    refine codeAny_builtin F.entry_set_update_loop ?_
    rw [Around.under_plainId F.plain_set_update_loop _]
    refine wpAny_bind (W.done s _ _ st fun s' mv => wpAny_pure ?_)
    have q' := old mv q
    exact hR s' L es ep t (mv.mono up) (hx.keep (fun o e => mv.heap S o nw e) fun p hp => isT_keep (hk p (List.mem_of_mem_take (g.sub p hp))) q') g q'
  | succ k ih =>
    intro i s hk' hi st q ⟨L, es, ep, t, hx, g⟩ hR
    have lt : i < n := by omega
    refine codeAny_builtin F.entry_set_update_loop ?_
    rw [Around.under_plainId F.plain_set_update_loop _]
    refine wpAny_bind (W.item i s _ _ lt st fun v s' hP st' mv => ?_)
    obtain ⟨p, hp, rfl⟩ := hval i v hP
    have q' := old mv q
    have sub : ∀ r ∈ L, r ∈ ks := fun r hr => List.mem_of_mem_take (g.sub r hr)
    have hx' : SetTR P w s'.heap S L es ep t := hx.keep (fun o e => mv.heap S o nw e) fun r hr => isT_keep (hk r (sub r hr)) q'
    have ht : IsT P w s'.heap p.2 p.1 := isT_keep (hk p (List.mem_of_getElem? hp)) q'
    have fewL := few L sub hx.nd
    refine wpAny_bind (wpAny_holding ?_)
    unfold setAdd
    refine wpAny_holding (wpAny_bind (wpAny_pyHash_tuple hu ht ?_))
    refine add_at (s := { s' with toks := s'.toks + (p.2.length + 1) }) hx' ht hu (by omega) fun b h' L' es' ep' t' sb r c1 c2 => ?_
    have g' : Got ks (i + 1) L' := by
      by_cases c : p.2 ∈ L.map (·.2)
      · rw [c1 c]; exact g.same hp c
      · exact g.more hp (c2 c)
    have q2 : ∀ b o, h0.get? b = some o → h'.get? b = some o := fun b o e => (sb.2 b (fun z => by rw [z, hS0] at e; cases e)).trans (q' b o e)
    refine wpAny_pure ⟨plainId_quiet F.plain_set_update_loop _, ih (i + 1) _ (by omega) lt (W.frame _ s' _ _ st' (Nat.le_add_right _ _) fun b z o e => ?_) q2 ⟨L', es', ep', t', r, g'⟩ fun s2 L2 es2 ep2 t2 mv2 r2 g2 q3 => hR s2 L2 es2 ep2 t2 (Moved.trans W.gtrans ((mv.mono up).then_heap (Nat.le_add_right _ _) fun b o z e => ?_) mv2) r2 g2 q3⟩
    · rw [sb.2 b fun e : b = S => hSf (e ▸ z)]; exact e
    · rw [sb.2 b fun e : b = S => z (e ▸ List.mem_cons_self)]; exact e
theorem call_setP {x : Value} {T : String} {n : Nat} {Pv : Nat → Value → Prop} {ks : List (Addr × List Int)} {Q : Value → Shared → Prop} (hT : ({ s with heap := s.heap.push (setNew w) } : Shared).TypeIs x T) (h1 : isSubtype (.type T) (.type "set") = pure false) (h2 : isSubtype (.type T) (.type "frozenset") = pure false) (h3 : (Value.type T == Value.type "dict") = false)
    (hF : Feeds P w A.in1.in1 { s with heap := s.heap.push (setNew w) } s.heap.objs.size x n Pv) (hn : n = ks.length) (few : ∀ L : List (Addr × List Int), (∀ p ∈ L, p ∈ ks) → (L.map (·.2)).Nodup → L.length < 63) (hval : ∀ i v, Pv i v → ∃ p, ks[i]? = some p ∧ v = .ref p.1) (hk : ∀ p ∈ ks, IsT P w s.heap p.2 p.1) (hu : A.units + 8 < cLine)
    (fin : ∀ (h' : Heap) (tk : Nat) L es ep t, SetTR P w h' s.heap.objs.size L es ep t → Got ks ks.length L → (∀ b o, s.heap.get? b = some o → h'.get? b = some o) → Q (.ref s.heap.objs.size) { s with heap := h', toks := tk }) : wpAny (model P w) A (call (.type "set") [x]) Q E s := by
  refine set_fed (R := fun s' => ∃ (h' : Heap) (tk : Nat) (L : List (Addr × List Int)) (es : Array (Int × Value)) (ep : Nat) (t : SetTable), s' = { s with heap := h', toks := tk } ∧ SetTR P w h' s.heap.objs.size L es ep t ∧ Got ks ks.length L ∧ ∀ b o, s.heap.get? b = some o → h'.get? b = some o) hT h1 h2 h3 hF (fun E' I fp St s1 W hS hI st g1 g2 g3 g4 g5 => ?_) ?_
  · refine setP_loop W s.heap.objs.size hS ks hn few hval s.heap hk (none_from (Nat.le_refl _)) (fun b hb => none_from ?_) (show A.units + 1 + 1 + 1 < cLine by omega) n 0 s1 (by omega) (Nat.zero_le _) st g5 ⟨[], #[], 0, _, setTR_fresh g4, Got.zero ks⟩ fun s2 L es ep t mv q1 q2 q3 => ?_
    · rw [List.mem_singleton.mp hb, hI]; exact Nat.le_succ _
    · refine ⟨s2.heap, s2.toks, L, es, ep, t, ?_, q1, by rw [← hn]; exact q2, q3⟩
      have a1 : s2.gens = s.gens := Eq.trans mv.gens g1
      have a2 : s2.drawn = s.drawn := mv.drawn.trans g2
      have a3 : s2.os = s.os := mv.os.trans g3
      cases s2
      simp only at a1 a2 a3
      subst a1 a2 a3
      rfl
  · rintro _ ⟨h', tk, L, es, ep, t, rfl, q1, q2, q3⟩
    exact fin h' tk L es ep t q1 q2 q3
end
def rSetP (K : PySem.W.Frag) (P : Program) (w : World) : List V → Hp → VK → Prop := fun xs H Q => ∃ (l : Addr) (ks : List (Addr × List Int)), xs = [V.ref l] ∧ (SqL K H l (ks.map fun p => V.ref p.1) ∨ SqT K H l (ks.map fun p => V.ref p.1)) ∧ (∀ p ∈ ks, SqT K H p.1 (p.2.map V.int)) ∧ (∀ L : List (Addr × List Int), (∀ p ∈ L, p ∈ ks) → (L.map (·.2)).Nodup → L.length < 63) ∧
  ∀ a L, H a = none → (∀ p ∈ L, p ∈ ks) → (∀ p ∈ ks, p.2 ∈ L.map (·.2)) → (L.map (·.2)).Nodup → Q (.ref a) (upd H a (SetTO P w a L))
def rLenP (P : Program) (w : World) : List V → Hp → VK → Prop := fun vs H Q => ∃ (a : Addr) (L : List (Addr × List Int)), vs = [V.ref a] ∧ H a = some (SetTO P w a L) ∧ Q (.int L.length) H
section
variable {X : Cx}
theorem cr_setP (hc : X.calm = true) (hu : X.A.units + 8 < cLine) : CallR X (.type "set") (rSetP X.K X.prog X.w) := by
  intro pins s σ H vs us Q I r h
  obtain ⟨l, ks, rfl, hq, hk, few, q⟩ := h
  rw [Vals.ref1 r]
  have hh : X.A.in1.in1.in1.handled = none := by
    have := I.ok.hd hc
    simp [this]
  have hn : H s.heap.objs.size = none := I.hok.fresh (Nat.le_refl _)
  have lt1 : s.heap.objs.size < (s.heap.push (setNew X.w)).objs.size := by rw [Heap.size_push]; exact Nat.lt_succ_self _
  have fin : ∀ (h' : Heap) (tk : Nat) L es ep t, SetTR X.prog X.w h' s.heap.objs.size L es ep t → Got ks ks.length L → (∀ b o, s.heap.get? b = some o → h'.get? b = some o) → EP X pins σ Q (.ref s.heap.objs.size) { s with heap := h', toks := tk } := fun h' tk L es ep t R g k =>
    ⟨.ref s.heap.objs.size, upd H s.heap.objs.size (SetTO X.prog X.w s.heap.objs.size L), I.laid (t' := tk) k (Nat.le_refl _) (setTO_new R.t0), rfl, q _ L hn (fun p hp => List.mem_of_mem_take (g.sub p hp)) (fun p hp => g.all p (by rw [List.take_length]; exact hp)) R.nd⟩
  have hv : ∀ {its : List Value}, Vals (ks.map fun p => V.ref p.1) its → ∀ (i : Nat) (v : Value), its.toArray[i]? = some v → ∃ p, ks[i]? = some p ∧ v = .ref p.1 := fun {its} rv i v e => by
    rw [refs_of_vals rv, List.getElem?_toArray, List.getElem?_map] at e
    obtain ⟨p, e1, e2⟩ := Option.map_eq_some_iff.mp e
    exact ⟨p, e1, e2.symm⟩
  rcases hq with hq | hq
  · obtain ⟨its, rv, pl, hz⟩ := I.list hq
    have il : its.toArray.size = ks.length := by rw [List.size_toArray, ← rv.length, List.length_map]
    have lt2 : l < s.heap.objs.size := by obtain ⟨o, n, e, _⟩ := pl; exact Heap.lt_size e
    have pl2 := (pl.isList).push (setNew X.w)
    exact call_setP (T := "list") (ks := ks) pl2.typeIs PySem.F.sub_list_set PySem.F.sub_list_frozenset (by decide) (feeds_list hh pl2 lt1 (Nat.ne_of_gt lt2)) il few (hv rv) (fun p hp => I.isT (hk p hp)) hu fin
  · obtain ⟨its, rv, pl, hz⟩ := I.tuple hq
    have il : its.toArray.size = ks.length := by rw [List.size_toArray, ← rv.length, List.length_map]
    have lt2 : l < s.heap.objs.size := by obtain ⟨o, e, _⟩ := pl; exact Heap.lt_size e
    have pl2 := Heap.IsTuple.push pl (setNew X.w)
    exact call_setP (T := "tuple") (ks := ks) pl2.typeIs PySem.F.sub_tuple_set PySem.F.sub_tuple_frozenset (by decide) (feeds_tup hh pl2 lt1 (Nat.ne_of_gt lt2)) il few (hv rv) (fun p hp => I.isT (hk p hp)) hu fin
theorem cr_lenP : CallR X (.builtin "len") (rLenP X.prog X.w) := by
  intro pins s σ H vs us Q I r h
  obtain ⟨a, L, rfl, ha, q⟩ := h
  rw [Vals.ref1 r]
  obtain ⟨es, ep, t, ⟨o, ho, hex, hd⟩, rows, tab, nd, pl, led, room, few⟩ := ((I.hok a _ ha).1 : SetT0 X.prog X.w s.heap a L).ex
  have e2 : es.size = L.length := by
    rw [← Array.length_toList, rows]
    simp [rowsOf]
  have hf : t.fits es.size = true := by
    have z := tab.sz
    rw [List.length_map] at z
    unfold SetTable.fits SetTable.fill
    rw [tab.dm, Bool.and_eq_true, beq_iff_eq, decide_eq_true_eq]
    show t.place.size = es.size ∧ t.place.size + 0 ≤ t.mask
    omega
  refine call_len_set ho hex hd hf (by omega) ⟨.int L.length, H, I.tok _, ⟨_, by rw [e2]⟩, q⟩
end
/-! ### D -/
def undup {α : Type} [DecidableEq α] : List α → List α
  | [] => []
  | x :: xs => if x ∈ xs then undup xs else x :: undup xs
theorem mem_undup {α : Type} [DecidableEq α] {x : α} : ∀ {xs : List α}, x ∈ undup xs ↔ x ∈ xs
  | [] => Iff.rfl
  | y :: xs => by
    unfold undup
    split
    · rename_i h
      rw [mem_undup, List.mem_cons]
      exact ⟨.inr, fun z => z.elim (fun e => e ▸ h) id⟩
    · rw [List.mem_cons, List.mem_cons, mem_undup]
theorem nodup_undup {α : Type} [DecidableEq α] : ∀ xs : List α, (undup xs).Nodup
  | [] => List.nodup_nil
  | y :: xs => by
    unfold undup
    split
    · exact nodup_undup xs
    · rename_i h
      exact List.nodup_cons.mpr ⟨fun z => h (mem_undup.mp z), nodup_undup xs⟩
theorem undup_perm {α : Type} [DecidableEq α] {xs ys : List α} (nd : ys.Nodup) (h : ∀ x, x ∈ ys ↔ x ∈ xs) : ys.Perm (undup xs) :=
  (List.perm_ext_iff_of_nodup nd (nodup_undup xs)).mpr fun x => by rw [h, mem_undup]
theorem undup_nodup {α : Type} [DecidableEq α] : ∀ {xs : List α}, xs.Nodup → undup xs = xs
  | [], _ => rfl
  | y :: xs, h => by
    obtain ⟨h1, h2⟩ := List.nodup_cons.mp h
    unfold undup
    rw [if_neg h1, undup_nodup h2]
theorem undup_len {α : Type} [DecidableEq α] : ∀ {xs : List α}, (undup xs).length = xs.length ↔ xs.Nodup
  | [] => by simp [undup]
  | y :: xs => by
    have le : ∀ zs : List α, (undup zs).length ≤ zs.length := fun zs => by
      induction zs with
      | nil => exact Nat.le_refl _
      | cons z zs ih =>
        unfold undup
        split
        · exact Nat.le_succ_of_le ih
        · exact Nat.succ_le_succ ih
    unfold undup
    split
    · rename_i h
      have := le xs
      simp only [List.length_cons, List.nodup_cons]
      exact ⟨fun e => by omega, fun z => absurd h z.1⟩
    · rename_i h
      simp only [List.length_cons, List.nodup_cons]
      rw [← undup_len (xs := xs)]
      exact ⟨fun e => ⟨h, by omega⟩, fun e => by omega⟩
theorem undup_sub {β : Type} {L : List (β × List Int)} {xs : List (List Int)} (nd : (L.map (·.2)).Nodup) (h : ∀ x ∈ L.map (·.2), x ∈ xs) : L.length ≤ (undup xs).length := by
  have key : ∀ (l m : List (List Int)), l.Nodup → (∀ x ∈ l, x ∈ m) → l.length ≤ m.length := by
    intro l
    induction l with
    | nil => intro m _ _; exact Nat.zero_le _
    | cons a l ih =>
      intro m nd hs
      obtain ⟨n1, n2⟩ := List.nodup_cons.mp nd
      have ha := hs a List.mem_cons_self
      have := ih (m.erase a) n2 fun x hx => (List.mem_erase_of_ne (fun e : x = a => n1 (e ▸ hx))).mpr (hs x (List.mem_cons_of_mem _ hx))
      have e := List.length_erase_of_mem ha
      have := List.length_pos_of_mem ha
      rw [List.length_cons]
      omega
  have := key _ (undup xs) nd fun x hx => mem_undup.mpr (h x hx)
  rwa [List.length_map] at this
def strLe (x y : Str) : Bool := decide (x.cps.toList ≤ y.cps.toList)
theorem strLe_anti {x y : Str} (h1 : strLe x y = true) (h2 : strLe y x = true) : x = y := by
  have := Std.le_antisymm (of_decide_eq_true h1) (of_decide_eq_true h2)
  cases x; cases y
  simp only at this
  congr 1
  exact Array.toList_inj.mp this
theorem sortedX_eq {xs ys : List Str} (p : ys.Perm xs) (h : ys.Pairwise fun x y => x.cps.toList ≤ y.cps.toList) : ys = xs.mergeSort strLe := by
  have h1 : (xs.mergeSort strLe).Pairwise fun x y => strLe x y = true := List.pairwise_mergeSort (le := strLe) (fun x y z => by
      simp only [strLe, decide_eq_true_eq]
      exact fun h1 h2 => Std.le_trans h1 h2) (fun x y => by
      simp only [strLe, Bool.or_eq_true, decide_eq_true_eq]
      exact Std.le_total) xs
  have h2 : ys.Pairwise fun x y => strLe x y = true := h.imp fun h => decide_eq_true h
  exact (p.trans (List.mergeSort_perm xs strLe).symm).eq_of_pairwise (fun a b _ _ => strLe_anti) h2 h1
def ptLe (p q : List Int) : Bool := decide (p ≤ q)
theorem ptLe_anti {p q : List Int} (h1 : ptLe p q = true) (h2 : ptLe q p = true) : p = q := Std.le_antisymm (of_decide_eq_true h1) (of_decide_eq_true h2)
theorem ptLe_trans {p q r : List Int} (h1 : ptLe p q = true) (h2 : ptLe q r = true) : ptLe p r = true := decide_eq_true (Std.le_trans (of_decide_eq_true h1) (of_decide_eq_true h2))
theorem ptLe_total (p q : List Int) : (ptLe p q || ptLe q p) = true := by
  simp only [ptLe, Bool.or_eq_true, decide_eq_true_eq]
  exact Std.le_total
def encP (q : Addr × List Int) : PyData := .tuple (q.2.map PyData.int)
theorem encP_le {p q : Addr × List Int} (hp : ∃ x y, p.2 = [x, y]) (hq : ∃ x y, q.2 = [x, y]) (h : PySem.W.dataLe false encP p q = true) : ptLe p.2 q.2 = true := by
  obtain ⟨x, y, e1⟩ := hp
  obtain ⟨x', y', e2⟩ := hq
  have h2 : PySem.W.dataLt (encP q) (encP p) = false := by
    rw [PySem.W.dataLe_eq] at h
    simpa only [cond_false, Bool.not_eq_true'] using h
  unfold encP at h2
  rw [e1, e2] at h2
  rw [e1, e2]
  have h3 := PySem.W.dataLt_ii x' y' x y
  simp only [List.map_cons, List.map_nil] at h2
  rw [h3] at h2
  have h4 := of_decide_eq_false h2
  refine decide_eq_true ?_
  rw [List.cons_le_cons_iff, List.cons_le_cons_iff]
  rcases Int.lt_trichotomy x x' with c | c | c
  · exact .inl c
  · refine .inr ⟨c, ?_⟩
    rcases Int.lt_trichotomy y y' with d | d | d
    · exact .inl d
    · exact .inr ⟨d, Std.le_refl _⟩
    · exact absurd (.inr ⟨c.symm, d⟩) h4
  · exact absurd (.inl c) h4
theorem reads_ints {h : Heap} {P : Program} {w : World} : ∀ {k : List Int} {vs : List Value}, ItemsAre (intKind P w) k vs → ReadsAll h vs (k.map PyData.int) []
  | [], _, .nil => .nil
  | n :: k, _, .cons h1 t => by
    obtain ⟨tk, rfl⟩ := Value.isInt_shape h1
    exact .cons (as := []) (.int _ _) (reads_ints t)
def IsR (u : Value) (q : Addr × List Int) : Prop := u = .ref q.1
theorem isR_of {L : List (Addr × List Int)} : ∀ {l : List Value}, (∀ u ∈ l, ∃ q ∈ L, IsR u q) → ∃ qs, PySem.W.EachIs IsR l qs ∧ ∀ q ∈ qs, q ∈ L
  | [], _ => ⟨[], .nil, fun _ h => (List.not_mem_nil h).elim⟩
  | u :: l, h => by
    obtain ⟨q, hq, e⟩ := h u List.mem_cons_self
    obtain ⟨qs, r, m⟩ := isR_of fun v hv => h v (List.mem_cons_of_mem _ hv)
    exact ⟨q :: qs, .cons e r, fun p hp => (List.mem_cons.mp hp).elim (fun z => z ▸ hq) (m p)⟩
theorem isR_map : ∀ {l : List Value} {qs : List (Addr × List Int)}, PySem.W.EachIs IsR l qs → l = qs.map fun q => Value.ref q.1
  | _, _, .nil => rfl
  | _, _, .cons e t => by rw [List.map_cons, isR_map t, e]
section
variable {P : Program} {w : World} {A : Around} {E : Value → Shared → Prop} {s : Shared}
theorem sorted_setPd {a : Addr} {L : List (Addr × List Int)} {es : Array (Int × Value)} {ep : Nat} {t : SetTable} {Q : Value → Shared → Prop} (R : SetTR P w s.heap a L es ep t) (hh : A.handled = none) (hu : A.units + 8 < cLine) (h2 : ∀ p ∈ L, ∃ x y, p.2 = [x, y])
    (hQ : ∀ (s' : Shared) (p : Addr) (out : List Value) (c : Nat) (L' : List (Addr × List Int)), (∀ b o, s.heap.get? b = some o → s'.heap.get? b = some o) → s'.gens = s.gens → s'.os = s.os → s.heap.objs.size ≤ p →
      s'.heap.get? p = some (seqObj "list" out.toArray c) → out = L'.map (fun q => Value.ref q.1) → L'.Perm L → L'.Pairwise (fun q r => ptLe q.2 r.2 = true) → Q (.ref p) s') :
    wpAny (model P w) A (call (.builtin "sorted") [.ref a]) Q E s := by
  obtain ⟨o, ho, hex, hd⟩ := R.ob
  have few := R.few
  have rsz := R.size
  refine Calls.call_function_entry kind_sorted plain_sorted entry_sorted (args_sorted1 _) ?_
  unfold Builtin.«sorted»
  refine wpAny_bind (m := checkCount "sorted" 1 1 _) (wpAny_pure (wpAny_bind (collect_set (A := A.in1) hh ⟨o, ho, hex.1, hd⟩ R.fits (by unfold scanBound; omega) R.tab.ris R.led fun s1 vs k1 hz g1 o1 pm => ?_)))
  have e1 : es.toList.map (·.2) = L.map fun q => Value.ref q.1 := by
    rw [R.rows]; unfold rowsOf; rw [List.map_map]; rfl
  rw [e1] at pm
  obtain ⟨qs, hqs, hqL⟩ := isR_of (L := L) (l := vs) fun u hu => by
    obtain ⟨q, hq, e⟩ := List.mem_map.mp (pm.mem_iff.mp hu)
    exact ⟨q, hq, e.symm⟩
  have one : ∀ q ∈ L, ∀ r ∈ L, q.1 = r.1 → q = r := fun q hq r hr e => by
    have a1 := R.tup q hq
    rw [e] at a1
    exact Prod.ext e (a1.inj (R.tup r hr))
  have nL : L.Nodup := nodup_of_map R.nd
  have nref : (L.map fun q => Value.ref q.1).Nodup := List.pairwise_map.mpr (List.Pairwise.imp_of_mem (fun {q r} hq hr hne e => by
    injection e with e
    exact hne (one q hq r hr e)) nL)
  have pq : qs.Perm L := by
    rw [isR_map hqs] at pm
    have nq : qs.Nodup := nodup_of_map (pm.nodup_iff.mpr nref)
    refine (List.perm_ext_iff_of_nodup nq nL).mpr fun q => ⟨hqL q, fun hq => ?_⟩
    obtain ⟨r, hr, e⟩ := List.mem_map.mp (pm.mem_iff.mpr (List.mem_map.mpr ⟨q, hq, rfl⟩))
    injection e with e
    rw [← one r (hqL r hr) q hq e]
    exact hr
  have vl : vs.length < 64 := by rw [pm.length_eq, List.length_map]; exact few
  have ql : qs.length = vs.length := hqs.length.symm
  refine wpAny_bind (wpAny_newList ?_ (by rw [sizeLine_eq]; omega))
  have hoL : (s1.heap.push (seqObj "list" vs.toArray 0)).get? s1.heap.objs.size = some (seqObj "list" vs.toArray 0) := Heap.get?_push_size _ rfl
  have tup : ∀ q ∈ qs, ∃ x r, encP q = .tuple (x :: r) := fun q hq => by
    obtain ⟨x, y, e⟩ := h2 q (hqL q hq)
    exact ⟨.int x, [.int y], by unfold encP; rw [e]; rfl⟩
  refine wpAny_bind (wpAny_holding (PySem.W.list_sort_data (s := { s1 with heap := s1.heap.push (seqObj "list" vs.toArray 0) }) (enc := encP) hoL hqs ((PySem.W.each_mem hqs).mono fun u q ⟨h, hq⟩ => by
    obtain ⟨ob, its, n, q1, q2, q3, q4⟩ := R.tup q (hqL q hq)
    have h : u = Value.ref q.1 := h
    subst h
    exact ⟨[], .tuple (Heap.get?_push_of_some _ (k1 _ _ q1)) q2 q3 (reads_ints q4), List.not_mem_nil⟩) (fun d hd d' hd' => ?_) (.inl fun d hd => ?_) (by rw [ql, sizeLine_eq]; omega) (fun q hq => ?_) fun out h1 h2' => ?_))
  · obtain ⟨q, _, rfl⟩ := List.mem_map.mp hd
    obtain ⟨r, _, rfl⟩ := List.mem_map.mp hd'
    simp only [encP, PySem.W.alike]
    exact PySem.W.alike_ints _ _
  · obtain ⟨q, hq, rfl⟩ := List.mem_map.mp hd
    exact tup q hq
  · have := PySem.W.depth_ints q.2
    show A.units + 1 + 1 + _ < _
    simp only [encP, PyData.depth, this]
    omega
  obtain ⟨c, hc⟩ := sortedHeap_at (vs := vs) (out := out.toArray) hoL
  refine wpAny_pure ⟨_, rfl, hQ _ s1.heap.objs.size out c _ (fun b u e => ?_) g1 o1 hz hc (isR_map h2') ((List.mergeSort_perm _ _).trans pq) ?_⟩
  · have q := k1 b u e
    have lt := Heap.lt_size q
    show (sortedHeap (s1.heap.push (seqObj "list" vs.toArray 0)) s1.heap.objs.size vs out.toArray).get? b = some u
    rw [sortedHeap_old (Nat.ne_of_lt lt) (by rw [size_push']; exact Nat.lt_succ_of_lt lt)]
    exact Heap.get?_push_of_some _ q
  · have hp := PySem.W.sort_pairwise (le := PySem.W.dataLe false encP) (PySem.W.sortLe_total _ false _) qs
    exact hp.imp_of_mem fun {q r} hq hr h => encP_le (h2 q (hqL q (List.mem_mergeSort.mp hq))) (h2 r (hqL r (List.mem_mergeSort.mp hr))) h
end
def rSortPd (K : PySem.W.Frag) (P : Program) (w : World) : List V → Hp → VK → Prop := fun vs H Q => ∃ (a : Addr) (L : List (Addr × List Int)), vs = [V.ref a] ∧ H a = some (SetTO P w a L) ∧ (∀ p ∈ L, SqT K H p.1 (p.2.map V.int)) ∧ (∀ p ∈ L, ∃ x y, p.2 = [x, y]) ∧
  ∀ (L' : List (Addr × List Int)) (p : Addr), L'.Perm L → L'.Pairwise (fun q r => ptLe q.2 r.2 = true) → H p = none → Q (.ref p) (upd H p (.lst (L'.map fun q => V.ref q.1)))
theorem cr_sortPd {X : Cx} (hc : X.calm = true) (hu : X.A.units + 8 < cLine) : CallR X (.builtin "sorted") (rSortPd X.K X.prog X.w) := by
  intro pins s σ H vs us Q I r h
  obtain ⟨a, L, rfl, ha, hk, h2, q⟩ := h
  have R0 : SetT0 X.prog X.w s.heap a L := (I.hok a _ ha).1
  obtain ⟨es, ep, t, R⟩ := R0.full fun p hp => I.isT (hk p hp)
  rw [Vals.ref1 r]
  refine sorted_setPd R (I.ok.hd hc) hu h2 fun s' p out c L' k g o hp hg hout pm pw => ?_
  have hn : H p = none := I.hok.fresh hp
  have hl : (L'.map fun q => V.ref q.1).length ≤ sizeLine := by
    have := R.few
    rw [List.length_map, pm.length_eq, sizeLine_eq]; omega
  have e : s' = { s with heap := s'.heap, gens := s'.gens, drawn := s'.drawn, toks := s'.toks } := by
    cases s'; cases s; cases o; rfl
  have J : Inv X pins σ (upd H p (.lst (L'.map fun q => V.ref q.1))) { s with heap := s'.heap, gens := s'.gens, drawn := s'.drawn, toks := s'.toks } :=
    I.call (ch := []) (Un.laid k hp hn) (I.hok.laid k hp ⟨hl, out, c, by rw [hout]; exact vals_of_refs L', hg⟩) (by rw [g]; exact I.bare) (fun _ z => nomatch z)
  rw [e]
  exact ⟨.ref p, _, J, rfl, q L' p pm pw hn⟩
def textsOf (S : Store) (d : D) : Option (List Str) := match d with
  | .str z => some (sgns z)
  | d => match seqOf S d with
    | some es => strsOf es
    | none => none
def lenSetX (d : D) (S : Store) : Res D := match textsOf S d with
  | some xs => if xs.length < 4000 then .ok (.int (undup xs).length) S else .stuck
  | none => .stuck
def sortSetX (d : D) (S : Store) : Res D := match textsOf S d with
  | some xs => if xs.length < 4000 then .ok (.lst (((undup xs).mergeSort strLe).map D.str)) S else .stuck
  | none => .stuck
/-- pairs of numbers -/
def pairsOf : List D → Option (List (List Int))
  | [] => some []
  | .tup [.int x, .int y] :: r => (pairsOf r).map ([x, y] :: ·)
  | _ => none
def placesOf (S : Store) (d : D) : Option (List (List Int)) := match seqOf S d with
  | some es => pairsOf es
  | none => none
def lenSetP (d : D) (S : Store) : Res D := match placesOf S d with
  | some ps => if (undup ps).length < 63 then .ok (.int (undup ps).length) S else .stuck
  | none => .stuck
def ptD (p : List Int) : D := .tup (p.map D.int)
def sortSetP (d : D) (S : Store) : Res D := match placesOf S d with
  | some ps => if (undup ps).length < 63 then .ok (.lst (((undup ps).mergeSort ptLe).map ptD)) S else .stuck
  | none => .stuck
section
variable {K : PySem.W.Frag} {mg : Str → Option Value} {w : Wd} {H : Hp} {S : Store}
theorem reps_sts : ∀ xs : List Str, Reps K w H (xs.map D.str) (xs.map V.str)
  | [] => .nil
  | x :: xs => .cons (of_str _) (reps_sts xs)
theorem texts_rep {d : D} {xs : List Str} {v : V} (A : Ab K w H mg S) (h : textsOf S d = some xs) (r : Rep K w H d v) : (∃ z, v = .str z ∧ xs = sgns z) ∨ ∃ l, v = .ref l ∧ (SqL K H l (xs.map V.str) ∨ SqT K H l (xs.map V.str)) := by
  unfold textsOf at h
  split at h
  · cases h
    exact .inl ⟨_, rep_str r, rfl⟩
  · split at h
    · rename_i es hs
      unfold seqOf at hs
      split at hs
      · rename_i es' h1
        cases hs
        obtain ⟨a, vs, rfl, f, r'⟩ := rdL_rep A h1 r
        rw [strsOf_rep h r'] at f
        exact .inr ⟨a, rfl, .inl f⟩
      · obtain ⟨a, vs, rfl, f, r'⟩ := rdT_rep hs r
        rw [strsOf_rep h r'] at f
        exact .inr ⟨a, rfl, .inr f⟩
    · cases h
/-- pairs, by their addresses -/
theorem pairs_rep : ∀ {es : List D} {ps : List (List Int)} {vs : List V}, pairsOf es = some ps → Reps K w H es vs → ∃ ks : List (Addr × List Int), vs = ks.map (fun p => V.ref p.1) ∧ ks.map (·.2) = ps ∧ ∀ p ∈ ks, (∃ x y, p.2 = [x, y]) ∧ FzT w H p.1 (p.2.map V.int)
  | [], ps, vs, h, r => by
    simp only [pairsOf, Option.some.injEq] at h
    simp only [Reps] at r
    subst h r
    exact ⟨[], rfl, rfl, fun _ z => (List.not_mem_nil z).elim⟩
  | e :: es, ps, vs, h, r => by
    unfold pairsOf at h
    split at h
    · rename_i heq; cases heq
    · rename_i x y r' heq
      cases heq
      obtain ⟨qs, h1, rfl⟩ := Option.map_eq_some_iff.mp h
      simp only [Reps] at r
      obtain ⟨v, us, rfl, r1, r2⟩ := r
      obtain ⟨ks, e1, e2, e3⟩ := pairs_rep h1 r2
      simp only [Rep, Reps] at r1
      obtain ⟨a, ws, rfl, f, rr⟩ := r1
      obtain ⟨v1, w1, rfl, q1, v2, w2, rfl, q2, rfl⟩ := rr
      subst q1 q2
      refine ⟨(a, [x, y]) :: ks, by rw [List.map_cons, e1], by rw [List.map_cons, e2], fun p hp => ?_⟩
      rcases List.mem_cons.mp hp with rfl | hp
      · exact ⟨⟨x, y, rfl⟩, f⟩
      · exact e3 p hp
    · cases h
theorem places_rep {d : D} {ps : List (List Int)} {v : V} (A : Ab K w H mg S) (h : placesOf S d = some ps) (r : Rep K w H d v) : ∃ (l : Addr) (ks : List (Addr × List Int)), v = .ref l ∧ (SqL K H l (ks.map fun p => V.ref p.1) ∨ SqT K H l (ks.map fun p => V.ref p.1)) ∧ ks.map (·.2) = ps ∧
    ∀ p ∈ ks, (∃ x y, p.2 = [x, y]) ∧ FzT w H p.1 (p.2.map V.int) := by
  unfold placesOf at h
  split at h
  · rename_i es hs
    unfold seqOf at hs
    split at hs
    · rename_i es' h1
      cases hs
      obtain ⟨a, vs, rfl, f, r'⟩ := rdL_rep A h1 r
      obtain ⟨ks, rfl, e2, e3⟩ := pairs_rep h r'
      exact ⟨a, ks, rfl, .inl f, e2, e3⟩
    · obtain ⟨a, vs, rfl, f, r'⟩ := rdT_rep hs r
      obtain ⟨ks, rfl, e2, e3⟩ := pairs_rep h r'
      exact ⟨a, ks, rfl, .inr f, e2, e3⟩
  · cases h
end
section
variable {X : Cx} {W : XW} {e : Expr} {p p2 q pos : Pos} {m : DSt → Store → Res D}
theorem pm_lenSetX (hc : X.calm = true) (hg : Gl X "len") (hm : X.mg "len" = none) (hg2 : Gl X "set") (hm2 : X.mg "set" = none) (ha : PM X W e m) (na : starEach [e] X.env = (false, eval e X.env) :: starEach [] X.env := by rfl) :
    PM X W (.Call (.Name "len" p) [.Call (.Name "set" p2) [e] [] q] [] pos) (m1 m lenSetX) := by
  have h1 := pe_callTy (p := p2) (pos := q) (cr_setX hc) hg2 hm2 boot_set (pa_cons ha pa_nil na) (he := na)
  have h2 := pe_callB (p := p) (pos := pos) cr_lenX hg hm boot_len (pa_cons h1 pa_nil)
  refine PE.imp h2 fun σ H Q ⟨w, dσ, S, A, R, P⟩ => ⟨w, dσ, S, A, R, P.bind fun d S1 w1 H1 v e1 A1 r1 P1 => ?_⟩
  unfold lenSetX at P1
  split at P1
  · rename_i xs hx
    split at P1
    · rename_i hl
      refine ⟨v, xs, rfl, texts_rep A1 hx r1, hl, fun a ys hn nd hm => ⟨a, ys, rfl, upd_same, ?_⟩⟩
      have pl := (undup_perm nd hm).length_eq
      rw [pl]
      exact P1 w1 _ _ (Ex.new hn) (A1.newF hn) (of_int _)
    · exact P1.elim
  · exact P1.elim
theorem pm_sortSetX (hc : X.calm = true) (hu : X.A.units + 8 < cLine) (hg : Gl X "sorted") (hm : X.mg "sorted" = none) (hg2 : Gl X "set") (hm2 : X.mg "set" = none) (ha : PM X W e m) (na : starEach [e] X.env = (false, eval e X.env) :: starEach [] X.env := by rfl) :
    PM X W (.Call (.Name "sorted" p) [.Call (.Name "set" p2) [e] [] q] [] pos) (m1 m sortSetX) := by
  have h1 := pe_callTy (p := p2) (pos := q) (cr_setX hc) hg2 hm2 boot_set (pa_cons ha pa_nil na) (he := na)
  have h2 := pe_callB (p := p) (pos := pos) (cr_sortX hc hu) hg hm (by rfl) (pa_cons h1 pa_nil)
  refine PE.imp h2 fun σ H Q ⟨w, dσ, S, A, R, P⟩ => ⟨w, dσ, S, A, R, P.bind fun d S1 w1 H1 v e1 A1 r1 P1 => ?_⟩
  unfold sortSetX at P1
  split at P1
  · rename_i xs hx
    split at P1
    · rename_i hl
      refine ⟨v, xs, rfl, texts_rep A1 hx r1, hl, fun a ys hn nd hm => ⟨a, ys, rfl, upd_same, fun zs b pm pw hb => ?_⟩⟩
      rw [sortedX_eq (pm.trans (undup_perm nd hm)) pw]
      exact P1 w1 _ _ ((Ex.new hn).trans (Ex.new hb)) ((A1.newF hn).newF hb) (Rep.lstNew (A1.newF hn) hb (reps_sts _))
    · exact P1.elim
  · exact P1.elim
theorem pm_lenSetP (hc : X.calm = true) (hu : X.A.units + 8 < cLine) (hg : Gl X "len") (hm : X.mg "len" = none) (hg2 : Gl X "set") (hm2 : X.mg "set" = none) (ha : PM X W e m) (na : starEach [e] X.env = (false, eval e X.env) :: starEach [] X.env := by rfl) :
    PM X W (.Call (.Name "len" p) [.Call (.Name "set" p2) [e] [] q] [] pos) (m1 m lenSetP) := by
  have h1 := pe_callTy (p := p2) (pos := q) (cr_setP hc hu) hg2 hm2 boot_set (pa_cons ha pa_nil na) (he := na)
  have h2 := pe_callB (p := p) (pos := pos) cr_lenP hg hm boot_len (pa_cons h1 pa_nil)
  refine PE.imp h2 fun σ H Q ⟨w, dσ, S, A, R, P⟩ => ⟨w, dσ, S, A, R, P.bind fun d S1 w1 H1 v e1 A1 r1 P1 => ?_⟩
  unfold lenSetP at P1
  split at P1
  · rename_i ps hx
    split at P1
    · rename_i hl
      obtain ⟨l, ks, rfl, hq, rfl, hk⟩ := places_rep A1 hx r1
      refine ⟨l, ks, rfl, hq, fun p hp => (hk p hp).2.sq, fun L hs nd => Nat.lt_of_le_of_lt (undup_sub nd fun x hx => by
        obtain ⟨p, hp, rfl⟩ := List.mem_map.mp hx
        exact List.mem_map.mpr ⟨p, hs p hp, rfl⟩) hl, fun a L hn hs hall nd => ⟨a, L, rfl, upd_same, ?_⟩⟩
      have pl : (L.map (·.2)).length = (undup (ks.map (·.2))).length := (undup_perm nd fun x => ⟨fun h => by
        obtain ⟨p, hp, rfl⟩ := List.mem_map.mp h
        exact List.mem_map.mpr ⟨p, hs p hp, rfl⟩, fun h => by
        obtain ⟨p, hp, rfl⟩ := List.mem_map.mp h
        exact hall p hp⟩).length_eq
      rw [List.length_map] at pl
      rw [pl]
      exact P1 w1 _ _ (Ex.new hn) (A1.newF hn) (of_int _)
    · exact P1.elim
  · exact P1.elim
theorem pairs_L {K : PySem.W.Frag} {w : Wd} {H : Hp} : ∀ {L : List (Addr × List Int)}, (∀ p ∈ L, (∃ x y, p.2 = [x, y]) ∧ FzT w H p.1 (p.2.map V.int)) → Reps K w H ((L.map (·.2)).map ptD) (L.map fun q => V.ref q.1)
  | [], _ => .nil
  | p :: L, h => by
    obtain ⟨⟨x, y, e⟩, f⟩ := h p List.mem_cons_self
    refine .cons ?_ (pairs_L fun q hq => h q (List.mem_cons_of_mem _ hq))
    show Rep K w H (ptD p.2) (V.ref p.1)
    rw [e] at f ⊢
    simp only [ptD, Rep, List.map_cons, List.map_nil]
    exact ⟨p.1, _, rfl, f, .cons (of_int _) (.cons (of_int _) .nil)⟩
theorem pm_sortSetP (hc : X.calm = true) (hu : X.A.units + 8 < cLine) (hg : Gl X "sorted") (hm : X.mg "sorted" = none) (hg2 : Gl X "set") (hm2 : X.mg "set" = none) (ha : PM X W e m) (na : starEach [e] X.env = (false, eval e X.env) :: starEach [] X.env := by rfl) :
    PM X W (.Call (.Name "sorted" p) [.Call (.Name "set" p2) [e] [] q] [] pos) (m1 m sortSetP) := by
  have h1 := pe_callTy (p := p2) (pos := q) (cr_setP hc hu) hg2 hm2 boot_set (pa_cons ha pa_nil na) (he := na)
  have h2 := pe_callB (p := p) (pos := pos) (cr_sortPd hc hu) hg hm (by rfl) (pa_cons h1 pa_nil)
  refine PE.imp h2 fun σ H Q ⟨w, dσ, S, A, R, P⟩ => ⟨w, dσ, S, A, R, P.bind fun d S1 w1 H1 v e1 A1 r1 P1 => ?_⟩
  unfold sortSetP at P1
  split at P1
  · rename_i ps hx
    split at P1
    · rename_i hl
      obtain ⟨l, ks, rfl, hq, rfl, hk⟩ := places_rep A1 hx r1
      refine ⟨l, ks, rfl, hq, fun p hp => (hk p hp).2.sq, fun L hs nd => Nat.lt_of_le_of_lt (undup_sub nd fun x hx => by
        obtain ⟨p, hp, rfl⟩ := List.mem_map.mp hx
        exact List.mem_map.mpr ⟨p, hs p hp, rfl⟩) hl, fun a L hn hs hall nd => ⟨a, L, rfl, upd_same, fun p hp => ((hk p (hs p hp)).2.mono (Ex.new hn)).sq, fun p hp => (hk p (hs p hp)).1, fun L' b pm pw hb => ?_⟩⟩
      have hs' : ∀ p ∈ L', p ∈ ks := fun p hp => hs p (pm.mem_iff.mp hp)
      have pu : (L'.map (·.2)).Perm (undup (ks.map (·.2))) := (pm.map _).trans (undup_perm nd fun x => ⟨fun h => by
        obtain ⟨p, hp, rfl⟩ := List.mem_map.mp h
        exact List.mem_map.mpr ⟨p, hs p hp, rfl⟩, fun h => by
        obtain ⟨p, hp, rfl⟩ := List.mem_map.mp h
        exact hall p hp⟩)
      have es : L'.map (·.2) = (undup (ks.map (·.2))).mergeSort ptLe :=
        (pu.trans (List.mergeSort_perm _ ptLe).symm).eq_of_pairwise (le := fun a b => ptLe a b = true) (fun a b _ _ => ptLe_anti) (List.pairwise_map.mpr pw) (List.pairwise_mergeSort (le := ptLe) (fun x y z => ptLe_trans) (fun x y => ptLe_total x y) _)
      rw [← es] at P1
      exact P1 w1 _ _ ((Ex.new hn).trans (Ex.new hb)) ((A1.newF hn).newF hb) (Rep.lstNew (A1.newF hn) hb (pairs_L fun p hp => ⟨(hk p (hs' p hp)).1, (hk p (hs' p hp)).2.mono (Ex.new hn)⟩))
    · exact P1.elim
  · exact P1.elim
end
end L3
namespace L3
open PySem PySem.Spec PyProof.Rows L2
/-! ### {"a": x, "b": y, ..} -/
def zipK2 (ks : List Str) (ds : List D) : List (Key × D) := (ks.zip ds).map fun p => (.inr p.1, p.2)
def mDispK (ks : List Str) (ms : DSt → Store → Res (List D)) (σ : DSt) (S : Store) : Res D := (ms σ (S ++ [.dK []])).bind fun ds S1 => match S1[S.length]? with
  | some (.dK []) => if ds.length = ks.length ∧ ks.length ≤ 15 then .ok (.loc S.length) (S1.set S.length (.dK (mergeD [] (zipK2 ks ds)))) else .stuck
  | _ => .stuck
/-- the pairs of such a display -/
def PMD (X : Cx) (W : XW) (pos : Pos) (keys : List (Option Expr)) (values : List Expr) (ks : List Str) (m : DSt → Store → Res (List D)) : Prop :=
  ∃ trs, PPs X pos keys values trs ∧ ∀ σ H (Q : List (V × V) → Hp → Prop), (∃ w dσ S, Ab X.K w H X.mg S ∧ RSt X.K w H dσ σ ∧ Post X.K X.mg (Reps X.K) W σ w H (m dσ S) fun vs H' => Q ((ks.map V.str).zip vs) H') → tPairs trs σ H Q
section
variable {X : Cx} {W : XW} {pos : Pos}
theorem pmd_nil : PMD X W pos [] [] [] mNil := ⟨[], pps_nil, fun σ H Q ⟨w, dσ, S, A, R, P⟩ => P.fin A .nil⟩
theorem pmd_cons {k v : Expr} {keys : List (Option Expr)} {values : List Expr} {z : Str} {ks : List Str} {m : DSt → Store → Res D} {ms : DSt → Store → Res (List D)} (hk : PM X W k (mC (.str z))) (hv : PM X W v m) (hr : PMD X W pos keys values ks ms) :
    PMD X W pos (some k :: keys) (v :: values) (z :: ks) (mCons m ms) := by
  obtain ⟨trs, h1, h2⟩ := hr
  refine ⟨_, pps_cons hk hv h1, fun σ H Q ⟨w, dσ, S, A, R, P⟩ => ?_⟩
  refine ⟨w, dσ, S, A, R, fun w1 H1 x e1 A1 r1 => ⟨w1, dσ, S, A1, R.mono e1, Post.bind (P.ex e1) fun d S1 w2 H2 y e2 A2 r2 P1 => h2 σ H2 _ ⟨w2, dσ, S1, A2, (R.mono e1).mono e2, P1.bind fun ds S2 w3 H3 vs e3 A3 r3 P2 => ?_⟩⟩⟩
  have hx := rep_str r1
  subst hx
  exact P2.fin A3 (.cons (r2.mono e3) r3)
theorem rkv_zip {K : PySem.W.Frag} {w : Wd} {H : Hp} : ∀ {ks : List Str} {ds : List D} {vs : List V}, ds.length = ks.length → Reps K w H ds vs → RKv K w H (zipK2 ks ds) ((ks.zip vs).map fun p => ((.inr p.1 : Key), p.2))
  | [], [], _, _, h => by simp only [Reps] at h; subst h; rfl
  | k :: ks, d :: ds, _, hl, h => by
    simp only [Reps] at h
    obtain ⟨v, r, rfl, h1, h2⟩ := h
    exact ⟨v, _, rfl, h1, rkv_zip (by simpa using hl) h2⟩
theorem zip_kv : ∀ (ks : List Str) (vs : List V), (ks.map V.str).zip vs = ((ks.zip vs).map fun p => ((.inr p.1 : Key), p.2)).map fun kv => (kV kv.1, kv.2)
  | [], _ => rfl
  | _ :: _, [] => rfl
  | k :: ks, v :: vs => by
    rw [List.map_cons, List.zip_cons_cons, List.zip_cons_cons, List.map_cons, List.map_cons, zip_kv ks vs]
    rfl
theorem pm_dispK {keys : List (Option Expr)} {values : List Expr} {ks : List Str} {ms : DSt → Store → Res (List D)} (h : PMD X W pos keys values ks ms) (hall : keys.all (·.isSome) = true := by rfl) (hl : keys.length = values.length := by rfl) (h0 : keys ≠ [] := by exact List.cons_ne_nil _ _) (h15 : keys.length ≤ 15 := by decide) :
    PM X W (.Dict keys values pos) (mDispK ks ms) := by
  obtain ⟨trs, h1, h2⟩ := h
  refine PE.imp (pe_disp h1 hall hl h0 h15) fun σ H Q ⟨w, dσ, S, A, R, P⟩ p hp => ?_
  have A1 := A.newM hp (o := .dK []) (ob := .dK []) ⟨[], rfl, rfl⟩
  have rl : Rep X.K ⟨w.M ++ [p], w.B⟩ (upd H p (.dK [])) (.loc S.length) (.ref p) := Rep.locNew A
  refine h2 σ _ _ ⟨_, dσ, S ++ [.dK []], A1, R.mono (Ex.newM hp), (P.ex (Ex.newM hp)).bind fun ds S1 w1 H1 vs e1 A2 r1 P1 => ?_⟩
  have rl2 := rl.mono e1
  simp only [Rep] at rl2
  obtain ⟨a, el, ea⟩ := rl2
  cases ea
  have hmem : p ∈ w1.M := List.mem_of_getElem? el
  split at P1
  · rename_i q
    obtain ⟨u, eu, vs', rfl, r⟩ := A2.ob _ p _ el q
    have hvs : vs' = [] := List.eq_nil_of_length_eq_zero (by rw [← r.length]; rfl)
    subst hvs
    split at P1
    · rename_i hlen
      refine ⟨eu, _, zip_kv ks vs, by rw [List.length_map, List.length_zip]; omega, P1 w1 _ _ (Ex.wr hmem (nz_dK eu)) (A2.wr el (nz_dK eu) ⟨_, rfl, ?_⟩) ?_⟩
      · exact mergeK_rep (rkv_zip hlen.1 r1) (show RKv X.K w1 H1 ([] : List (Key × D)) [] from rfl)
      · simp only [Rep]
        exact ⟨p, el, rfl⟩
    · exact P1.elim
  · exact P1.elim
end
end L3
namespace L3
open PySem PySem.Spec PyProof.Rows L2
/-! ### methods of tuples that are known exactly -/
def tBMT (X : Cx) (r : V → List V → Hp → VK → Prop) (to : TE) (t : TA) : TE := fun σ H Q => to σ H fun x H1 => (∃ a xs, x = .ref a ∧ ExT X.K H1 a xs) ∧ t σ H1 fun xs H2 => r x xs H2 Q
section
variable {X : Cx} {W : XW} {o e : Expr} {es : List Expr} {to : TE} {t : TA} {name : Str} {apos cpos : Pos} {id : String} {r : V → List V → Hp → VK → Prop}
theorem pe_bmT (pa : PlainAttrs "tuple") (slot : Slot "tuple" name id) (hty : typeOf (.builtin id) = pure (.type "method_descriptor")) (hm : MtR X id r) (ho : PE X o to) (ha : PA X (e :: es) t)
    (hbase : attributeBase o name X.env (eval o X.env) = eval o X.env := by rfl)
    (few : ((backTo cpos (starEach (e :: es) X.env)).all (fun x => !x.1) && (backToKw cpos (keywordEach [] X.env)).all (fun x => x.1.isSome) && decide ((e :: es).length + ([] : List Keyword).length + (if ([] : List Keyword).isEmpty then 0 else 1) < 30)) = true := by rfl)
    (line : (apos.endLine == cpos.line) = true := by rfl) (hs : starEach (e :: es) X.env = (false, eval e X.env) :: starEach es X.env := by rfl) (plain : (backTo cpos (starEach es X.env)).any (·.1) = false := by rfl) :
    PE X (.Call (.Attribute o name apos) (e :: es) [] cpos) (tBMT X r to t) := by
  refine ⟨fun pins s σ H Q I h => wpAny_Call_method_late hbase few line rfl (thn (ho.run pins s σ H _ I h) fun v s1 ⟨x, H1, I1, r1, ⟨a, xs, ex, et⟩, q1⟩ => ?_)⟩
  subst ex
  obtain ⟨ob, its, n, g, h2, h3, _⟩ := et.at I1
  obtain rfl : v = Value.ref a := r1
  refine ⟨"tuple", id, pa, slot, hty, ⟨ob, g, h2⟩, fun b e => ?_, ?_⟩
  · cases e
    exact ⟨ob, g, h3⟩
  have hA := ha.run cpos pins s1 σ H1 _ I1 q1
  rw [hs] at hA ⊢
  refine Calls.callWith_builtin (by show (false || (backTo cpos (starEach es X.env)).any (·.1)) = false; rw [plain]; rfl) (Calls.evalArgs_plain ?_)
  exact thn hA fun us s2 ⟨vs, H2, I2, r2, q2⟩ => hm pins s2 σ H2 (.ref a) vs (.ref a) us Q I2 (show RelV (.ref a) (Value.ref a) from rfl) r2 q2
/-- t.index(k) of such a tuple -/
def mTIdx (mo : DSt → Store → Res D) (ms : DSt → Store → Res (List D)) (σ : DSt) (S : Store) : Res D := (mo σ S).bind fun d S1 => match d with
  | .ktp es => (ms σ S1).bind fun ds S2 => tindexD (.tup es) ds S2
  | _ => .stuck
theorem pm_tidx {mo : DSt → Store → Res D} {ms : DSt → Store → Res (List D)} (pa : PlainAttrs "tuple") (slot : Slot "tuple" name "tuple.index") (hty : typeOf (.builtin "tuple.index") = pure (.type "method_descriptor")) (ho : PM X W o mo) (ha : PMA X W (e :: es) ms)
    (hbase : attributeBase o name X.env (eval o X.env) = eval o X.env := by rfl)
    (few : ((backTo cpos (starEach (e :: es) X.env)).all (fun x => !x.1) && (backToKw cpos (keywordEach [] X.env)).all (fun x => x.1.isSome) && decide ((e :: es).length + ([] : List Keyword).length + (if ([] : List Keyword).isEmpty then 0 else 1) < 30)) = true := by rfl)
    (line : (apos.endLine == cpos.line) = true := by rfl) (hs : starEach (e :: es) X.env = (false, eval e X.env) :: starEach es X.env := by rfl) (plain : (backTo cpos (starEach es X.env)).any (·.1) = false := by rfl) :
    PM X W (.Call (.Attribute o name apos) (e :: es) [] cpos) (mTIdx mo ms) := by
  refine PE.imp (pe_bmT pa slot hty mt_tindex ho ha hbase few line hs plain) fun σ H Q ⟨w, dσ, S, A, R, P⟩ => ⟨w, dσ, S, A, R, P.bind fun d S1 w1 H1 v e1 A1 r1 P1 => ?_⟩
  split at P1
  · rename_i ns
    simp only [Rep] at r1
    obtain ⟨a, ys, rfl, f, q⟩ := r1
    refine ⟨⟨a, ys, rfl, ?_⟩, w1, dσ, S1, A1, R.mono e1, P1.bind fun ds S2 w2 H2 vs e2 A2 r2 P2 => ?_⟩
    · rcases f with f | ⟨_, _, o, its, n, h1, h2, h3, h4⟩
      · exact .inl f
      · exact .inr ⟨o, its, n, h1, h2, h3, h4⟩
    have f2 : KcT X.K a ys ∨ PlT w2 H2 a ys := f.imp_right fun z => z.mono e2
    have q2 := q.mono e2
    unfold tindexD at P2
    split at P2
    · rename_i es' k heq
      cases heq
      split at P2
      · rename_i zs hz
        split at P2
        · rename_i hk
          obtain ⟨u1, rfl, r3⟩ := reps1 r2
          have ez := intsOf_rep hz q2
          subst ez
          exact ⟨a, zs, k, rfl, by rw [rep_int r3], kp_sq f2, hk, P2.fin A2 (of_int _)⟩
        · exact P2.elim
      · exact P2.elim
    · exact P2.elim
  · exact P1.elim
end
end L3
namespace L3
open PySem PySem.Spec PyProof.Rows L2
section
variable {X : Cx} {W : XW}
/-! ### tuple(text) -/
theorem signs_vals {z : Str} {acc : Array Value} (h : ItemsOf (SignAt z) acc z.cps.size) : Vals (z.cps.toList.map fun c => V.str ⟨#[c]⟩) acc.toList := by
  have hl : acc.size = z.cps.size := h.1
  have key : ∀ (cs : List Nat) (vs : List Value), vs.length = cs.length → (∀ (i : Nat) (v : Value), vs[i]? = some v → ∃ c u, cs[i]? = some c ∧ v = .str ⟨#[c]⟩ u) → Vals (cs.map fun c => V.str ⟨#[c]⟩) vs := by
    intro cs
    induction cs with
    | nil => intro vs h _; cases vs with
      | nil => exact .nil
      | cons v vs => simp at h
    | cons c cs ih =>
      intro vs h hv
      cases vs with
      | nil => simp at h
      | cons v vs =>
        obtain ⟨c', u, e1, e2⟩ := hv 0 v (by simp)
        simp at e1
        subst e1
        exact .cons ⟨u, e2⟩ (ih vs (by simpa using h) fun i v' e => by
          obtain ⟨c'', u', e3, e4⟩ := hv (i + 1) v' (by simpa using e)
          exact ⟨c'', u', by simpa using e3, e4⟩)
  refine key _ _ (by simp [hl]) fun i v e => ?_
  have hi : i < acc.size := by
    have := (List.getElem?_eq_some_iff.mp e).1
    simpa using this
  have hv : acc[i]? = some v := by simpa using e
  obtain ⟨c, u', hc1, rfl⟩ := h.2 i v hv
  exact ⟨c, u', by simpa using hc1, rfl⟩
theorem call_tuple_text (hc : X.calm = true) : CallR X (.type "tuple") (fun xs H Q => ∃ z : Str, xs = [.str z] ∧ z.length ≤ sizeLine ∧ ∀ l, H l = none → Q (.ref l) (upd H l (.tup (z.cps.toList.map fun c => V.str ⟨#[c]⟩)))) := by
  intro pins s σ H xs us Q I r h
  obtain ⟨z, rfl, hz, q⟩ := h
  obtain ⟨u, rfl, t, rfl⟩ := vals1 r
  have hz' : z.cps.size ≤ sizeLine := hz
  refine PySem.call_tuple_str (hsz := hz') (I.ok.hd hc) z t fun h' tk acc hk hacc => ?_
  have rv := signs_vals hacc
  have I1 : Inv X pins σ H { s with heap := h', toks := tk } := I.kept (t' := tk) hk
  have I2 : Inv X pins σ (upd H h'.objs.size (.tup (z.cps.toList.map fun c => V.str ⟨#[c]⟩))) { s with heap := h'.push { cls := .type "tuple", data := .seq acc }, toks := tk } :=
    I1.laid (t' := tk) (fun b o e => Heap.get?_push_of_some _ e) (Nat.le_refl _) (show ObjOk X.prog X.w _ _ _ (.tup _) from ⟨by simpa using hz', acc.toList, rv, by simpa using IsTup.new (h := h') (items := acc.toList.toArray)⟩)
  exact ⟨.ref h'.objs.size, _, I2, rfl, q _ (I1.hok.fresh (Nat.le_refl _))⟩
def tupleSD (ds : List D) (S : Store) : Res D := match ds with
  | [.str z] => if z.length ≤ sizeLine then .ok (.tup (signsOf z)) S else .stuck
  | _ => .stuck
theorem cd_tupleS (hc : X.calm = true) : CallD X W (.type "tuple") tupleSD := by
  refine ⟨_, call_tuple_text hc, fun w H S ds vs σ Q A r P => ?_⟩
  unfold tupleSD at P
  split at P
  · rename_i z
    obtain ⟨v, rfl, r1⟩ := reps1 r
    split at P
    · rename_i hz
      exact ⟨z, by rw [rep_str r1], hz, fun l hl => P w _ _ (Ex.new hl) (A.newF hl) (Rep.tupNew A hl (signs_rep _))⟩
    · exact P.elim
  · exact P.elim
end
end L3
namespace L3
open PySem PySem.Spec PyProof.Rows L2
section
variable {X : Cx} {W : XW}
/-! ### a tuple of anything == () -/
theorem tup_is {h : Heap} {a : Addr} {items : Array Value} (t : IsTup h a items) : h.IsTuple a items := t
theorem op_eqT0 (hu : X.A.units + 64 < cLine) : OpR X (compareOp .Eq) (fun x y H Q => ∃ a b xs, x = .ref a ∧ y = .ref b ∧ SqT X.K H a xs ∧ SqT X.K H b [] ∧ Q (.bl xs.isEmpty) H) := fun pins s σ H x y v u Q I rx ry ⟨a, b, xs, e1, e2, t1, t2, q⟩ => by
  subst e1 e2
  obtain rfl : v = Value.ref a := rx
  obtain rfl : u = Value.ref b := ry
  obtain ⟨its, r1, p1, hz1⟩ := I.tuple t1
  obtain ⟨its2, r2, p2, hz2⟩ := I.tuple t2
  have h2 : its2 = [] := by
    have := r2.length
    cases its2 with
    | nil => rfl
    | cons _ _ => simp at this
  subst h2
  refine SeqAt.eq_tupleAt (e := fun _ => true) (tup_is p1) (tup_is p2) (by omega) (fun j h1 h2 => absurd h2 (by simp)) ⟨.bl xs.isEmpty, H, I, ?_, q⟩
  have hl := r1.length
  have : ((List.range (min its.toArray.size ([] : List Value).toArray.size)).all (fun _ => true) && its.toArray.size == ([] : List Value).toArray.size) = xs.isEmpty := by
    cases xs with
    | nil =>
      have : its = [] := by cases its with
        | nil => rfl
        | cons _ _ => simp at hl
      subst this
      rfl
    | cons x xs =>
      cases its with
      | nil => simp at hl
      | cons y ys => simp
  rw [this]
  rfl
def eqTE (d e : D) (S : Store) : Res D := match d, e with
  | .tup ds, .tup [] => .ok (.bl ds.isEmpty) S
  | _, _ => .stuck
theorem od_eqTE (hu : X.A.units + 64 < cLine) : OpD X W (compareOp .Eq) eqTE := by
  refine ⟨_, op_eqT0 hu, fun w H S d e x y σ Q A rd re P => ?_⟩
  unfold eqTE at P
  split at P
  · rename_i ds
    obtain ⟨a, vs, rfl, f, r⟩ := tup_rep rd
    obtain ⟨b, us, rfl, g, r'⟩ := tup_rep re
    simp only [Reps] at r'
    subst r'
    refine ⟨a, b, vs, rfl, rfl, .of f, .of g, ?_⟩
    have : ds.isEmpty = vs.isEmpty := by
      have := r.length
      cases ds <;> cases vs <;> simp at this ⊢
    rw [← this]
    exact P.fin A (of_bl _)
  · exact P.elim
theorem op_neT0 (hu : X.A.units + 64 < cLine) : OpR X (compareOp .NotEq) (fun x y H Q => ∃ a b xs, x = .ref a ∧ y = .ref b ∧ SqT X.K H a xs ∧ SqT X.K H b [] ∧ Q (.bl (!xs.isEmpty)) H) := fun pins s σ H x y v u Q I rx ry ⟨a, b, xs, e1, e2, t1, t2, q⟩ => by
  subst e1 e2
  obtain rfl : v = Value.ref a := rx
  obtain rfl : u = Value.ref b := ry
  obtain ⟨its, r1, p1, hz1⟩ := I.tuple t1
  obtain ⟨its2, r2, p2, hz2⟩ := I.tuple t2
  have h2 : its2 = [] := by
    have := r2.length
    cases its2 with
    | nil => rfl
    | cons _ _ => simp at this
  subst h2
  refine SeqAt.RcNeAt.tuples (e := fun _ => true) (tup_is p1) (tup_is p2) (by omega) (fun j h1 h2 => absurd h2 (by simp)) _ _ _ _ ⟨.bl (!xs.isEmpty), H, I, ?_, q⟩
  have hl := r1.length
  cases xs with
  | nil =>
    have : its = [] := by cases its with
      | nil => rfl
      | cons _ _ => simp at hl
    subst this
    rfl
  | cons x xs =>
    cases its with
    | nil => simp at hl
    | cons y ys =>
      show (_ : Value) = _
      simp
def neTE (d e : D) (S : Store) : Res D := match d, e with
  | .tup ds, .tup [] => .ok (.bl (!ds.isEmpty)) S
  | _, _ => .stuck
theorem od_neTE (hu : X.A.units + 64 < cLine) : OpD X W (compareOp .NotEq) neTE := by
  refine ⟨_, op_neT0 hu, fun w H S d e x y σ Q A rd re P => ?_⟩
  unfold neTE at P
  split at P
  · rename_i ds
    obtain ⟨a, vs, rfl, f, r⟩ := tup_rep rd
    obtain ⟨b, us, rfl, g, r'⟩ := tup_rep re
    simp only [Reps] at r'
    subst r'
    refine ⟨a, b, vs, rfl, rfl, .of f, .of g, ?_⟩
    have : ds.isEmpty = vs.isEmpty := by
      have := r.length
      cases ds <;> cases vs <;> simp at this ⊢
    rw [← this]
    exact P.fin A (of_bl _)
  · exact P.elim
end
end L3
namespace L3
open PySem PySem.Spec PyProof.Rows L2
/-! ### repr(..) of None, of texts, of an empty dict too -/
noncomputable def reprXD (ds : List D) (S : Store) : Res D := match ds with
  | [.non] => .ok (.str (Str.ofString "None")) S
  | [.str x] => if (reprText x).length ≤ sizeLine then .ok (.str (reprText x)) S else .stuck
  | [.loc l] => match S[l]? with
    | some (.dT []) => .ok (.str (PyData.shown (.dict []))) S
    | _ => reprD [.loc l] S
  | ds => reprD ds S
section
variable {X : Cx} {W : XW}
theorem call_repr_non : CallR X (.builtin "repr") (fun xs H Q => xs = [.non] ∧ Q (.str (Str.ofString "None")) H) := by
  intro pins s σ H xs us Q I r h
  obtain ⟨rfl, q⟩ := h
  obtain ⟨u, rfl, ru⟩ := vals1 r
  obtain rfl : u = Value.none := ru
  exact PySem.P.repr_of_none ⟨.str (Str.ofString "None"), H, I.tok _, ⟨_, rfl⟩, q⟩
theorem call_repr_str : CallR X (.builtin "repr") (fun xs H Q => ∃ x : Str, xs = [.str x] ∧ (reprText x).length ≤ sizeLine ∧ Q (.str (reprText x)) H) := by
  intro pins s σ H xs us Q I r h
  obtain ⟨x, rfl, hz, q⟩ := h
  obtain ⟨u, rfl, t, rfl⟩ := vals1 r
  exact PySem.P.repr_of_str ⟨.str (reprText x), H, I.tok _, ⟨_, rfl⟩, q⟩ hz
theorem call_repr_dT0 (hg : X.A.guards = some []) (hu : X.A.units + 64 < cLine) : CallR X (.builtin "repr") (fun xs H Q => ∃ a, xs = [.ref a] ∧ H a = some (.dT []) ∧ Q (.str (PyData.shown (.dict []))) H) := by
  intro pins s σ H xs us Q I r h
  obtain ⟨a, rfl, e, q⟩ := h
  obtain ⟨u, rfl, ru⟩ := vals1 r
  obtain rfl : u = Value.ref a := ru
  obtain ⟨z, hsys, ks, pr, o, es, ep, ho, hx, hdt, he, hn⟩ := (show ObjOk X.prog X.w H s.heap a (.dT []) from I.hok a _ e)
  cases pr
  have hes : es.toList = [] := he
  have rd : Reads s.heap (.ref a) (.dict []) (a :: [] ++ []) := .dict ho hx.1 hdt (by rw [hes]; exact .nil) (by rw [hes]; exact .nil)
  refine repr_of_reads' rd rfl (fun _ hm => ?_) hg (by simp only [PyData.depth, PyData.depthKv]; omega) (fun _ _ e => e) (fun h' u tk k => ⟨.str _, H, I.kept (t' := tk) k, ⟨u, rfl⟩, q⟩) (by decide +kernel)
  have : sysModules = a := by simpa using hm
  rw [this] at hsys
  simp at hsys
theorem cd_reprX (hg : X.A.guards = some []) (hu : X.A.units + 64 < cLine) : CallD X W (.builtin "repr") reprXD := by
  obtain ⟨R, hR, hD⟩ := cd_repr (X := X) (W := W) hg hu
  refine ⟨_, ((hR.or call_repr_non).or call_repr_str).or (call_repr_dT0 hg hu), fun w H S ds vs σ Q A r P => ?_⟩
  have old : Post X.K X.mg (Rep X.K) W σ w H (reprD ds S) Q → R vs H Q := fun P => hD w H S ds vs σ Q A r P
  unfold reprXD at P
  split at P
  · obtain ⟨v, rfl, r1⟩ := reps1 r
    have hv : v = .non := by simpa only [Rep] using r1
    exact .inl (.inl (.inr ⟨by rw [hv], P.fin A (of_str _)⟩))
  · obtain ⟨v, rfl, r1⟩ := reps1 r
    rename_i x
    have hv : v = .str x := by simpa only [Rep] using r1
    split at P
    · rename_i hz
      exact .inl (.inr ⟨x, by rw [hv], hz, P.fin A (of_str _)⟩)
    · exact P.elim
  · rename_i l
    split at P
    · rename_i hl
      obtain ⟨v, rfl, r1⟩ := reps1 r
      simp only [Rep] at r1
      obtain ⟨a, e1, rfl⟩ := r1
      obtain ⟨a', u, e2, eu, k⟩ := A.obs hl
      rw [e1] at e2
      cases e2
      obtain ⟨vs', rfl, rk⟩ := k
      have : vs' = [] := rk
      subst this
      exact .inr ⟨a, rfl, eu, P.fin A (of_str _)⟩
    · exact .inl (.inl (.inl (old P)))
  · exact .inl (.inl (.inl (old P)))
end
end L3
namespace L3
open PySem PySem.Spec PyProof.Rows L2
/-! ### min, max of a tuple of whole numbers -/
section
variable {X : Cx} {W : XW}
theorem dp_intsM {K : PySem.W.Frag} {H : Hp} : ∀ ns : List Int, DpAll K H (ns.map V.int) (ns.map PyData.int)
  | [] => .nil
  | n :: ns => .cons (.int n) (dp_intsM ns)
theorem depth_intsM : ∀ ns : List Int, PyData.depthAll (ns.map PyData.int) = 0
  | [] => rfl
  | n :: ns => by
    rw [List.map_cons]
    simp only [PyData.depthAll, PyData.depth, depth_intsM ns]
    rfl
theorem alike_intsM (ns : List Int) : PySem.W.AlikeAll (ns.map PyData.int) := by
  refine ⟨fun x hx y hy => ?_, fun x hx => ?_⟩
  · obtain ⟨a, _, rfl⟩ := List.mem_map.mp hx
    obtain ⟨b, _, rfl⟩ := List.mem_map.mp hy
    rfl
  · obtain ⟨a, _, rfl⟩ := List.mem_map.mp hx
    exact fun z => nomatch z
def rMMT (K : PySem.W.Frag) (f : Int → List Int → Int) : List V → Hp → VK → Prop := fun xs H Q => ∃ a n ns, xs = [.ref a] ∧ SqT K H a ((n :: ns).map V.int) ∧ Q (.int (f n ns)) H
theorem cr_minTT (hc : X.calm = true) (hu : X.A.units + 64 < cLine) : CallR X (.builtin "min") (rMMT X.K fun n ns => ns.foldl min n) := by
  intro pins s σ H xs us Q I r h
  obtain ⟨a, n, ns, rfl, t, q⟩ := h
  obtain ⟨u, rfl, ru⟩ := vals1 r
  obtain rfl : u = Value.ref a := ru
  obtain ⟨its, r1, p1, hz⟩ := I.tuple t
  obtain ⟨as, rd⟩ := Dp.readsAll I _ _ _ (dp_intsM (n :: ns)) r1
  refine PySem.W.min_tuple_data (I.ok.hd hc) (tup_is p1) rd (alike_intsM (n :: ns)) (by rw [← List.map_cons, depth_intsM]; omega) fun i v h' tk bs _ rv k => ?_
  rw [PySem.W.minD_ints] at rv
  cases rv with
  | int i t => exact ⟨.int _, H, I.kept (t' := tk) k, ⟨_, rfl⟩, q⟩
theorem cr_maxTT (hc : X.calm = true) (hu : X.A.units + 64 < cLine) : CallR X (.builtin "max") (rMMT X.K fun n ns => ns.foldl max n) := by
  intro pins s σ H xs us Q I r h
  obtain ⟨a, n, ns, rfl, t, q⟩ := h
  obtain ⟨u, rfl, ru⟩ := vals1 r
  obtain rfl : u = Value.ref a := ru
  obtain ⟨its, r1, p1, hz⟩ := I.tuple t
  obtain ⟨as, rd⟩ := Dp.readsAll I _ _ _ (dp_intsM (n :: ns)) r1
  refine PySem.W.max_tuple_data (I.ok.hd hc) (tup_is p1) rd (alike_intsM (n :: ns)) (by rw [← List.map_cons, depth_intsM]; omega) fun i v h' tk bs _ rv k => ?_
  rw [PySem.W.maxD_ints] at rv
  cases rv with
  | int i t => exact ⟨.int _, H, I.kept (t' := tk) k, ⟨_, rfl⟩, q⟩
def minTD (ds : List D) (S : Store) : Res D := match ds with
  | [d] => match rdT d with
    | some es => match intsOf es with
      | some (n :: ns) => .ok (.int (ns.foldl min n)) S
      | _ => .stuck
    | none => .stuck
  | _ => .stuck
def maxTD (ds : List D) (S : Store) : Res D := match ds with
  | [d] => match rdT d with
    | some es => match intsOf es with
      | some (n :: ns) => .ok (.int (ns.foldl max n)) S
      | _ => .stuck
    | none => .stuck
  | _ => .stuck
theorem cd_minT (hc : X.calm = true) (hu : X.A.units + 64 < cLine) : CallD X W (.builtin "min") minTD := by
  refine ⟨_, cr_minTT hc hu, fun w H S ds vs σ Q A r P => ?_⟩
  unfold minTD at P
  split at P
  · split at P
    · split at P
      · rename_i d _ es h1 _ n ns h2
        obtain ⟨v, rfl, r1⟩ := reps1 r
        obtain ⟨a, us, rfl, f, r'⟩ := rdT_rep h1 r1
        have e := intsOf_rep h2 r'
        exact ⟨a, n, ns, rfl, by rw [← e]; exact f, P.fin A (of_int _)⟩
      · exact P.elim
    · exact P.elim
  · exact P.elim
theorem cd_maxT (hc : X.calm = true) (hu : X.A.units + 64 < cLine) : CallD X W (.builtin "max") maxTD := by
  refine ⟨_, cr_maxTT hc hu, fun w H S ds vs σ Q A r P => ?_⟩
  unfold maxTD at P
  split at P
  · split at P
    · split at P
      · rename_i d _ es h1 _ n ns h2
        obtain ⟨v, rfl, r1⟩ := reps1 r
        obtain ⟨a, us, rfl, f, r'⟩ := rdT_rep h1 r1
        have e := intsOf_rep h2 r'
        exact ⟨a, n, ns, rfl, by rw [← e]; exact f, P.fin A (of_int _)⟩
      · exact P.elim
    · exact P.elim
  · exact P.elim
end
end L3
namespace L3
open PySem PySem.Spec L2

/-! ### evaluation: what each reading gives at data that are there -/
section
variable {σ : DSt} {S : Store} {a b c : DSt → Store → Res D} {i j : Int} {x y : Str} {ds es : List D} {d e : D} {l n k : Nat}
@[simp] theorem e_seq (a b : DSt → Store → Res Fl) : mSeq a b σ S = thenS (a σ S) b := (rfl)
@[simp] theorem e_skip : mSkip σ S = .ok (.nx σ) S := (rfl)
@[simp] theorem e_do : mDo a σ S = liftE (a σ S) σ fun _ S1 => .ok (.nx σ) S1 := (rfl)
@[simp] theorem e_ret : mRet a σ S = liftE (a σ S) σ fun d S1 => .ok (.rt d) S1 := (rfl)
@[simp] theorem e_ifs (c : DSt → Store → Res Bool) (a b : DSt → Store → Res Fl) : mIfS c a b σ S = liftE (c σ S) σ fun x S1 => if x = true then a σ S1 else b σ S1 := (rfl)
@[simp] theorem e_set (i : Nat) : mSet i a σ S = liftE (a σ S) σ fun d S1 => .ok (.nx (σ.set i (some d))) S1 := (rfl)
@[simp] theorem e_asg (g : D → DSt → Store → Res DSt) : mAsg a g σ S = liftE (a σ S) σ fun d S1 => bindG (g d σ S1) fun σ2 S2 => .ok (.nx σ2) S2 := (rfl)
@[simp] theorem e_par (i j : Nat) (ms : DSt → Store → Res (List D)) : mPar i j ms σ S = liftE (ms σ S) σ fun ds S1 => match ds with
  | [a, b] => .ok (.nx ((σ.set i (some a)).set j (some b))) S1
  | _ => .stuck := (rfl)
@[simp] theorem e_for (mi : DSt → Store → Res Src) (g : D → DSt → Store → Res DSt) (b : DSt → Store → Res Fl) : mFor mi g b σ S = liftE (mi σ S) σ fun src S1 => forGo src.guard g b src.items σ S1 := (rfl)
@[simp] theorem e_lc (mi : DSt → Store → Res Src) (g : D → DSt → Store → Res DSt) (t : DSt → Store → Res Bool) (e : DSt → Store → Res D) (vs : List Nat) :
    mLc mi g t e vs σ S = (mi σ S).bind fun src S1 => bindG (lcGo src.guard g t e (dwipe σ vs) src.items S1) fun ys S2 => .ok (.lst ys) S2 := (rfl)
@[simp] theorem e_lcM (mi : DSt → Store → Res Src) (g : D → DSt → Store → Res DSt) (t : DSt → Store → Res Bool) (e : DSt → Store → Res D) (vs : List Nat) :
    mLcM mi g t e vs σ S = (mi σ S).bind fun src S1 => bindG (lcGo src.guard g t e (dwipe σ vs) src.items S1) fun ys S2 => .ok (.loc S2.length) (S2 ++ [.lst ys]) := (rfl)
@[simp] theorem e_C : mC d σ S = .ok d S := (rfl)
theorem e_var' (i : Nat) (h : σ[i]? = some (some d)) : mVar i σ S = .ok d S := by unfold mVar; rw [h]
@[simp] theorem e_var0 (o : DSt) : mVar 0 (some d :: o) S = .ok d S := (rfl)
@[simp] theorem e_varS (i : Nat) (z : Option D) (o : DSt) : mVar (i + 1) (z :: o) S = mVar i o S := by simp [mVar]
@[simp] theorem e_m2 (f : D → D → Store → Res D) : m2 a b f σ S = (a σ S).bind fun x S1 => (b σ S1).bind fun y S2 => f x y S2 := (rfl)
@[simp] theorem e_m1 (f : D → Store → Res D) : m1 a f σ S = (a σ S).bind fun x S1 => f x S1 := (rfl)
@[simp] theorem e_nil : mNil σ S = .ok [] S := (rfl)
@[simp] theorem e_cons (ms : DSt → Store → Res (List D)) : mCons a ms σ S = (a σ S).bind fun d S1 => (ms σ S1).bind fun ds S2 => .ok (d :: ds) S2 := (rfl)
@[simp] theorem e_tup (ms : DSt → Store → Res (List D)) : mTup ms σ S = (ms σ S).bind fun ds S1 => if ds.length ≤ sizeLine then .ok (.tup ds) S1 else .stuck := (rfl)
@[simp] theorem e_lst (ms : DSt → Store → Res (List D)) : mLst ms σ S = (ms σ S).bind fun ds S1 => if ds.length ≤ sizeLine then .ok (.lst ds) S1 else .stuck := (rfl)
@[simp] theorem e_lstM (ms : DSt → Store → Res (List D)) : mLstM ms σ S = (ms σ S).bind fun ds S1 => if ds.length ≤ sizeLine then .ok (.loc S1.length) (S1 ++ [.lst ds]) else .stuck := (rfl)
@[simp] theorem e_andT (a b : DSt → Store → Res Bool) : mAndT a b σ S = (a σ S).bind fun x S1 => if x = true then b σ S1 else .ok false S1 := (rfl)
@[simp] theorem e_orT (a b : DSt → Store → Res Bool) : mOrT a b σ S = (a σ S).bind fun x S1 => if x = true then .ok true S1 else b σ S1 := (rfl)
@[simp] theorem e_notT (a : DSt → Store → Res Bool) : mNotT a σ S = (a σ S).bind fun x S1 => .ok (!x) S1 := (rfl)
/-- and, or, not of two values -/
def andK (x : D) (S : Store) (r : Res D) : Res D := match x with
  | .bl true => r
  | .bl false => .ok (.bl false) S
  | _ => .stuck
def orK (x : D) (S : Store) (r : Res D) : Res D := match x with
  | .bl true => .ok (.bl true) S
  | .bl false => r
  | _ => .stuck
@[simp] theorem e_andV : mAndV a b σ S = (a σ S).bind fun x S1 => andK x S1 (b σ S1) := (rfl)
@[simp] theorem e_orV : mOrV a b σ S = (a σ S).bind fun x S1 => orK x S1 (b σ S1) := (rfl)
@[simp] theorem andK_bl (t : Bool) (r : Res D) : andK (.bl t) S r = if t = true then r else .ok (.bl false) S := by cases t <;> rfl
@[simp] theorem orK_bl (t : Bool) (r : Res D) : orK (.bl t) S r = if t = true then .ok (.bl true) S else r := by cases t <;> rfl
def notK (x : D) (S : Store) : Res D := match x with
  | .bl k => .ok (.bl (!k)) S
  | _ => .stuck
@[simp] theorem e_notV : mNotV a σ S = (a σ S).bind fun x S1 => notK x S1 := (rfl)
@[simp] theorem notK_bl (t : Bool) : notK (.bl t) S = .ok (.bl (!t)) S := (rfl)
@[simp] theorem e_if (c : DSt → Store → Res Bool) : mIf c a b σ S = (c σ S).bind fun x S1 => if x = true then a σ S1 else b σ S1 := (rfl)
def negK (x : D) (S : Store) : Res D := match x with
  | .int i => .ok (.int (-i)) S
  | _ => .stuck
@[simp] theorem e_neg : mNeg a σ S = (a σ S).bind fun x S1 => negK x S1 := (rfl)
@[simp] theorem negK_int : negK (.int i) S = .ok (.int (-i)) S := (rfl)
def chK (z : D) (S : Store) (r : Res D) : Res D := match z with
  | .bl true => r
  | .bl false => .ok (.bl false) S
  | _ => .stuck
@[simp] theorem chK_bl (t : Bool) (r : Res D) : chK (.bl t) S r = if t = true then r else .ok (.bl false) S := by cases t <;> rfl
@[simp] theorem e_ch (f g : D → D → Store → Res D) : mCh a b c f g σ S = (a σ S).bind fun x S1 => (b σ S1).bind fun y S2 => (f x y S2).bind fun z S3 => chK z S3 ((c σ S3).bind fun w S4 => g y w S4) := by
  rfl
def truK (x : D) (S : Store) : Res Bool := match x with
  | .bl t => .ok t S
  | _ => .stuck
@[simp] theorem truK_bl (t : Bool) : truK (.bl t) S = .ok t S := (rfl)
@[simp] theorem e_cb (g : List D → Store → Res D) (ms : DSt → Store → Res (List D)) : mCB g ms σ S = (ms σ S).bind fun ds S1 => g ds S1 := (rfl)
@[simp] theorem e_call (n : Nat) (den : List D → Store → Res D) (ms : DSt → Store → Res (List D)) : mCall n den ms σ S = (ms σ S).bind fun ds S1 => if ds.length = n then noX (den ds S1) else .stuck := (rfl)
@[simp] theorem e_bm (T : String) (g : D → List D → Store → Res D) (ms : DSt → Store → Res (List D)) : mBM T g a ms σ S = (a σ S).bind fun d S1 => if tyOk T S1 d = true then (ms σ S1).bind fun ds S2 => g d ds S2 else .stuck := (rfl)
@[simp] theorem e_gname (i : Nat) : gtName i d σ S = .ok (σ.set i (some d)) S := (rfl)
@[simp] theorem e_gnil : gtNil [] σ S = .ok σ S := (rfl)
@[simp] theorem e_gcons (f : D → DSt → Store → Res DSt) (g : List D → DSt → Store → Res DSt) : gtCons f g (d :: ds) σ S = bindG (f d σ S) fun σ1 S1 => g ds σ1 S1 := (rfl)
@[simp] theorem e_gtup (n : Nat) (g : List D → DSt → Store → Res DSt) : gtTup n g (.tup ds) σ S = if ds.length = n then g ds σ S else .stuck := (rfl)
@[simp] theorem e_gktp (n : Nat) (g : List D → DSt → Store → Res DSt) : gtTup n g (.ktp ds) σ S = if ds.length = n then g ds σ S else .stuck := (rfl)
@[simp] theorem e_gsub (f : D → D → D → Store → Res Unit) : gtSub a b f d σ S = bindG (a σ S) fun o S1 => bindG (b σ S1) fun i S2 => bindG (f o i d S2) fun _ S3 => .ok σ S3 := (rfl)
def srcK (o : Option Src) (S : Store) : Res Src := match o with
  | some s => .ok s S
  | none => .stuck
@[simp] theorem e_seqi : mSeqI a σ S = (a σ S).bind fun d S1 => srcK (seqSrc d S1) S1 := (rfl)
@[simp] theorem srcK_some (s : Src) : srcK (some s) S = .ok s S := (rfl)
@[simp] theorem seqSrc_str : seqSrc (.str x) S = if x.length ≤ sizeLine then some ⟨signsOf x, []⟩ else none := (rfl)
@[simp] theorem seqSrc_tup : seqSrc (.tup ds) S = some ⟨ds, []⟩ := (rfl)
@[simp] theorem seqSrc_ktp : seqSrc (.ktp ds) S = some ⟨ds, []⟩ := (rfl)
@[simp] theorem seqSrc_lst : seqSrc (.lst ds) S = some ⟨ds, []⟩ := (rfl)
@[simp] theorem seqSrc_frz : seqSrc (.frz ds) S = some ⟨ds, []⟩ := (rfl)
theorem seqSrc_loc (h : S[l]? = some (.lst ds)) : seqSrc (.loc l) S = some ⟨ds, [(l, .lst ds)]⟩ := by simp [seqSrc, h]
@[simp] theorem lstSrc_lst : lstSrc (.lst ds) S = some ⟨ds, []⟩ := (rfl)
@[simp] theorem lstSrc_frz : lstSrc (.frz ds) S = some ⟨ds, []⟩ := (rfl)
theorem lstSrc_loc (h : S[l]? = some (.lst ds)) : lstSrc (.loc l) S = some ⟨ds, [(l, .lst ds)]⟩ := by simp [lstSrc, h]
def rng1K (ds : List D) (S : Store) : Res Src := match ds with
  | [.int j] => if j ≤ sizeLine ∧ -(2 ^ 62) ≤ j then .ok ⟨rangeD 0 1 j.toNat, []⟩ S else .stuck
  | _ => .stuck
@[simp] theorem e_rng1 (ms : DSt → Store → Res (List D)) : mRng1 ms σ S = (ms σ S).bind fun ds S1 => rng1K ds S1 := (rfl)
theorem rng1K_int (h : j ≤ sizeLine) (h0 : -(2 ^ 62) ≤ j) : rng1K [.int j] S = .ok ⟨rangeD 0 1 j.toNat, []⟩ S := if_pos ⟨h, h0⟩
theorem rng1K_nat (h : n ≤ sizeLine) : rng1K [.int n] S = .ok ⟨rangeD 0 1 n, []⟩ S := by
  have := rng1K_int (S := S) (j := (n : Int)) (by omega) (by omega)
  simpa using this
def rng2K (ds : List D) (S : Store) : Res Src := match ds with
  | [.int i, .int j] => if -(2 ^ 62) ≤ i ∧ i < 2 ^ 62 ∧ -(2 ^ 62) ≤ j ∧ j < 2 ^ 62 ∧ (j - i).toNat ≤ sizeLine then .ok ⟨rangeD i 1 (j - i).toNat, []⟩ S else .stuck
  | _ => .stuck
@[simp] theorem e_rng2 (ms : DSt → Store → Res (List D)) : mRng2 ms σ S = (ms σ S).bind fun ds S1 => rng2K ds S1 := (rfl)
def rng3K (ds : List D) (S : Store) : Res Src := match ds with
  | [.int i, .int j, .int c] => if c = -1 ∧ -(2 ^ 62) ≤ i ∧ i < 2 ^ 62 ∧ -(2 ^ 62) ≤ j ∧ j < 2 ^ 62 ∧ (i - j).toNat ≤ sizeLine then .ok ⟨rangeD i (-1) (i - j).toNat, []⟩ S else .stuck
  | _ => .stuck
@[simp] theorem e_rng3 (ms : DSt → Store → Res (List D)) : mRng3 ms σ S = (ms σ S).bind fun ds S1 => rng3K ds S1 := (rfl)
theorem rng2K_int (h : -(2 ^ 62) ≤ i ∧ i < 2 ^ 62 ∧ -(2 ^ 62) ≤ j ∧ j < 2 ^ 62 ∧ (j - i).toNat ≤ sizeLine) : rng2K [.int i, .int j] S = .ok ⟨rangeD i 1 (j - i).toNat, []⟩ S := if_pos h
theorem rng3K_int (h : -(2 ^ 62) ≤ i ∧ i < 2 ^ 62 ∧ -(2 ^ 62) ≤ j ∧ j < 2 ^ 62 ∧ (i - j).toNat ≤ sizeLine) : rng3K [.int i, .int j, .int (-1)] S = .ok ⟨rangeD i (-1) (i - j).toNat, []⟩ S := if_pos ⟨rfl, h⟩
def enumK (ds : List D) (S : Store) : Res Src := match ds with
  | [d] => match lstSrc d S with
    | some src => .ok ⟨enumD 0 src.items, src.guard⟩ S
    | none => .stuck
  | _ => .stuck
@[simp] theorem e_enum (ms : DSt → Store → Res (List D)) : mEnum ms σ S = (ms σ S).bind fun ds S1 => enumK ds S1 := (rfl)
@[simp] theorem enumK_lst : enumK [.lst ds] S = .ok ⟨enumD 0 ds, []⟩ S := (rfl)
@[simp] theorem enumK_frz : enumK [.frz ds] S = .ok ⟨enumD 0 ds, []⟩ S := (rfl)
def partK (d : D) (S : Store) : Res (Option Int) := match d with
  | .int i => .ok (some i) S
  | _ => .stuck
@[simp] theorem e_part : mPart a σ S = (a σ S).bind fun d S1 => partK d S1 := (rfl)
@[simp] theorem partK_int : partK (.int i) S = .ok (some i) S := (rfl)
@[simp] theorem e_nopart : mNoPart σ S = .ok none S := (rfl)
@[simp] theorem e_sl (ml mh : DSt → Store → Res (Option Int)) : mSl a ml mh σ S = (a σ S).bind fun d S1 => (ml σ S1).bind fun lo S2 => (mh σ S2).bind fun hi S3 => sliceD d lo hi S3 := (rfl)
@[simp] theorem e_sl_str (lo hi : Option Int) : sliceD (.str x) lo hi S = if x.length ≤ sizeLine then .ok (.str (cutS x lo hi)) S else .stuck := (rfl)
@[simp] theorem e_sl_tup (lo hi : Option Int) : sliceD (.tup ds) lo hi S = .ok (.tup (L3.cut ds lo hi)) S := (rfl)
@[simp] theorem e_sl_lst (lo hi : Option Int) : sliceD (.lst ds) lo hi S = .ok (.lst (L3.cut ds lo hi)) S := (rfl)
@[simp] theorem e_sl_frz (lo hi : Option Int) : sliceD (.frz ds) lo hi S = .ok (.lst (L3.cut ds lo hi)) S := (rfl)
@[simp] theorem e_add : addD (.int i) (.int j) S = .ok (.int (i + j)) S := (rfl)
@[simp] theorem e_addS : addD (.str x) (.str y) S = if x.length + y.length ≤ sizeLine then .ok (.str (x ++ y)) S else .stuck := (rfl)
@[simp] theorem e_addT : addD (.tup ds) (.tup es) S = if ds.length + es.length ≤ sizeLine then .ok (.tup (ds ++ es)) S else .stuck := (rfl)
@[simp] theorem e_addL : addD (.lst ds) (.lst es) S = if ds.length + es.length ≤ sizeLine then .ok (.lst (ds ++ es)) S else .stuck := (rfl)
@[simp] theorem e_sub : subD (.int i) (.int j) S = .ok (.int (i - j)) S := (rfl)
@[simp] theorem e_mul : mulX (.int i) (.int j) S = if CMul i j ∨ CMulW i j then .ok (.int (i * j)) S else .stuck := (rfl)
@[simp] theorem e_mulS : mulX (.str x) (.int i) S = if -(2 ^ 63) ≤ i ∧ i < 2 ^ 63 ∧ x.length * i.toNat ≤ 16777216 then .ok (.str (repS x i.toNat)) S else .stuck := (rfl)
@[simp] theorem e_fdiv : fdivD (.int i) (.int j) S = if CDivW i j then .ok (.int (i / j)) S else .stuck := (rfl)
@[simp] theorem e_mod : modD (.int i) (.int j) S = if 0 < j then .ok (.int (i % j)) S else .stuck := (rfl)
@[simp] theorem e_pow : powD (.int i) (.int j) S = if CPowX i j then .ok (.int (i ^ j.toNat)) S else .stuck := (rfl)
@[simp] theorem e_lt : ltD (.int i) (.int j) S = .ok (.bl (decide (i < j))) S := (rfl)
@[simp] theorem e_cmp (p : Int → Int → Bool) : cmpI p (.int i) (.int j) S = .ok (.bl (p i j)) S := (rfl)
@[simp] theorem e_eqI (n : Bool) : eqD n (.int i) (.int j) S = .ok (.bl (xor n (decide (i = j)))) S := by
  have : eqD n (.int i) (.int j) S = .ok (.bl (xor n (i == j))) S := by
    simp only [eqD, pyS, toPy]
    rw [if_pos ⟨rfl, rfl⟩]
    rfl
  rw [this]
  have : (i == j) = decide (i = j) := by rw [Bool.eq_iff_iff]; simp
  rw [this]
@[simp] theorem e_isN : isND false .non .non S = .ok (.bl true) S := (rfl)
def chr (c : Nat) : D := .str ⟨#[c]⟩
def ixS (o : Option Nat) (S : Store) : Res D := match o with
  | some c => .ok (.str ⟨#[c]⟩) S
  | none => .stuck
@[simp] theorem ixS_some (c : Nat) : ixS (some c) S = .ok (chr c) S := (rfl)
@[simp] theorem e_ix_str : ixD (.str x) (.int i) S = if x.length ≤ sizeLine then ixS (atI x.cps.toList i) S else .stuck := (rfl)
def atK (o : Option D) (S : Store) : Res D := match o with
  | some e => .ok e S
  | none => .stuck
@[simp] theorem atK_some : atK (some d) S = .ok d S := (rfl)
@[simp] theorem e_ix_tup : ixD (.tup ds) (.int i) S = atK (atI ds i) S := (rfl)
@[simp] theorem e_ix_ktp : ixD (.ktp ds) (.int i) S = atK (atI ds i) S := (rfl)
@[simp] theorem e_ix_lst : ixD (.lst ds) (.int i) S = atK (atI ds i) S := (rfl)
@[simp] theorem e_ix_frz : ixD (.frz ds) (.int i) S = atK (atI ds i) S := (rfl)
theorem e_ix_loc (h : S[l]? = some (.lst ds)) : ixD (.loc l) (.int i) S = atK (atI ds i) S := by
  simp only [ixD, seqOf, rdL, exL, h]
  rfl
theorem atI_nn {α : Type} {xs : List α} (h : 0 ≤ i) : atI xs i = xs[i.toNat]? := by
  unfold atI ixN
  rw [if_pos h]
  split
  · rfl
  · rename_i h2
    rw [List.getElem?_eq_none (by omega)]
    rfl
@[simp] theorem atI_nat {α : Type} {xs : List α} : atI xs (n : Int) = xs[n]? := by rw [atI_nn (by omega)]; simp
@[simp] theorem atI_0 {α : Type} {xs : List α} : atI xs 0 = xs[0]? := atI_nn (by omega)
@[simp] theorem atI_1 {α : Type} {xs : List α} : atI xs 1 = xs[1]? := atI_nn (by omega)
@[simp] theorem atI_2 {α : Type} {xs : List α} : atI xs 2 = xs[2]? := atI_nn (by omega)
@[simp] theorem atI_3 {α : Type} {xs : List α} : atI xs 3 = xs[3]? := atI_nn (by omega)
@[simp] theorem atI_last {α : Type} {xs : List α} : atI xs (-1) = xs[xs.length - 1]? := by
  unfold atI ixN
  rw [if_neg (by omega)]
  by_cases h : xs = []
  · subst h; rfl
  · have : 0 < xs.length := List.length_pos_iff.mpr h
    rw [if_pos (by omega)]
    show xs[(-1 + (xs.length : Int)).toNat]? = _
    congr 1
    omega
theorem set_loc {v : D} (h : S[l]? = some (.lst ds)) {k : Nat} (hk : ixN ds.length i = some k) : setD (.loc l) (.int i) v S = .ok () (S.set l (.lst (ds.set k v))) := by simp [setD, h, hk]
theorem ixN_nn {n : Nat} (h : 0 ≤ i) (h2 : i < n) : ixN n i = some i.toNat := by unfold ixN; rw [if_pos h, if_pos h2]
theorem ixN_nat (h : k < n) : ixN n (k : Int) = some k := by rw [ixN_nn (by omega) (by omega)]; simp
@[simp] theorem e_len_str : lenD [.str x] S = if x.length ≤ sizeLine then .ok (.int x.length) S else .stuck := (rfl)
@[simp] theorem e_len_tup : lenD [.tup ds] S = .ok (.int ds.length) S := (rfl)
@[simp] theorem e_len_ktp : lenD [.ktp ds] S = .ok (.int ds.length) S := (rfl)
@[simp] theorem e_len_lst : lenD [.lst ds] S = .ok (.int ds.length) S := (rfl)
@[simp] theorem e_len_frz : lenD [.frz ds] S = .ok (.int ds.length) S := (rfl)
theorem e_len_loc (h : S[l]? = some (.lst ds)) : lenD [.loc l] S = .ok (.int ds.length) S := by simp [lenD, seqOf, rdL, exL, h]
@[simp] theorem e_abs : absD [.int i] S = .ok (.int (if i < 0 then -i else i)) S := (rfl)
@[simp] theorem e_max2 : max2D [.int i, .int j] S = .ok (.int (if j > i then j else i)) S := (rfl)
@[simp] theorem e_min2 : min2D [.int i, .int j] S = .ok (.int (if j < i then j else i)) S := (rfl)
@[simp] theorem e_int : intD [.int i] S = .ok (.int i) S := (rfl)
@[simp] theorem e_intB (t : Bool) : intD [.bl t] S = .ok (.int (if t = true then 1 else 0)) S := (rfl)
theorem e_list_str (mu : Bool) (h : x.length ≤ sizeLine) : listD mu [.str x] S = if mu = true then .ok (.loc S.length) (S ++ [.lst (signsOf x)]) else .ok (.lst (signsOf x)) S := by
  simp only [listD, itemsOf, if_pos h]
@[simp] theorem e_tuple_lst : tupleD [.lst ds] S = .ok (.tup ds) S := (rfl)
@[simp] theorem e_tuple_tup : tupleD [.tup ds] S = .ok (.tup ds) S := (rfl)
@[simp] theorem e_tuple_frz : tupleD [.frz ds] S = .ok (.tup ds) S := (rfl)
theorem e_tuple_loc (h : S[l]? = some (.lst ds)) : tupleD [.loc l] S = .ok (.tup ds) S := by simp [tupleD, rdL, exL, h]
theorem e_append (h : S[l]? = some (.lst ds)) (hs : ds.length < sizeLine) : appendD (.loc l) [d] S = .ok .non (S.set l (.lst (ds ++ [d]))) := by simp [appendD, mutL, h, hs]
theorem e_pop (h : S[l]? = some (.lst ds)) (hk : k < ds.length) (hb : k < 2 ^ 62) (hd : ds[k]? = some d) : popD (.loc l) [.int k] S = .ok d (S.set l (.lst (ds.eraseIdx k))) := by
  have h1 : seqIndex? (k : Int) ds.length = some k := by unfold seqIndex?; simp only [if_neg (show ¬ (k : Int) < 0 by omega)]; simp [hk]
  have h2 : -(2 ^ 63 : Int) ≤ (k : Int) ∧ (k : Int) < 2 ^ 63 := by omega
  simp only [popD, mutL, h, h1, hd, if_pos h2]
@[simp] theorem tyOk_str : tyOk "str" S (.str x) = true := (rfl)
@[simp] theorem tyOk_lst : tyOk "list" S (.lst ds) = true := (rfl)
@[simp] theorem tyOk_frz : tyOk "list" S (.frz ds) = true := (rfl)
theorem tyOk_loc (h : S[l]? = some (.lst ds)) : tyOk "list" S (.loc l) = true := by simp [tyOk, h]
@[simp] theorem e_rev_str : revD (.str x) S = if x.length ≤ sizeLine then .ok (.str (revS x)) S else .stuck := (rfl)
@[simp] theorem e_rev_lst : revD (.lst ds) S = .ok (.lst ds.reverse) S := (rfl)
@[simp] theorem e_rev_frz : revD (.frz ds) S = .ok (.lst ds.reverse) S := (rfl)
end
/-! ### the same at mutable lists: by what stands in the store -/
section
variable {S : Store} {l : Nat} {i : Int} {ds : List D} {d v : D}
def ixO (l : Nat) (i : Int) (S : Store) : Option Ob → Res D
  | some (.lst ds) => atK (atI ds i) S
  | _ => ixD (.loc l) (.int i) S
@[simp] theorem ixO_lst : ixO l i S (some (.lst ds)) = atK (atI ds i) S := (rfl)
@[simp] theorem e_ixO : ixD (.loc l) (.int i) S = ixO l i S S[l]? := by
  unfold ixO
  split
  · rename_i ds h; exact e_ix_loc h
  · rfl
def lenO (l : Nat) (S : Store) : Option Ob → Res D
  | some (.lst ds) => .ok (.int ds.length) S
  | _ => lenD [.loc l] S
@[simp] theorem lenO_lst : lenO l S (some (.lst ds)) = .ok (.int ds.length) S := (rfl)
@[simp] theorem e_lenO : lenD [.loc l] S = lenO l S S[l]? := by
  unfold lenO
  split
  · rename_i ds h; exact e_len_loc h
  · rfl
def srcO (l : Nat) (S : Store) : Option Ob → Option Src
  | some (.lst ds) => some ⟨ds, [(l, .lst ds)]⟩
  | _ => seqSrc (.loc l) S
@[simp] theorem srcO_lst : srcO l S (some (.lst ds)) = some ⟨ds, [(l, .lst ds)]⟩ := (rfl)
@[simp] theorem e_srcO : seqSrc (.loc l) S = srcO l S S[l]? := by
  unfold srcO
  split
  · rename_i ds h; exact seqSrc_loc h
  · rfl
def setO (l : Nat) (i : Int) (v : D) (S : Store) : Option Ob → Res Unit
  | some (.lst ds) => match ixN ds.length i with
    | some k => .ok () (S.set l (.lst (ds.set k v)))
    | none => .stuck
  | _ => setD (.loc l) (.int i) v S
def setN (l : Nat) (ds : List D) (v : D) (S : Store) : Option Nat → Res Unit
  | some k => .ok () (S.set l (.lst (ds.set k v)))
  | none => .stuck
@[simp] theorem setO_lst : setO l i v S (some (.lst ds)) = setN l ds v S (ixN ds.length i) := by
  unfold setO setN; rfl
@[simp] theorem setN_some {k : Nat} : setN l ds v S (some k) = .ok () (S.set l (.lst (ds.set k v))) := (rfl)
@[simp] theorem e_setO : setD (.loc l) (.int i) v S = setO l i v S S[l]? := by
  unfold setO
  split
  · rename_i ds h; simp only [setD, h] <;> rfl
  · rfl
def appO (l : Nat) (d : D) (S : Store) : Option Ob → Res D
  | some (.lst ds) => if ds.length < sizeLine then .ok .non (S.set l (.lst (ds ++ [d]))) else .stuck
  | _ => appendD (.loc l) [d] S
@[simp] theorem appO_lst : appO l d S (some (.lst ds)) = if ds.length < sizeLine then .ok .non (S.set l (.lst (ds ++ [d]))) else .stuck := (rfl)
@[simp] theorem e_appO : appendD (.loc l) [d] S = appO l d S S[l]? := by
  unfold appO
  split
  · rename_i ds h; simp [appendD, mutL, h]
  · rfl
def popO (l : Nat) (i : Int) (S : Store) : Option Ob → Res D
  | some (.lst ds) => if -(2 ^ 63) ≤ i ∧ i < 2 ^ 63 then (match seqIndex? i ds.length with
    | some k => match ds[k]? with
      | some e => .ok e (S.set l (.lst (ds.eraseIdx k)))
      | none => .stuck
    | none => .stuck) else .stuck
  | _ => popD (.loc l) [.int i] S
theorem popO_nat {k : Nat} (hd : ds[k]? = some d) (hb : k < 2 ^ 62) : popO l k S (some (.lst ds)) = .ok d (S.set l (.lst (ds.eraseIdx k))) := by
  have hk : k < ds.length := (List.getElem?_eq_some_iff.mp hd).1
  have h1 : seqIndex? (k : Int) ds.length = some k := by unfold seqIndex?; simp only [if_neg (show ¬ (k : Int) < 0 by omega)]; simp [hk]
  simp only [popO, h1, hd]
  rw [if_pos (by omega)]
@[simp] theorem popO_0 : popO l 0 S (some (.lst (d :: ds))) = .ok d (S.set l (.lst ds)) := popO_nat (k := 0) rfl (by omega)
@[simp] theorem e_popO : popD (.loc l) [.int i] S = popO l i S S[l]? := by
  unfold popO
  split
  · rename_i ds h; simp only [popD, mutL, h] <;> rfl
  · rfl
def tyO (T : String) (l : Nat) (S : Store) : Option Ob → Bool
  | some (.lst _) => T == "list"
  | _ => tyOk T S (.loc l)
@[simp] theorem tyO_lst {T : String} : tyO T l S (some (.lst ds)) = (T == "list") := (rfl)
@[simp] theorem e_tyO {T : String} : tyOk T S (.loc l) = tyO T l S S[l]? := by
  unfold tyO
  split
  · rename_i ds h; simp [tyOk, h]
  · rfl
def tupO (l : Nat) (S : Store) : Option Ob → Res D
  | some (.lst ds) => .ok (.tup ds) S
  | _ => tupleD [.loc l] S
@[simp] theorem tupO_lst : tupO l S (some (.lst ds)) = .ok (.tup ds) S := (rfl)
@[simp] theorem e_tupO : tupleD [.loc l] S = tupO l S S[l]? := by
  unfold tupO
  split
  · rename_i ds h; exact e_tuple_loc h
  · rfl
def pyO (l : Nat) (S : Store) : Option Ob → Option PyData
  | some (.lst ds) => (toPys ds).map .list
  | _ => pyS S (.loc l)
@[simp] theorem pyO_lst : pyO l S (some (.lst ds)) = (toPys ds).map .list := (rfl)
@[simp] theorem e_pyO : pyS S (.loc l) = pyO l S S[l]? := by
  unfold pyO
  split
  · rename_i ds h; simp [pyS, h]
  · rfl
@[simp] theorem pyS_lst : pyS S (.lst ds) = (toPys ds).map .list := (rfl)
@[simp] theorem pyS_frz : pyS S (.frz ds) = (toPys ds).map .list := (rfl)
@[simp] theorem pyS_tup : pyS S (.tup ds) = (toPys ds).map .tuple := (rfl)
@[simp] theorem pyS_int : pyS S (.int i) = some (.int i) := (rfl)
@[simp] theorem pyS_str {x : Str} : pyS S (.str x) = some (.str x) := (rfl)
@[simp] theorem pyS_non : pyS S .non = some .none := (rfl)
@[simp] theorem pyS_bl {b : Bool} : pyS S (.bl b) = some (.bool b) := (rfl)
/-- comparing two whose data are known -/
def eqO (n : Bool) (S : Store) : Option PyData → Option PyData → Res D
  | some p, some q => if SeqAt.shaped p = true ∧ SeqAt.shaped q = true then .ok (.bl (xor n (PyData.eqv p q))) S else .stuck
  | _, _ => .stuck
theorem e_eqO {n : Bool} {d e : D} : eqD n d e S = eqO n S (pyS S d) (pyS S e) := by
  unfold eqD eqO
  split <;> simp_all
@[simp] theorem eqO_some {n : Bool} {p q : PyData} (hp : SeqAt.shaped p = true) (hq : SeqAt.shaped q = true) : eqO n S (some p) (some q) = .ok (.bl (xor n (PyData.eqv p q))) S := if_pos ⟨hp, hq⟩
theorem toPys_ints : ∀ g : List Int, toPys (g.map D.int) = some (g.map PyData.int)
  | [] => rfl
  | a :: g => by simp [toPys, toPy, toPys_ints g]
theorem lay_ints : ∀ g : List Int, PyData.canLayAll0 (g.map PyData.int) = true
  | [] => rfl
  | a :: g => by simp [PyData.canLayAll0, PyData.canLay0, lay_ints g]
theorem depth_ints : ∀ g : List Int, PyData.depthAll (g.map PyData.int) = 0
  | [] => rfl
  | a :: g => by simp [PyData.depthAll, PyData.depth, depth_ints g]
theorem shaped_ints (g : List Int) : SeqAt.shaped (.list (g.map PyData.int)) = true := by
  simp [SeqAt.shaped, PyData.canLay0, lay_ints, PyData.depth, depth_ints]
theorem eqNil {n : Bool} (g : List Int) (h : S[l]? = some (.lst (g.map D.int))) : eqD n (.loc l) (.lst []) S = .ok (.bl (xor n g.isEmpty)) S := by
  rw [e_eqO, e_pyO, h, pyO_lst, toPys_ints]
  simp only [pyS_lst, toPys, Option.map_some]
  rw [eqO_some (shaped_ints g) rfl]
  cases g <;> rfl
end
/-! ### what a def gives back; the bounds of arithmetic -/
def retK (r : Res Fl) : Res D := match r with
  | .ok (.rt d) S' => .ok d S'
  | .ok (.nx _) S' => .ok .non S'
  | .ok (.ex c fs _) S' => .exc c fs S'
  | _ => .stuck
theorem den_eq (n : Nat) (m : DSt → Store → Res Fl) (ds : List D) (S : Store) : denOf n m ds S = retK (m (ds.map some ++ List.replicate (n - ds.length) none) S) := (rfl)
@[simp] theorem retK_rt (d : D) (S : Store) : retK (.ok (.rt d) S) = .ok d S := (rfl)
@[simp] theorem retK_nx (σ : DSt) (S : Store) : retK (.ok (.nx σ) S) = .ok .non S := (rfl)
@[simp] theorem retK_ex (c : Str) (fs : List (Str × D)) (σ : DSt) (S : Store) : retK (.ok (.ex c fs σ) S) = .exc c fs S := (rfl)
@[simp] theorem divOk {i j : Int} (h : 0 < j) (h2 : j < 18446744073709551616) : CDivW i j := by
  refine ⟨h, ?_⟩
  have : j.natAbs ≠ 0 := by omega
  have h3 : j.natAbs.log2 < 64 := (Nat.log2_lt this).mpr (by omega)
  omega
@[simp] theorem mulOkR {i j : Int} (h : -(2 ^ 64) < j) (h2 : j < 2 ^ 64) : (CMul i j ∨ CMulW i j) = True := eq_true (.inl (.inr ⟨h, h2⟩))
@[simp] theorem mulOkL {i j : Int} (h : -(2 ^ 64) < i) (h2 : i < 2 ^ 64) : (CMul i j ∨ CMulW i j) = True := eq_true (.inl (.inl ⟨h, h2⟩))
@[simp] theorem pow1018 : CPowX 10 18 = True := eq_true (by decide)
@[simp] theorem size_eq : sizeLine = 16777216 := by decide
theorem e_mT (m : DSt → Store → Res D) (σ : DSt) (S : Store) : mT m σ S = (m σ S).bind fun d S1 => truK d S1 := by
  unfold mT
  congr 1
@[simp] theorem e_mT' (m : DSt → Store → Res D) (σ : DSt) (S : Store) : mT m σ S = (m σ S).bind fun d S1 => truK d S1 := e_mT m σ S
/-! ### Ok: it comes to an end well -/
def Ok {α : Type} (r : Res α) (P : α → Store → Prop) : Prop := ∃ a S, r = .ok a S ∧ P a S
@[simp] theorem Ok_ok {α : Type} {a : α} {S : Store} {P : α → Store → Prop} : Ok (.ok a S) P ↔ P a S := ⟨fun ⟨_, _, e, h⟩ => by cases e; exact h, fun h => ⟨_, _, rfl, h⟩⟩
theorem Ok.imp {α : Type} {r : Res α} {P Q : α → Store → Prop} (h : Ok r P) (k : ∀ a S, P a S → Q a S) : Ok r Q := let ⟨a, S, e, p⟩ := h; ⟨a, S, e, k a S p⟩
theorem Ok.bind {α β : Type} {r : Res α} {f : α → Store → Res β} {P : α → Store → Prop} {Q : β → Store → Prop} (h : Ok r P) (k : ∀ a S, P a S → Ok (f a S) Q) : Ok (r.bind f) Q := by
  obtain ⟨a, S, rfl, p⟩ := h; exact k a S p
theorem Ok.bindG {α β : Type} {r : Res α} {f : α → Store → Res β} {P : α → Store → Prop} {Q : β → Store → Prop} (h : Ok r P) (k : ∀ a S, P a S → Ok (f a S) Q) : Ok (L3.bindG r f) Q := by
  obtain ⟨a, S, rfl, p⟩ := h; exact k a S p
theorem Ok.liftE {α : Type} {r : Res α} {σ : DSt} {f : α → Store → Res Fl} {P : α → Store → Prop} {Q : Fl → Store → Prop} (h : Ok r P) (k : ∀ a S, P a S → Ok (f a S) Q) : Ok (L3.liftE r σ f) Q := by
  obtain ⟨a, S, rfl, p⟩ := h; exact k a S p
theorem Ok.noX {r : Res D} {P : D → Store → Prop} (h : Ok r P) : Ok (L3.noX r) P := by
  obtain ⟨a, S, rfl, p⟩ := h; exact ⟨a, S, rfl, p⟩
/-! ### loops -/
/-- what a turn of a loop leads to -/
def Turn (N : DSt → Store → Prop) (B : DSt → Store → Prop) (R : D → Store → Prop) : Fl → Store → Prop
  | .nx σ, S => N σ S
  | .ct σ, S => N σ S
  | .bk σ, S => B σ S
  | .rt d, S => R d S
  | _, _ => False
/-- what a loop leads to -/
def Done (N : DSt → Store → Prop) (R : D → Store → Prop) : Fl → Store → Prop
  | .nx σ, S => N σ S
  | .rt d, S => R d S
  | _, _ => False
@[simp] theorem Turn_nx {N B : DSt → Store → Prop} {R : D → Store → Prop} {σ : DSt} {S : Store} : Turn N B R (.nx σ) S ↔ N σ S := (Iff.rfl)
@[simp] theorem Turn_ct {N B : DSt → Store → Prop} {R : D → Store → Prop} {σ : DSt} {S : Store} : Turn N B R (.ct σ) S ↔ N σ S := (Iff.rfl)
@[simp] theorem Turn_bk {N B : DSt → Store → Prop} {R : D → Store → Prop} {σ : DSt} {S : Store} : Turn N B R (.bk σ) S ↔ B σ S := (Iff.rfl)
@[simp] theorem Turn_rt {N B : DSt → Store → Prop} {R : D → Store → Prop} {d : D} {S : Store} : Turn N B R (.rt d) S ↔ R d S := (Iff.rfl)
@[simp] theorem Done_nx {N : DSt → Store → Prop} {R : D → Store → Prop} {σ : DSt} {S : Store} : Done N R (.nx σ) S ↔ N σ S := (Iff.rfl)
@[simp] theorem Done_rt {N : DSt → Store → Prop} {R : D → Store → Prop} {d : D} {S : Store} : Done N R (.rt d) S ↔ R d S := (Iff.rfl)
theorem forGo_ok {gd : List (Nat × Ob)} {g : D → DSt → Store → Res DSt} {b : DSt → Store → Res Fl} (I : Nat → DSt → Store → Prop) (N : DSt → Store → Prop) (R : D → Store → Prop) : ∀ (ds : List D) (k : Nat) {σ : DSt} {S : Store}, I k σ S →
    (∀ j σ S, I j σ S → gOk gd S) →
    (∀ j d σ S, ds[j]? = some d → I (k + j) σ S → Ok (bindG (g d σ S) b) (Turn (I (k + j + 1)) N R)) →
    (∀ σ S, I (k + ds.length) σ S → N σ S) → Ok (forGo gd g b ds σ S) (Done N R)
  | [], k, σ, S, h, hg, _, he => by
    simp only [forGo, if_pos (hg _ _ _ h), Ok_ok]
    exact he _ _ h
  | d :: ds, k, σ, S, h, hg, hs, he => by
    simp only [forGo, if_pos (hg _ _ _ h)]
    have h1 := hs 0 d σ S rfl h
    cases hgd : g d σ S with
    | ok σ1 S1 =>
      rw [hgd] at h1
      simp only [bindG_ok] at h1 ⊢
      obtain ⟨fl, S2, e, t⟩ := h1
      rw [e]
      have hrec : ∀ σ2 : DSt, I (k + 1) σ2 S2 → Ok (forGo gd g b ds σ2 S2) (Done N R) := fun σ2 t => forGo_ok I N R ds (k + 1) t hg
        (fun j d σ S hd hi => by
          have := hs (j + 1) d σ S (by simpa using hd) (by rw [show k + (j + 1) = k + 1 + j by omega]; exact hi)
          rwa [show k + (j + 1) + 1 = k + 1 + j + 1 by omega] at this)
        (fun σ S hi => he σ S (by rw [List.length_cons, show k + (ds.length + 1) = k + 1 + ds.length by omega]; exact hi))
      cases fl with
      | nx σ2 => exact hrec σ2 t
      | ct σ2 => exact hrec σ2 t
      | bk σ2 => exact ⟨_, _, rfl, t⟩
      | rt d => exact ⟨_, _, rfl, t⟩
      | ex c fs σ2 => exact t.elim
    | exc c fs S1 => rw [hgd] at h1; obtain ⟨_, _, e, _⟩ := h1; cases e
    | stuck => rw [hgd] at h1; obtain ⟨_, _, e, _⟩ := h1; cases e
theorem lcGo_ok {gd : List (Nat × Ob)} {g : D → DSt → Store → Res DSt} {t : DSt → Store → Res Bool} {e : DSt → Store → Res D} {σ : DSt} (I : Nat → Store → List D → Prop) : ∀ (ds : List D) (k : Nat) {S : Store} (acc : List D), I k S acc →
    (∀ j S acc, I j S acc → gOk gd S) →
    (∀ j d S acc, ds[j]? = some d → I (k + j) S acc → Ok (bindG (g d σ S) fun σ1 S1 => bindG (t σ1 S1) fun c S2 => if c = true then bindG (e σ1 S2) fun y S3 => .ok (some y) S3 else .ok none S2)
      fun y S3 => I (k + j + 1) S3 (acc ++ y.toList)) →
    Ok (lcGo gd g t e σ ds S) fun ys S' => I (k + ds.length) S' (acc ++ ys)
  | [], k, S, acc, h, hg, _ => by
    simp only [lcGo, if_pos (hg _ _ _ h), Ok_ok, List.append_nil]
    exact h
  | d :: ds, k, S, acc, h, hg, hs => by
    simp only [lcGo, if_pos (hg _ _ _ h)]
    have h1 := hs 0 d S acc rfl h
    have hrec : ∀ (y : List D) (S2 : Store), I (k + 1) S2 (acc ++ y) → Ok (lcGo gd g t e σ ds S2) fun ys S' => I (k + (ds.length + 1)) S' (acc ++ y ++ ys) := fun y S2 hi => by
      have := lcGo_ok I ds (k + 1) (acc ++ y) hi hg (fun j d S acc hd hi => by
        have := hs (j + 1) d S acc (by simpa using hd) (by rw [show k + (j + 1) = k + 1 + j by omega]; exact hi)
        rwa [show k + (j + 1) + 1 = k + 1 + j + 1 by omega] at this)
      rwa [show k + 1 + ds.length = k + (ds.length + 1) by omega] at this
    cases hgd : g d σ S with
    | ok σ1 S1 =>
      rw [hgd] at h1
      simp only [bindG_ok] at h1 ⊢
      cases ht : t σ1 S1 with
      | ok c S2 =>
        rw [ht] at h1
        simp only [bindG_ok] at h1 ⊢
        by_cases hc : c = true
        · rw [if_pos hc] at h1 ⊢
          cases he : e σ1 S2 with
          | ok y S3 =>
            rw [he] at h1
            simp only [bindG_ok, Ok_ok, Option.toList_some] at h1 ⊢
            exact Ok.bindG (hrec [y] S3 h1) fun ys S4 h4 => ⟨_, _, rfl, by simpa using h4⟩
          | exc c fs S1 => rw [he] at h1; obtain ⟨_, _, e, _⟩ := h1; cases e
          | stuck => rw [he] at h1; obtain ⟨_, _, e, _⟩ := h1; cases e
        · rw [if_neg hc] at h1 ⊢
          simp only [Ok_ok, Option.toList_none] at h1
          have := hrec [] S2 h1
          rw [List.append_nil] at this
          exact this
      | exc c fs S1 => rw [ht] at h1; obtain ⟨_, _, e, _⟩ := h1; cases e
      | stuck => rw [ht] at h1; obtain ⟨_, _, e, _⟩ := h1; cases e
    | exc c fs S1 => rw [hgd] at h1; obtain ⟨_, _, e, _⟩ := h1; cases e
    | stuck => rw [hgd] at h1; obtain ⟨_, _, e, _⟩ := h1; cases e
/-- one turn of while -/
theorem mWhile_false {c : DSt → Store → Res Bool} {b : DSt → Store → Res Fl} {σ : DSt} {S S1 : Store} (h : c σ S = .ok false S1) : mWhile c b σ S = .ok (.nx σ) S1 := mWhile_of (n := 1) (by simp only [whileN, h])
theorem mWhile_true {c : DSt → Store → Res Bool} {b : DSt → Store → Res Fl} {σ σ2 : DSt} {S S1 S2 : Store} (h : c σ S = .ok true S1) (hb : b σ S1 = .ok (.nx σ2) S2) : mWhile c b σ S = mWhile c b σ2 S2 := by
  by_cases hx : ∃ n r, whileN c b n σ2 S2 = some r
  · obtain ⟨n, r, hn⟩ := hx
    rw [mWhile_of hn]
    exact mWhile_of (n := n + 1) (by simp only [whileN, h, hb]; exact hn)
  · have hy : ¬ ∃ n r, whileN c b n σ S = some r := by
      rintro ⟨n, r, hn⟩
      cases n with
      | zero => simp [whileN] at hn
      | succ n =>
        simp only [whileN, h, hb] at hn
        exact hx ⟨n, r, hn⟩
    unfold mWhile
    rw [dif_neg hx, dif_neg hy]
/-- while with a measure -/
theorem mWhile_ok {c : DSt → Store → Res Bool} {b : DSt → Store → Res Fl} (I : Nat → DSt → Store → Prop) (N : DSt → Store → Prop) (hs : ∀ n σ S, I n σ S → (∃ S1, c σ S = .ok false S1 ∧ N σ S1) ∨ ∃ S1 σ2 S2 m, c σ S = .ok true S1 ∧ b σ S1 = .ok (.nx σ2) S2 ∧ m < n ∧ I m σ2 S2) :
    ∀ n {σ : DSt} {S : Store}, I n σ S → ∃ σ' S', mWhile c b σ S = .ok (.nx σ') S' ∧ N σ' S' := by
  intro n
  induction n using Nat.strongRecOn with
  | ind n ih =>
    intro σ S h
    rcases hs n σ S h with ⟨S1, e, h1⟩ | ⟨S1, σ2, S2, m, e, eb, hm, h2⟩
    · exact ⟨_, _, mWhile_false e, h1⟩
    · rw [mWhile_true e eb]
      exact ih m hm h2
/-- after a loop: where it ended well, what comes next -/
theorem Ok.then {r : Res Fl} {f : DSt → Store → Res Fl} {N N2 : DSt → Store → Prop} {R : D → Store → Prop} (h : Ok r (Done N R)) (k : ∀ σ S, N σ S → Ok (f σ S) (Done N2 R)) : Ok (thenS r f) (Done N2 R) := by
  obtain ⟨fl, S, rfl, h⟩ := h
  cases fl with
  | rt d => exact ⟨_, S, rfl, h⟩
  | nx σ => exact k σ S h
  | _ => exact h.elim
/-- a loop over things that stay (no break) and what comes next -/
theorem Ok.loop {g : D → DSt → Store → Res DSt} {b : DSt → Store → Res Fl} {ds : List D} {σ : DSt} {S : Store} {f : DSt → Store → Res Fl} {N2 : DSt → Store → Prop} {R : D → Store → Prop} (I : Nat → DSt → Store → Prop) (h0 : I 0 σ S)
    (hs : ∀ j d σ S, ds[j]? = some d → I j σ S → Ok (L3.bindG (g d σ S) b) (Turn (I (j + 1)) (fun _ _ => False) R)) (k : ∀ σ S, I ds.length σ S → Ok (f σ S) (Done N2 R)) : Ok (thenS (forGo [] g b ds σ S) f) (Done N2 R) := by
  refine Ok.then (N := I ds.length) (R := R) (forGo_ok (gd := []) (fun j σ S => I j σ S) (fun σ S => I ds.length σ S) R ds 0 h0 (fun _ _ _ _ => fun _ h => (List.not_mem_nil h).elim) (fun j d σ S hd hi => ?_) (fun σ S hi => by rwa [Nat.zero_add] at hi)) k
  rw [Nat.zero_add] at hi ⊢
  refine (hs j d σ S hd hi).imp fun fl S' t => ?_
  cases fl with
  | bk σ => exact t.elim
  | _ => exact t
/-- a loop over things that stay, with break, and what comes next -/
theorem Ok.loopB {g : D → DSt → Store → Res DSt} {b : DSt → Store → Res Fl} {ds : List D} {σ : DSt} {S : Store} {f : DSt → Store → Res Fl} {N2 : DSt → Store → Prop} {R : D → Store → Prop} (I : Nat → DSt → Store → Prop) (N : DSt → Store → Prop) (h0 : I 0 σ S)
    (hs : ∀ j d σ S, ds[j]? = some d → I j σ S → Ok (L3.bindG (g d σ S) b) (Turn (I (j + 1)) N R)) (he : ∀ σ S, I ds.length σ S → N σ S) (k : ∀ σ S, N σ S → Ok (f σ S) (Done N2 R)) : Ok (thenS (forGo [] g b ds σ S) f) (Done N2 R) :=
  Ok.then (N := N) (R := R) (forGo_ok (gd := []) (fun j σ S => I j σ S) N R ds 0 h0 (fun _ _ _ _ => fun _ h => (List.not_mem_nil h).elim) (fun j d σ S hd hi => by rw [Nat.zero_add] at hi ⊢; exact hs j d σ S hd hi) (fun σ S hi => he σ S (by rwa [Nat.zero_add] at hi))) k
/-- a loop as the last step of a loop's turn -/
theorem Ok.loopT {g : D → DSt → Store → Res DSt} {b : DSt → Store → Res Fl} {ds : List D} {σ : DSt} {S : Store} {N B : DSt → Store → Prop} {R : D → Store → Prop} (I : Nat → DSt → Store → Prop) (h0 : I 0 σ S)
    (hs : ∀ j d σ S, ds[j]? = some d → I j σ S → Ok (L3.bindG (g d σ S) b) (Turn (I (j + 1)) (fun _ _ => False) R)) (k : ∀ σ S, I ds.length σ S → N σ S) : Ok (forGo [] g b ds σ S) (Turn N B R) := by
  have h := Ok.loop (f := fun σ S => .ok (.nx σ) S) (N2 := N) (R := R) I h0 hs (fun σ S hi => Ok_ok.mpr (k σ S hi))
  have e : ∀ r : Res Fl, thenS r (fun σ S => .ok (.nx σ) S) = r := fun r => by
    cases r with
    | ok fl S => cases fl <;> rfl
    | _ => rfl
  rw [e] at h
  refine h.imp fun fl S' t => ?_
  cases fl with
  | nx σ => exact t
  | rt d => exact t
  | _ => exact t.elim
/-- a loop ahead of what comes next, within a loop's turn -/
theorem Ok.thenT {r : Res Fl} {f : DSt → Store → Res Fl} {N N2 B : DSt → Store → Prop} {R : D → Store → Prop} (h : Ok r (Done N R)) (k : ∀ σ S, N σ S → Ok (f σ S) (Turn N2 B R)) : Ok (thenS r f) (Turn N2 B R) := by
  obtain ⟨fl, S, rfl, h⟩ := h
  cases fl with
  | rt d => exact ⟨_, S, rfl, h⟩
  | nx σ => exact k σ S h
  | _ => exact h.elim
/-- a loop over things that stay (no break), its last state -/
theorem Ok.loopD {g : D → DSt → Store → Res DSt} {b : DSt → Store → Res Fl} {ds : List D} {σ : DSt} {S : Store} {R : D → Store → Prop} (I : Nat → DSt → Store → Prop) (h0 : I 0 σ S)
    (hs : ∀ j d σ S, ds[j]? = some d → I j σ S → Ok (L3.bindG (g d σ S) b) (Turn (I (j + 1)) (fun _ _ => False) R)) : Ok (forGo [] g b ds σ S) (Done (I ds.length) R) := by
  have h := Ok.loop (f := fun σ S => .ok (.nx σ) S) (N2 := I ds.length) (R := R) I h0 hs (fun σ S hi => Ok_ok.mpr hi)
  have e : ∀ r : Res Fl, thenS r (fun σ S => .ok (.nx σ) S) = r := fun r => by
    cases r with
    | ok fl S => cases fl <;> rfl
    | _ => rfl
  rwa [e] at h
/-- a comprehension over things that stay -/
theorem lc_ok {g : D → DSt → Store → Res DSt} {t : DSt → Store → Res Bool} {e : DSt → Store → Res D} {σ : DSt} {ds : List D} {S : Store} (I : Nat → Store → List D → Prop) (h0 : I 0 S [])
    (hs : ∀ j d S acc, ds[j]? = some d → I j S acc → Ok (bindG (g d σ S) fun σ1 S1 => bindG (t σ1 S1) fun c S2 => if c = true then bindG (e σ1 S2) fun y S3 => .ok (some y) S3 else .ok none S2) fun y S3 => I (j + 1) S3 (acc ++ y.toList)) :
    Ok (lcGo [] g t e σ ds S) fun ys S' => I ds.length S' ys := by
  refine (lcGo_ok (gd := []) I ds 0 [] h0 (fun _ _ _ _ => fun _ h => (List.not_mem_nil h).elim) (fun j d S acc hd hi => ?_)).imp fun ys S' h => by simpa using h
  rw [Nat.zero_add] at hi ⊢
  exact hs j d S acc hd hi
theorem Ok.ret {r : Res Fl} {P : D → Store → Prop} {N : DSt → Store → Prop} (h : Ok r (Done N P)) (hn : ∀ σ S, N σ S → P .non S) : Ok (retK r) P := by
  obtain ⟨fl, S, rfl, h⟩ := h
  cases fl with
  | rt d => exact ⟨d, S, rfl, h⟩
  | nx σ => exact ⟨_, S, rfl, hn σ S h⟩
  | _ => exact h.elim
end L3
namespace L3
open PySem PySem.Spec L2
/-! ### texts by their signs -/
def tx (l : List Nat) : Str := ⟨l.toArray⟩
section
variable {a b l : List Nat} {c : Nat}
@[simp] theorem tx_cps : (tx l).cps.toList = l := (rfl)
@[simp] theorem tx_len : (tx l).length = l.length := by simp [tx, Str.length]
theorem tx_cat : tx a ++ tx b = tx (a ++ b) := SX.S_cat a b
theorem tx_inj (h : tx a = tx b) : a = b := SX.S_inj h
theorem tx_one : (⟨#[c]⟩ : Str) = tx [c] := rfl
theorem one_cat : (⟨#[c]⟩ : Str) ++ tx b = tx (c :: b) := tx_cat (a := [c])
theorem tx_nil : Str.ofString "" = tx [] := by decide +kernel
@[simp] theorem signsOf_tx : signsOf (tx l) = l.map chr := (rfl)
@[simp] theorem revS_tx : revS (tx l) = tx l.reverse := (rfl)
theorem repS_one (n : Nat) : repS (tx [c]) n = tx (List.replicate n c) := by
  unfold repS tx
  congr 1
  congr 1
  show (List.replicate n [c]).flatten = _
  simp
theorem mulSK {S : Store} {n : Nat} (h : l.length * n ≤ 16777216) (h2 : n < 2 ^ 62) : mulX (.str (tx l)) (.int n) S = .ok (.str (repS (tx l) n)) S := by
  have : -(2 ^ 63 : Int) ≤ (n : Int) ∧ (n : Int) < 2 ^ 63 ∧ (tx l).length * (n : Int).toNat ≤ 16777216 := ⟨by omega, by omega, by rw [tx_len, Int.toNat_natCast]; exact h⟩
  rw [e_mulS, if_pos this]
  rfl
theorem mulCK {S : Store} {n : Nat} (h : n ≤ 16777216) : mulX (chr c) (.int n) S = .ok (.str (tx (List.replicate n c))) S := by
  rw [← repS_one]
  exact mulSK (l := [c]) (by simpa using h) (by omega)
theorem addTK {S : Store} (h : a.length + b.length ≤ 16777216) : addD (.str (tx a)) (.str (tx b)) S = .ok (.str (tx (a ++ b))) S := by
  have : (tx a).length + (tx b).length ≤ sizeLine := by simpa using h
  rw [e_addS, if_pos this, tx_cat]
theorem addCK2 {S : Store} (h : a.length + 1 ≤ 16777216) : addD (.str (tx a)) (chr c) S = .ok (.str (tx (a ++ [c]))) S := addTK (b := [c]) h
theorem addCK {S : Store} (h : 1 + a.length ≤ 16777216) : addD (chr c) (.str (tx a)) S = .ok (.str (tx (c :: a))) S := by
  have : (tx [c]).length + (tx a).length ≤ sizeLine := by simpa using h
  have e : addD (chr c) (.str (tx a)) S = if (tx [c]).length + (tx a).length ≤ sizeLine then .ok (.str (tx [c] ++ tx a)) S else .stuck := rfl
  rw [e, if_pos this, tx_cat]
  rfl
theorem joinL_one : ∀ l : List Nat, TL.joinL [] (l.map fun c => [c]) = l
  | [] => rfl
  | [c] => rfl
  | c :: d :: l => by
    show [c] ++ ([] ++ TL.joinL [] (([d] : List Nat) :: l.map fun c => [c])) = _
    have := joinL_one (d :: l)
    rw [List.map_cons] at this
    rw [this]
    rfl
theorem strsOf_chr : ∀ l : List Nat, strsOf (l.map chr) = some (l.map fun c => tx [c])
  | [] => rfl
  | c :: l => by simp [strsOf, strsOf_chr l, chr, tx_one]
theorem sum_ones : ∀ l : List Nat, ((l.map fun c => tx [c]).map (·.length)).sum = l.length
  | [] => rfl
  | c :: l => by
    have := sum_ones l
    simp only [List.map_cons, List.sum_cons, this, tx_len, List.length_cons, List.length_nil]
    omega
theorem joinK {S : Store} (h : l.length ≤ 16777216) : joinD (.str (tx [])) [.lst (l.map chr)] S = .ok (.str (tx l)) S := by
  have h1 : seqOf S (.lst (l.map chr)) = some (l.map chr) := rfl
  simp only [joinD, h1, strsOf_chr]
  rw [sum_ones l]
  simp only [tx_len, List.length_nil, Nat.mul_zero, Nat.add_zero]
  rw [if_pos h]
  have h3 : (l.map fun c => tx [c]) = (l.map fun c => [c]).map SX.S := by simp [Function.comp_def, tx, SX.S]
  rw [h3, show tx ([] : List Nat) = SX.S [] from rfl, SX.join_S, joinL_one]
  rfl
/-- the first place of a sign -/
theorem index_one (h : c ∈ a) : Txt.index0 (tx a) (tx [c]) = some (a.idxOf c) := by
  have at_iff : ∀ i, StrLaws.At (tx a) (tx [c]) (tx a).length i ↔ a[i]? = some c := fun i => by
    unfold StrLaws.At
    rw [StrLaws.subAt_eq]
    simp only [tx_cps, tx_len, List.length_cons, List.length_nil]
    rw [StrLaws.take1_drop]
    constructor
    · exact fun h => h.2
    · intro h
      exact ⟨by have := (List.getElem?_eq_some_iff.mp h).1; omega, h⟩
  have hlt := List.idxOf_lt_length_of_mem h
  unfold Txt.index0
  rcases StrLaws.occ_head (tx a) (tx [c]) 1 (by omega) with ⟨h0, hn⟩ | ⟨i, r, e, hi, hk⟩
  · exact absurd ((at_iff _).mpr (by rw [List.getElem?_eq_getElem hlt, List.getElem_idxOf hlt])) (hn (a.idxOf c))
  · rw [e]
    show some i = some _
    congr 1
    rw [at_iff] at hi
    rcases Nat.lt_trichotomy i (a.idxOf c) with z | z | z
    · have := List.not_of_lt_findIdx (p := (· == c)) (xs := a) (i := i) z
      obtain ⟨h1, h2⟩ := List.getElem?_eq_some_iff.mp hi
      simp [h2] at this
    · exact z
    · exact absurd ((at_iff _).mpr (by rw [List.getElem?_eq_getElem hlt, List.getElem_idxOf hlt])) (hk _ z)
theorem sindexK {S : Store} (h : c ∈ a) : sindexD (.str (tx a)) [chr c] S = .ok (.int (a.idxOf c)) S := by
  show (match Txt.index0 (tx a) (tx [c]) with
    | some k => Res.ok (D.int (k : Nat)) S
    | none => .stuck) = _
  rw [index_one h]
end
/-! ### isinstance with a built-in class -/
section
variable {S : Store} {ds : List D} {x : Str} {i : Int} {b : Bool}
@[simp] theorem isi_tuple_tup : isiD "tuple" (.tup ds) S = .ok (.bl true) S := by
  have h : kitB "tuple" "tuple" = some true := by decide +kernel
  simp only [isiD, tyName, h]
@[simp] theorem isi_tuple_str : isiD "tuple" (.str x) S = .ok (.bl false) S := by
  have h : kitB "str" "tuple" = some false := by decide +kernel
  simp only [isiD, tyName, h]
@[simp] theorem isi_tuple_int : isiD "tuple" (.int i) S = .ok (.bl false) S := by
  have h : kitB "int" "tuple" = some false := by decide +kernel
  simp only [isiD, tyName, h]
@[simp] theorem isi_tuple_bl : isiD "tuple" (.bl b) S = .ok (.bl false) S := by
  have h : kitB "bool" "tuple" = some false := by decide +kernel
  simp only [isiD, tyName, h]
@[simp] theorem isi_tuple_lst : isiD "tuple" (.lst ds) S = .ok (.bl false) S := by
  have h : kitB "list" "tuple" = some false := by decide +kernel
  simp only [isiD, tyName, h]
@[simp] theorem isi_tuple_non : isiD "tuple" .non S = .ok (.bl false) S := by
  have h : kitB "NoneType" "tuple" = some false := by decide +kernel
  simp only [isiD, tyName, h]
@[simp] theorem isi_str_tup : isiD "str" (.tup ds) S = .ok (.bl false) S := by
  have h : kitB "tuple" "str" = some false := by decide +kernel
  simp only [isiD, tyName, h]
@[simp] theorem isi_str_str : isiD "str" (.str x) S = .ok (.bl true) S := by
  have h : kitB "str" "str" = some true := by decide +kernel
  simp only [isiD, tyName, h]
@[simp] theorem isi_str_int : isiD "str" (.int i) S = .ok (.bl false) S := by
  have h : kitB "int" "str" = some false := by decide +kernel
  simp only [isiD, tyName, h]
@[simp] theorem isi_str_bl : isiD "str" (.bl b) S = .ok (.bl false) S := by
  have h : kitB "bool" "str" = some false := by decide +kernel
  simp only [isiD, tyName, h]
@[simp] theorem isi_str_lst : isiD "str" (.lst ds) S = .ok (.bl false) S := by
  have h : kitB "list" "str" = some false := by decide +kernel
  simp only [isiD, tyName, h]
@[simp] theorem isi_str_non : isiD "str" .non S = .ok (.bl false) S := by
  have h : kitB "NoneType" "str" = some false := by decide +kernel
  simp only [isiD, tyName, h]
@[simp] theorem isi_int_tup : isiD "int" (.tup ds) S = .ok (.bl false) S := by
  have h : kitB "tuple" "int" = some false := by decide +kernel
  simp only [isiD, tyName, h]
@[simp] theorem isi_int_str : isiD "int" (.str x) S = .ok (.bl false) S := by
  have h : kitB "str" "int" = some false := by decide +kernel
  simp only [isiD, tyName, h]
@[simp] theorem isi_int_int : isiD "int" (.int i) S = .ok (.bl true) S := by
  have h : kitB "int" "int" = some true := by decide +kernel
  simp only [isiD, tyName, h]
@[simp] theorem isi_int_bl : isiD "int" (.bl b) S = .ok (.bl true) S := by
  have h : kitB "bool" "int" = some true := by decide +kernel
  simp only [isiD, tyName, h]
@[simp] theorem isi_int_lst : isiD "int" (.lst ds) S = .ok (.bl false) S := by
  have h : kitB "list" "int" = some false := by decide +kernel
  simp only [isiD, tyName, h]
@[simp] theorem isi_int_non : isiD "int" .non S = .ok (.bl false) S := by
  have h : kitB "NoneType" "int" = some false := by decide +kernel
  simp only [isiD, tyName, h]
@[simp] theorem isi_bool_tup : isiD "bool" (.tup ds) S = .ok (.bl false) S := by
  have h : kitB "tuple" "bool" = some false := by decide +kernel
  simp only [isiD, tyName, h]
@[simp] theorem isi_bool_str : isiD "bool" (.str x) S = .ok (.bl false) S := by
  have h : kitB "str" "bool" = some false := by decide +kernel
  simp only [isiD, tyName, h]
@[simp] theorem isi_bool_int : isiD "bool" (.int i) S = .ok (.bl false) S := by
  have h : kitB "int" "bool" = some false := by decide +kernel
  simp only [isiD, tyName, h]
@[simp] theorem isi_bool_bl : isiD "bool" (.bl b) S = .ok (.bl true) S := by
  have h : kitB "bool" "bool" = some true := by decide +kernel
  simp only [isiD, tyName, h]
@[simp] theorem isi_bool_lst : isiD "bool" (.lst ds) S = .ok (.bl false) S := by
  have h : kitB "list" "bool" = some false := by decide +kernel
  simp only [isiD, tyName, h]
@[simp] theorem isi_bool_non : isiD "bool" .non S = .ok (.bl false) S := by
  have h : kitB "NoneType" "bool" = some false := by decide +kernel
  simp only [isiD, tyName, h]
@[simp] theorem isi_list_tup : isiD "list" (.tup ds) S = .ok (.bl false) S := by
  have h : kitB "tuple" "list" = some false := by decide +kernel
  simp only [isiD, tyName, h]
@[simp] theorem isi_list_str : isiD "list" (.str x) S = .ok (.bl false) S := by
  have h : kitB "str" "list" = some false := by decide +kernel
  simp only [isiD, tyName, h]
@[simp] theorem isi_list_int : isiD "list" (.int i) S = .ok (.bl false) S := by
  have h : kitB "int" "list" = some false := by decide +kernel
  simp only [isiD, tyName, h]
@[simp] theorem isi_list_bl : isiD "list" (.bl b) S = .ok (.bl false) S := by
  have h : kitB "bool" "list" = some false := by decide +kernel
  simp only [isiD, tyName, h]
@[simp] theorem isi_list_lst : isiD "list" (.lst ds) S = .ok (.bl true) S := by
  have h : kitB "list" "list" = some true := by decide +kernel
  simp only [isiD, tyName, h]
@[simp] theorem isi_list_non : isiD "list" .non S = .ok (.bl false) S := by
  have h : kitB "NoneType" "list" = some false := by decide +kernel
  simp only [isiD, tyName, h]
@[simp] theorem isi_dict_tup : isiD "dict" (.tup ds) S = .ok (.bl false) S := by
  have h : kitB "tuple" "dict" = some false := by decide +kernel
  simp only [isiD, tyName, h]
@[simp] theorem isi_dict_str : isiD "dict" (.str x) S = .ok (.bl false) S := by
  have h : kitB "str" "dict" = some false := by decide +kernel
  simp only [isiD, tyName, h]
@[simp] theorem isi_dict_int : isiD "dict" (.int i) S = .ok (.bl false) S := by
  have h : kitB "int" "dict" = some false := by decide +kernel
  simp only [isiD, tyName, h]
@[simp] theorem isi_dict_bl : isiD "dict" (.bl b) S = .ok (.bl false) S := by
  have h : kitB "bool" "dict" = some false := by decide +kernel
  simp only [isiD, tyName, h]
@[simp] theorem isi_dict_lst : isiD "dict" (.lst ds) S = .ok (.bl false) S := by
  have h : kitB "list" "dict" = some false := by decide +kernel
  simp only [isiD, tyName, h]
@[simp] theorem isi_dict_non : isiD "dict" .non S = .ok (.bl false) S := by
  have h : kitB "NoneType" "dict" = some false := by decide +kernel
  simp only [isiD, tyName, h]
end
/-! ### lists and stores -/
theorem cut_map {α β : Type} (f : α → β) (xs : List α) (lo hi : Option Int) : L3.cut (xs.map f) lo hi = (L3.cut xs lo hi).map f := by
  unfold L3.cut
  rw [List.length_map, ← List.map_drop, ← List.map_take]
theorem map_get {α β : Type} {f : α → β} {xs : List α} {i : Nat} {y : β} (h : (xs.map f)[i]? = some y) : ∃ x, xs[i]? = some x ∧ y = f x := by
  rw [List.getElem?_map, Option.map_eq_some_iff] at h
  obtain ⟨x, h1, h2⟩ := h
  exact ⟨x, h1, h2.symm⟩
@[simp] theorem set_last (r : Store) (x y : Ob) : (r ++ [x]).set r.length y = r ++ [y] := by
  rw [List.set_append_right _ _ (Nat.le_refl _), Nat.sub_self]
  rfl
/-! ### the draws' state: the great cells, the seed -/
def drw (g : List Int) (s : Int) (r : Store) : Store := .lst (g.map D.int) :: .lst [.loc 0, .int s] :: r
section
variable {g : List Int} {s : Int} {r q : Store}
@[simp high] theorem drw0 (g : List Int) (s : Int) (r : Store) : (drw g s r)[0]? = some (.lst (g.map D.int)) := rfl
@[simp high] theorem drw1 (g : List Int) (s : Int) (r : Store) : (drw g s r)[1]? = some (.lst [.loc 0, .int s]) := rfl
@[simp] theorem drw_len : (drw g s r).length = r.length + 2 := (rfl)
@[simp high] theorem drw_get (n : Nat) : (drw g s r)[n + 2]? = r[n]? := (rfl)
@[simp] theorem drw_set (n : Nat) (o : Ob) : (drw g s r).set (n + 2) o = drw g s (r.set n o) := (rfl)
@[simp] theorem drw_app : drw g s r ++ q = drw g s (r ++ q) := (rfl)
end
theorem map_eraseIdx {α β : Type} (f : α → β) : ∀ (l : List α) (k : Nat), (l.map f).eraseIdx k = (l.eraseIdx k).map f
  | [], _ => rfl
  | _ :: _, 0 => rfl
  | x :: l, k + 1 => by simp [map_eraseIdx f l k]
theorem perm_erase {α : Type} {a l b : List α} {x : α} {k : Nat} (h : (a ++ l).Perm b) (hx : l[k]? = some x) : ((a ++ [x]) ++ l.eraseIdx k).Perm b := by
  refine List.Perm.trans ?_ h
  rw [List.append_assoc]
  refine List.Perm.append_left a ?_
  obtain ⟨hk, e⟩ := List.getElem?_eq_some_iff.mp hx
  rw [← e]
  clear hx h e
  induction l generalizing k with
  | nil => simp at hk
  | cons y l ih => cases k with
    | zero => exact List.Perm.refl _
    | succ k =>
      have := ih (k := k) (by simpa using hk)
      refine (List.Perm.swap _ _ _).trans (List.Perm.cons y ?_)
      simpa using this
end L3
namespace L3
open PySem PySem.Spec L2
/-! ### plain data: texts, whole numbers, none, tuples and lists of such; comparing them -/
mutual
def D.pl (k : Nat) : D → Bool
  | .non => true
  | .int _ => true
  | .str x => x.cps.all (· < 1114112)
  | .tup ds => match k with
    | 0 => false
    | k + 1 => D.pls k ds
  | .lst ds => match k with
    | 0 => false
    | k + 1 => D.pls k ds
  | _ => false
def D.pls (k : Nat) : List D → Bool
  | [] => true
  | d :: ds => D.pl k d && D.pls k ds
end
theorem pls_iff {k : Nat} : ∀ {ds : List D}, D.pls k ds = true ↔ ∀ d ∈ ds, D.pl k d = true
  | [] => by simp [D.pls]
  | d :: ds => by simp [D.pls, pls_iff (ds := ds)]
mutual
theorem pl_py : ∀ (k : Nat) (d : D), D.pl k d = true → ∃ p, toPy d = some p ∧ p.canLay0 = true ∧ p.depth ≤ k
  | k, .non, _ => ⟨_, rfl, rfl, by simp [PyData.depth]⟩
  | k, .int i, _ => ⟨_, rfl, rfl, by simp [PyData.depth]⟩
  | k, .str x, h => ⟨_, rfl, by simp only [PyData.canLay0, PyData.strOk]; simp only [D.pl] at h; exact h, by simp [PyData.depth]⟩
  | 0, .tup ds, h => by simp [D.pl] at h
  | k + 1, .tup ds, h => by
    simp only [D.pl] at h
    obtain ⟨ps, e, h1, h2⟩ := pls_py k ds h
    exact ⟨.tuple ps, by simp [toPy, e], by simpa [PyData.canLay0] using h1, by simp [PyData.depth]; omega⟩
  | 0, .lst ds, h => by simp [D.pl] at h
  | k + 1, .lst ds, h => by
    simp only [D.pl] at h
    obtain ⟨ps, e, h1, h2⟩ := pls_py k ds h
    exact ⟨.list ps, by simp [toPy, e], by simpa [PyData.canLay0] using h1, by simp [PyData.depth]; omega⟩
  | _, .bl _, h => by simp [D.pl] at h
  | _, .ktp _, h => by simp [D.pl] at h
  | _, .frz _, h => by simp [D.pl] at h
  | _, .loc _, h => by simp [D.pl] at h
theorem pls_py : ∀ (k : Nat) (ds : List D), D.pls k ds = true → ∃ ps, toPys ds = some ps ∧ PyData.canLayAll0 ps = true ∧ PyData.depthAll ps ≤ k
  | k, [], _ => ⟨[], rfl, rfl, by simp [PyData.depthAll]⟩
  | k, d :: ds, h => by
    simp only [D.pls, Bool.and_eq_true] at h
    obtain ⟨p, e1, a1, b1⟩ := pl_py k d h.1
    obtain ⟨ps, e2, a2, b2⟩ := pls_py k ds h.2
    exact ⟨p :: ps, by simp [toPys, e1, e2], by simp [PyData.canLayAll0, a1, a2], by simp [PyData.depthAll]; omega⟩
end
mutual
theorem eqv_pl : ∀ (k m : Nat) (d e : D) (p q : PyData), D.pl k d = true → D.pl m e = true → toPy d = some p → toPy e = some q → (PyData.eqv p q = true ↔ d = e)
  | k, m, d, e, p, q, h1, h2, e1, e2 => by
    cases d with
    | tup ds => cases e with
      | tup es => cases k with
        | zero => simp [D.pl] at h1
        | succ k => cases m with
          | zero => simp [D.pl] at h2
          | succ m =>
            simp only [D.pl] at h1 h2
            simp only [toPy, Option.map_eq_some_iff] at e1 e2
            obtain ⟨ps, e1, rfl⟩ := e1
            obtain ⟨qs, e2, rfl⟩ := e2
            have := eqv_pls k m ds es ps qs h1 h2 e1 e2
            simp [PyData.eqv, this]
      | _ => simp [toPy, Option.map_eq_some_iff] at e1 e2 <;> (try obtain ⟨ps, _, rfl⟩ := e1) <;> (try obtain ⟨qs, _, rfl⟩ := e2) <;> (try subst e2) <;> simp_all [PyData.eqv, D.pl]
    | lst ds => cases e with
      | lst es => cases k with
        | zero => simp [D.pl] at h1
        | succ k => cases m with
          | zero => simp [D.pl] at h2
          | succ m =>
            simp only [D.pl] at h1 h2
            simp only [toPy, Option.map_eq_some_iff] at e1 e2
            obtain ⟨ps, e1, rfl⟩ := e1
            obtain ⟨qs, e2, rfl⟩ := e2
            have := eqv_pls k m ds es ps qs h1 h2 e1 e2
            simp [PyData.eqv, this]
      | _ => simp [toPy, Option.map_eq_some_iff] at e1 e2 <;> (try obtain ⟨ps, _, rfl⟩ := e1) <;> (try obtain ⟨qs, _, rfl⟩ := e2) <;> (try subst e2) <;> simp_all [PyData.eqv, D.pl]
    | int i => cases e <;> simp [toPy, Option.map_eq_some_iff] at e1 e2 <;> subst e1 <;> (try obtain ⟨qs, _, rfl⟩ := e2) <;> (try subst e2) <;> simp_all [PyData.eqv, D.pl]
    | str i => cases e <;> simp [toPy, Option.map_eq_some_iff] at e1 e2 <;> subst e1 <;> (try obtain ⟨qs, _, rfl⟩ := e2) <;> (try subst e2) <;> simp_all [PyData.eqv, D.pl]
    | non => cases e <;> simp [toPy, Option.map_eq_some_iff] at e1 e2 <;> subst e1 <;> (try obtain ⟨qs, _, rfl⟩ := e2) <;> (try subst e2) <;> simp_all [PyData.eqv, D.pl]
    | _ => simp [D.pl] at h1
theorem eqv_pls : ∀ (k m : Nat) (ds es : List D) (ps qs : List PyData), D.pls k ds = true → D.pls m es = true → toPys ds = some ps → toPys es = some qs → (PyData.eqvAll ps qs = true ↔ ds = es)
  | k, m, [], [], ps, qs, _, _, e1, e2 => by
    simp [toPys] at e1 e2; subst e1 e2; simp [PyData.eqvAll]
  | k, m, [], e :: es, ps, qs, _, h2, e1, e2 => by
    obtain ⟨qs', e3, _⟩ := pls_py m (e :: es) h2
    simp only [D.pls, Bool.and_eq_true] at h2
    obtain ⟨q, f1, _⟩ := pl_py m e h2.1
    obtain ⟨qs2, f2, _⟩ := pls_py m es h2.2
    simp [toPys, f1, f2] at e1 e2
    subst e1 e2
    simp [PyData.eqvAll]
  | k, m, d :: ds, [], ps, qs, h1, _, e1, e2 => by
    simp only [D.pls, Bool.and_eq_true] at h1
    obtain ⟨q, f1, _⟩ := pl_py k d h1.1
    obtain ⟨qs2, f2, _⟩ := pls_py k ds h1.2
    simp [toPys, f1, f2] at e1 e2
    subst e1 e2
    simp [PyData.eqvAll]
  | k, m, d :: ds, e :: es, ps, qs, h1, h2, e1, e2 => by
    simp only [D.pls, Bool.and_eq_true] at h1 h2
    obtain ⟨p, f1, _⟩ := pl_py k d h1.1
    obtain ⟨ps2, f2, _⟩ := pls_py k ds h1.2
    obtain ⟨q, g1, _⟩ := pl_py m e h2.1
    obtain ⟨qs2, g2, _⟩ := pls_py m es h2.2
    simp [toPys, f1, f2, g1, g2] at e1 e2
    subst e1 e2
    have i1 := eqv_pl k m d e p q h1.1 h2.1 f1 g1
    have i2 := eqv_pls k m ds es ps2 qs2 h1.2 h2.2 f2 g2
    simp [PyData.eqvAll, i1, i2]
end
theorem pyS_pl {k : Nat} {d : D} (S : Store) (h : D.pl k d = true) : pyS S d = toPy d := by
  cases d <;> first | rfl | simp [D.pl] at h
open Classical in
/-- comparing plain data -/
theorem eqP {n : Bool} {d e : D} {S : Store} (h1 : D.pl 64 d = true) (h2 : D.pl 64 e = true) : eqD n d e S = .ok (.bl (xor n (decide (d = e)))) S := by
  obtain ⟨p, e1, a1, b1⟩ := pl_py 64 d h1
  obtain ⟨q, e2, a2, b2⟩ := pl_py 64 e h2
  rw [e_eqO, pyS_pl S h1, pyS_pl S h2, e1, e2]
  rw [eqO_some (by simp [SeqAt.shaped, a1, b1]) (by simp [SeqAt.shaped, a2, b2])]
  have := eqv_pl 64 64 d e p q h1 h2 e1 e2
  have h3 : PyData.eqv p q = decide (d = e) := by
    rw [Bool.eq_iff_iff, this, decide_eq_true_eq]
  rw [h3]
theorem eqSelf {n : Bool} {d : D} {S : Store} (h1 : D.pl 64 d = true) : eqD n d d S = .ok (.bl (!n)) S := by
  rw [eqP h1 h1]
  simp
theorem eqNe {n : Bool} {d e : D} {S : Store} (h1 : D.pl 64 d = true) (h2 : D.pl 64 e = true) (h : d ≠ e) : eqD n d e S = .ok (.bl n) S := by
  rw [eqP h1 h2]
  simp [h]
@[simp] theorem pl_int (k : Nat) (i : Int) : D.pl k (.int i) = true := by cases k <;> rfl
@[simp] theorem pl_tup (k : Nat) (ds : List D) : D.pl (k + 1) (.tup ds) = D.pls k ds := by simp [D.pl]
@[simp] theorem pl_lst (k : Nat) (ds : List D) : D.pl (k + 1) (.lst ds) = D.pls k ds := by simp [D.pl]
@[simp] theorem pls_nil (k : Nat) : D.pls k [] = true := by simp [D.pls]
@[simp] theorem pls_cons (k : Nat) (d : D) (ds : List D) : D.pls k (d :: ds) = (D.pl k d && D.pls k ds) := by simp [D.pls]
theorem pls_map {α : Type} {f : α → D} {k : Nat} {xs : List α} (h : ∀ x ∈ xs, D.pl k (f x) = true) : D.pls k (xs.map f) = true := by
  rw [pls_iff]
  intro d hd
  obtain ⟨x, hx, rfl⟩ := List.mem_map.mp hd
  exact h x hx
theorem pl_tx {k : Nat} {l : List Nat} (h : ∀ c ∈ l, c < 1114112) : D.pl k (.str (tx l)) = true := by
  have : (tx l).cps.all (· < 1114112) = true := by
    rw [← Array.all_toList, tx_cps, List.all_eq_true]
    exact fun c hc => decide_eq_true (h c hc)
  simpa [D.pl] using this
/-! ### more readings -/
section
variable {σ : DSt} {S : Store} {ds es : List D} {d e : D}
def zipK (ds : List D) (S : Store) : Res Src := match ds with
  | [d, e] => match lstSrc d S, lstSrc e S with
    | some s1, some s2 => .ok ⟨zipD s1.items s2.items, s1.guard ++ s2.guard⟩ S
    | _, _ => match rdT d, rdT e with
      | some a, some b => .ok ⟨zipD a b, []⟩ S
      | _, _ => .stuck
  | _ => .stuck
@[simp] theorem e_zip (ms : DSt → Store → Res (List D)) : mZip ms σ S = (ms σ S).bind fun ds S1 => zipK ds S1 := (rfl)
@[simp] theorem zipK_tup : zipK [.tup ds, .tup es] S = .ok ⟨zipD ds es, []⟩ S := (rfl)
@[simp] theorem zipK_lst : zipK [.lst ds, .lst es] S = .ok ⟨zipD ds es, []⟩ S := (rfl)
theorem blsOf_map : ∀ bs : List Bool, blsOf (bs.map D.bl) = some bs
  | [] => rfl
  | b :: bs => by simp [blsOf, blsOf_map bs]
theorem blsK (f : List Bool → D) (bs : List Bool) : onBls f [.lst (bs.map D.bl)] S = .ok (f bs) S := by
  have h : rdL S (.lst (bs.map D.bl)) = some (bs.map D.bl) := rfl
  simp only [onBls, h, blsOf_map]
@[simp] theorem blsK_rep (f : List Bool → D) (n : Nat) (b : Bool) : onBls f [.lst (List.replicate n (.bl b))] S = .ok (f (List.replicate n b)) S := by
  rw [← blsK f (List.replicate n b), List.map_replicate]
theorem inCK (n : Bool) {c : Nat} {l : List Nat} : inD n (chr c) (.str (tx l)) S = .ok (.bl (xor n (decide (c ∈ l)))) S := by
  show Res.ok (D.bl (xor n (!(Builtin.Str.occurrences (tx l) ⟨#[c]⟩ 0 (tx l).length 1).isEmpty))) S = _
  rw [StrLaws.found_one, tx_cps]
theorem countIn_signs (c : Nat) : ∀ l : List Nat, countIn (.str ⟨#[c]⟩) (l.map fun n => PyData.str ⟨#[n]⟩) = (l.count c : Int)
  | [] => rfl
  | a :: l => by
    have h : same (.str ⟨#[a]⟩) (.str ⟨#[c]⟩) = (a == c) := by
      show ((⟨#[a]⟩ : Str) == ⟨#[c]⟩) = _
      rw [Bool.eq_iff_iff]
      simp
    simp only [List.map_cons, countIn, h, countIn_signs c l, List.count_cons]
    cases (a == c) <;> simp <;> omega
theorem cnt_nodup {c : Nat} {l : List Nat} (h : l.Nodup) : scountD (.str (tx l)) [chr c] S = .ok (.int (if c ∈ l then 1 else 0)) S := by
  show Res.ok (D.int (Txt.count (tx l) ⟨#[c]⟩)) S = _
  rw [PyProof.Rows.count_is, tx_cps]
  congr 2
  rw [countIn_signs]
  split
  · rename_i hc
    have h1 := List.count_pos_iff.mpr hc
    have h2 := List.nodup_iff_count.mp h c
    omega
  · rename_i hc
    have := List.count_eq_zero.mpr hc
    omega
theorem cut_to (l : List Nat) (k : Nat) : cutS (tx l) none (some (k : Int)) = tx (l.take k) := by
  unfold cutS
  simp only [tx_cps, tx_len, HT.sIx_none, HT.sIx_nat, List.drop_zero, Nat.sub_zero]
  unfold tx
  congr 2
  rcases Nat.le_total k l.length with h | h
  · rw [Nat.min_eq_left h]
  · rw [Nat.min_eq_right h, List.take_length, List.take_of_length_le h]
end
/-! ### more of texts; sorted texts -/
theorem cut_from (l : List Nat) (k : Nat) : cutS (tx l) (some (k : Int)) none = tx (l.drop k) := by
  unfold cutS
  simp only [tx_cps, tx_len, HT.sIx_none, HT.sIx_nat]
  unfold tx
  congr 2
  rcases Nat.le_total k l.length with h | h
  · rw [Nat.min_eq_left h, List.take_of_length_le (by rw [List.length_drop]; omega)]
  · rw [Nat.min_eq_right h, List.drop_eq_nil_of_le h, List.drop_length]
    simp
def sd (l : List Nat) : D := .str (tx l)
theorem enc_sd (l : List Nat) : encD (sd l) = .str (tx l) := rfl
theorem toPys_map {α : Type} {f : α → D} {g : α → PyData} (h : ∀ x, toPy (f x) = some (g x)) : ∀ xs : List α, toPys (xs.map f) = some (xs.map g)
  | [] => rfl
  | x :: xs => by simp [toPys, h, toPys_map h xs]
theorem srt_sd (xs : List (List Nat)) : Srt (xs.map sd) := by
  refine ⟨⟨_, toPys_map (f := sd) (g := fun l => PyData.str (tx l)) (fun _ => rfl) xs⟩, ?_, ?_, fun d hd => ?_⟩
  · rw [List.map_map]
    exact PySem.W.AllAlike.of (enc := encD ∘ sd) fun _ _ => by simp [enc_sd, PySem.W.alike]
  · rw [List.map_map]
    exact PySem.W.Sortable.others (enc := encD ∘ sd) fun b => ⟨by simp [enc_sd], fun ys => by simp [enc_sd]⟩
  · obtain ⟨l, _, rfl⟩ := List.mem_map.mp hd
    simp [enc_sd, PyData.depth]
theorem sortedK {es : List D} {S : Store} (h : Srt es) (hl : es.length ≤ 16777216) : sortedD [.lst es] S = .ok (.lst (es.mergeSort dLe)) S := by
  have h1 : rdL S (.lst es) = some es := rfl
  simp only [sortedD, h1]
  rw [if_pos ⟨h, by rw [size_eq]; exact hl⟩]
theorem sorted_sd {S : Store} (xs : List (List Nat)) (hl : xs.length ≤ 16777216) : ∃ ys : List (List Nat), ys.Perm xs ∧ sortedD [.lst (xs.map sd)] S = .ok (.lst (ys.map sd)) S := by
  refine ⟨xs.mergeSort fun a b => dLe (sd a) (sd b), List.mergeSort_perm _ _, ?_⟩
  rw [sortedK (srt_sd xs) (by simpa using hl), List.map_mergeSort (r := fun a b => dLe (sd a) (sd b)) (s := dLe) (fun _ _ _ _ => rfl)]
/-! ### what is to be shown, kept out of simp's reach -/
def Unk (_ : Prop) : Type := Unit
def Hide (p : Prop) (_ : Unk p) : Prop := p
theorem Hide.mk {p : Prop} {x : Unk p} (h : p) : Hide p x := h
theorem Ok.hide {α : Type} {r : Res α} {P : α → Store → Prop} (h : Ok r fun a S => Hide (P a S) ()) : Ok r P := h
theorem lcH {g : D → DSt → Store → Res DSt} {t : DSt → Store → Res Bool} {e : DSt → Store → Res D} {σ : DSt} {ds : List D} {S : Store} (I : Nat → Store → List D → Prop) (h0 : I 0 S [])
    (hs : ∀ j d S acc, ds[j]? = some d → I j S acc → Ok (bindG (g d σ S) fun σ1 S1 => bindG (t σ1 S1) fun c S2 => if c = true then bindG (e σ1 S2) fun y S3 => .ok (some y) S3 else .ok none S2) fun y S3 => Hide (I (j + 1) S3 (acc ++ y.toList)) ()) :
    ∃ ys S', lcGo [] g t e σ ds S = .ok ys S' ∧ I ds.length S' ys := lc_ok I h0 hs
theorem Ok.loopH {g : D → DSt → Store → Res DSt} {b : DSt → Store → Res Fl} {ds : List D} {σ : DSt} {S : Store} {f : DSt → Store → Res Fl} {N2 : DSt → Store → Prop} {R : D → Store → Prop} (I : Nat → DSt → Store → Prop) (h0 : I 0 σ S)
    (hs : ∀ j d σ S, ds[j]? = some d → I j σ S → Ok (L3.bindG (g d σ S) b) (Turn (fun σ S => Hide (I (j + 1) σ S) ()) (fun _ _ => False) R)) (k : ∀ σ S, I ds.length σ S → Ok (f σ S) (Done N2 R)) : Ok (thenS (forGo [] g b ds σ S) f) (Done N2 R) := Ok.loop I h0 hs k
theorem Ok.loopTH {g : D → DSt → Store → Res DSt} {b : DSt → Store → Res Fl} {ds : List D} {σ : DSt} {S : Store} {N B : DSt → Store → Prop} {R : D → Store → Prop} (I : Nat → DSt → Store → Prop) (h0 : I 0 σ S)
    (hs : ∀ j d σ S, ds[j]? = some d → I j σ S → Ok (L3.bindG (g d σ S) b) (Turn (fun σ S => Hide (I (j + 1) σ S) ()) (fun _ _ => False) R)) (k : ∀ σ S, I ds.length σ S → N σ S) : Ok (forGo [] g b ds σ S) (Turn N B R) := Ok.loopT I h0 hs k
theorem Ok.loopDH {g : D → DSt → Store → Res DSt} {b : DSt → Store → Res Fl} {ds : List D} {σ : DSt} {S : Store} {R : D → Store → Prop} (I : Nat → DSt → Store → Prop) (h0 : I 0 σ S)
    (hs : ∀ j d σ S, ds[j]? = some d → I j σ S → Ok (L3.bindG (g d σ S) b) (Turn (fun σ S => Hide (I (j + 1) σ S) ()) (fun _ _ => False) R)) : Ok (forGo [] g b ds σ S) (Done (I ds.length) R) := Ok.loopD I h0 hs
/-! ### joined texts; dicts by tuples -/
theorem strsOf_sd : ∀ l : List (List Nat), strsOf (l.map sd) = some (l.map tx)
  | [] => rfl
  | c :: l => by simp [strsOf, strsOf_sd l, sd]
theorem joinL_nil : ∀ l : List (List Nat), TL.joinL [] l = l.flatten
  | [] => rfl
  | [c] => by simp [TL.joinL]
  | c :: d :: l => by
    show c ++ ([] ++ TL.joinL [] (d :: l)) = _
    rw [joinL_nil (d :: l)]
    simp
theorem joinSd {S : Store} {l : List (List Nat)} (h : l.flatten.length ≤ 16777216) : joinD (.str (tx [])) [.lst (l.map sd)] S = .ok (.str (tx l.flatten)) S := by
  have h1 : seqOf S (.lst (l.map sd)) = some (l.map sd) := rfl
  simp only [joinD, h1, strsOf_sd]
  have h2 : ((l.map tx).map (·.length)).sum = l.flatten.length := by
    rw [List.length_flatten, List.map_map]
    refine congrArg List.sum (List.map_congr_left fun x _ => ?_)
    exact tx_len
  rw [h2]
  simp only [tx_len, List.length_nil, Nat.mul_zero, Nat.add_zero]
  rw [if_pos h]
  have h3 : l.map tx = l.map SX.S := rfl
  rw [h3, show tx ([] : List Nat) = SX.S [] from rfl, SX.join_S, joinL_nil]
  rfl
section
variable {κ : Type} [DecidableEq κ]
theorem lookK_nil (k : κ) : lookK ([] : List (κ × D)) k = none := rfl
theorem lookK_cons (p : κ × D) (r : List (κ × D)) (k : κ) : lookK (p :: r) k = if p.1 = k then some p.2 else lookK r k := by
  unfold lookK
  by_cases h : p.1 = k <;> simp [List.find?_cons, h]
theorem lookK_app (a b : List (κ × D)) (k : κ) : lookK (a ++ b) k = (lookK a k).or (lookK b k) := by
  induction a with
  | nil => simp [lookK_nil]
  | cons p a ih =>
    rw [List.cons_append, lookK_cons, lookK_cons, ih]
    split <;> simp
theorem any_lookK (a : List (κ × D)) (k : κ) : (a.any fun kv => decide (kv.1 = k)) = (lookK a k).isSome := by
  induction a with
  | nil => rfl
  | cons p a ih =>
    rw [List.any_cons, lookK_cons, ih]
    by_cases h : p.1 = k <;> simp [h]
theorem lookK_put (kvs : List (κ × D)) (k k' : κ) (v : D) : lookK (putD kvs k v) k' = if k = k' then some v else lookK kvs k' := by
  unfold putD
  split
  · rename_i h
    rw [any_lookK] at h
    have : ∀ kvs : List (κ × D), lookK (kvs.map fun kv => if kv.1 = k then (kv.1, v) else kv) k' = if k = k' then (if (lookK kvs k).isSome = true then some v else none) else lookK kvs k' := by
      intro kvs
      induction kvs with
      | nil => simp [lookK_nil]
      | cons p r ih =>
        rw [List.map_cons, lookK_cons, ih, lookK_cons, lookK_cons]
        by_cases h1 : p.1 = k
        · by_cases h2 : k = k'
          · simp [h1, h2]
          · simp [h1, h2]
        · by_cases h2 : k = k'
          · subst h2; simp [h1]
          · simp [h1, h2]
    rw [this, h]
    simp
  · rename_i h
    rw [any_lookK] at h
    rw [lookK_app, lookK_cons, lookK_nil]
    by_cases h2 : k = k'
    · subst h2
      simp only [if_true]
      cases hl : lookK kvs k with
      | none => rfl
      | some z => rw [hl] at h; simp at h
    · simp [h2]
theorem lookK_merge_none (k : κ) : ∀ (ps acc : List (κ × D)), (∀ p ∈ ps, p.1 ≠ k) → lookK (mergeD acc ps) k = lookK acc k
  | [], acc, _ => rfl
  | p :: ps, acc, h => by
    show lookK (mergeD (putD acc p.1 p.2) ps) k = _
    rw [lookK_merge_none k ps _ fun q hq => h q (List.mem_cons_of_mem _ hq), lookK_put, if_neg (h p List.mem_cons_self)]
theorem lookK_merge_some (k : κ) (v : D) : ∀ (ps acc : List (κ × D)), (∀ p ∈ ps, p.1 = k → p.2 = v) → (lookK acc k = some v ∨ ∃ p ∈ ps, p.1 = k) → lookK (mergeD acc ps) k = some v
  | [], acc, _, h => h.elim (fun h => h) fun ⟨_, z, _⟩ => absurd z List.not_mem_nil
  | p :: ps, acc, h, h2 => by
    show lookK (mergeD (putD acc p.1 p.2) ps) k = _
    refine lookK_merge_some k v ps _ (fun q hq => h q (List.mem_cons_of_mem _ hq)) ?_
    rw [lookK_put]
    by_cases h3 : p.1 = k
    · rw [if_pos h3, h p List.mem_cons_self h3]
      exact .inl rfl
    · rw [if_neg h3]
      rcases h2 with h2 | ⟨q, hq, e⟩
      · exact .inl h2
      · rcases List.mem_cons.mp hq with rfl | hq
        · exact absurd e h3
        · exact .inr ⟨q, hq, e⟩
end
section
variable {S : Store} {l : Nat} {kvs : List (List Key × D)} {x y : Int}
theorem inT2 (n : Bool) (h : S[l]? = some (.dT kvs)) : inD n (.tup [.int x, .int y]) (.loc l) S = .ok (.bl (xor n (lookK kvs [.inl x, .inl y]).isSome)) S := by
  have h1 : pyS S (.tup [.int x, .int y]) = some (.tuple [.int x, .int y]) := rfl
  have h2 : pyS S (.loc l) = none := by simp [pyS, h]
  have h3 : dlook S (.loc l) (.tup [.int x, .int y]) = some (lookK kvs [.inl x, .inl y]) := by simp [dlook, h, obK, obT, keyOf, keysOf]
  simp only [inD, h1, h2, h3]
def ixE (S : Store) : Option D → Res D
  | some e => .ok e S
  | none => .stuck
@[simp] theorem ixE_some (e : D) : ixE S (some e) = .ok e S := (rfl)
theorem ixT2 (h : S[l]? = some (.dT kvs)) : ixD (.loc l) (.tup [.int x, .int y]) S = ixE S (lookK kvs [.inl x, .inl y]) := by
  have h3 : dlook S (.loc l) (.tup [.int x, .int y]) = some (lookK kvs [.inl x, .inl y]) := by simp [dlook, h, obK, obT, keyOf, keysOf]
  have h4 : seqOf S (.loc l) = none := by simp [seqOf, rdL, exL, rdT, h]
  simp only [ixD, h4, h3]
  cases lookK kvs [.inl x, .inl y] <;> rfl
end
/-! ### mutable lists of plain data: empty or not, is it in -/
theorem eqNilL {S : Store} {l : Nat} {ds : List D} (n : Bool) (h : S[l]? = some (.lst ds)) (hp : D.pls 63 ds = true) : eqD n (.loc l) (.lst []) S = .ok (.bl (xor n (ds.isEmpty))) S := by
  obtain ⟨ps, q1, q2, q3⟩ := pls_py 63 ds hp
  rw [e_eqO, e_pyO, h, pyO_lst, q1]
  simp only [pyS_lst, toPys, Option.map_some]
  rw [eqO_some (by simp [SeqAt.shaped, PyData.canLay0, q2, PyData.depth]; omega) rfl]
  cases ds with
  | nil =>
    simp only [toPys, Option.some.injEq] at q1
    subst q1
    rfl
  | cons d ds =>
    cases ps with
    | nil =>
      simp only [toPys] at q1
      split at q1 <;> simp at q1
    | cons _ _ => rfl
theorem eqv_tx (a b : List Nat) : PyData.eqv (.str (tx a)) (.str (tx b)) = decide (a = b) := by
  rw [Bool.eq_iff_iff, decide_eq_true_eq]
  simp only [PyData.eqv, beq_iff_eq]
  exact ⟨tx_inj, fun h => by rw [h]⟩
/-- a text among the texts of a mutable list -/
theorem inLs {S : Store} {l : Nat} {xs : List (List Nat)} (n : Bool) {x : List Nat} (h : S[l]? = some (.lst (xs.map sd))) (hx : ∀ c ∈ x, c < 1114112) (hxs : ∀ y ∈ xs, ∀ c ∈ y, c < 1114112) :
    inD n (sd x) (.loc l) S = .ok (.bl (xor n (decide (x ∈ xs)))) S := by
  have hp : D.pls 63 (xs.map sd) = true := pls_map fun y hy => pl_tx (hxs y hy)
  obtain ⟨ps, q1, q2, q3⟩ := pls_py 63 (xs.map sd) hp
  have q4 : toPys (xs.map sd) = some (xs.map fun y => PyData.str (tx y)) := toPys_map (fun _ => rfl) xs
  rw [q4] at q1
  cases q1
  have h1 : pyS S (sd x) = some (.str (tx x)) := rfl
  have h2 : pyS S (.loc l) = some (.list (xs.map fun y => PyData.str (tx y))) := by rw [e_pyO, h, pyO_lst, q4]; rfl
  obtain ⟨p, r1, r2, r3⟩ := pl_py 63 (sd x) (pl_tx hx)
  cases r1
  have e : inD n (sd x) (.loc l) S = match pyS S (sd x), pyS S (.loc l) with
    | some p, some (.list ds) => if SeqAt.shaped p = true ∧ SeqAt.shaped (.list ds) = true then .ok (.bl (xor n (ds.any fun z => PyData.eqv z p))) S else .stuck
    | some p, some (.tuple ds) => if SeqAt.shaped p = true ∧ SeqAt.shaped (.tuple ds) = true then .ok (.bl (xor n (ds.any fun z => PyData.eqv z p))) S else .stuck
    | _, _ => match dlook S (.loc l) (sd x) with
      | some r => .ok (.bl (xor n r.isSome)) S
      | none => .stuck := rfl
  rw [e, h1, h2]
  simp only
  rw [if_pos ⟨by simp [SeqAt.shaped, r2]; omega, by simp [SeqAt.shaped, PyData.canLay0, q2, PyData.depth]; omega⟩]
  congr 3
  rw [List.any_map, Bool.eq_iff_iff, List.any_eq_true, decide_eq_true_eq]
  constructor
  · rintro ⟨y, hy, z⟩
    simp only [Function.comp, eqv_tx, decide_eq_true_eq] at z
    rw [← z]; exact hy
  · intro hy
    exact ⟨x, hy, by simp [eqv_tx]⟩
end L3
namespace L3
open PySem PySem.Spec L2
/-! ### what is wanted, read from the front: one rule for each reading -/
abbrev XEv := Str → List (Str × D) → Store → Prop
def WfX (E : XEv) (r : Res Fl) (N : DSt → Store → Prop) (R : D → Store → Prop) (B C : DSt → Store → Prop) : Prop := match r with
  | .ok (.nx σ) S => N σ S
  | .ok (.rt d) S => R d S
  | .ok (.bk σ) S => B σ S
  | .ok (.ct σ) S => C σ S
  | .ok (.ex c fs _) S => E c fs S
  | _ => False
abbrev noE : XEv := fun _ _ _ => False
abbrev Wf (r : Res Fl) (N : DSt → Store → Prop) (R : D → Store → Prop) (B C : DSt → Store → Prop) : Prop := WfX noE r N R B C
/-- two ways -/
def Br (b : Bool) (p q : Prop) : Prop := if b = true then p else q
theorem br_t {p q : Prop} (h : p) : Br true p q := h
theorem br_f {p q : Prop} (h : q) : Br false p q := h
theorem br_T {b : Bool} {p q : Prop} (e : b = true) (h : p) : Br b p q := by subst e; exact h
theorem br_F {b : Bool} {p q : Prop} (e : b = false) (h : q) : Br b p q := by subst e; exact h
theorem br_if {b : Bool} {p q : Prop} (h : b = true → p) (h' : b = false → q) : Br b p q := by cases b <;> simp_all [Br]
theorem br_dec {c : Prop} [i : Decidable c] {p q : Prop} (h : c → p) (h' : ¬ c → q) : Br (decide c) p q := by
  by_cases hc : c <;> simp_all [Br]
theorem br_not {b : Bool} {p q : Prop} (h : Br b q p) : Br (!b) p q := by cases b <;> simpa [Br] using h
theorem br_xt {b : Bool} {p q : Prop} (h : Br b q p) : Br (xor true b) p q := by cases b <;> simpa [Br] using h
theorem br_xf {b : Bool} {p q : Prop} (h : Br b p q) : Br (xor false b) p q := by cases b <;> simpa [Br] using h
section
variable {α β : Type} {σ σ' : DSt} {S : Store} {E : XEv} {N B C : DSt → Store → Prop} {R : D → Store → Prop} {a b c : DSt → Store → Res D} {ta tb : DSt → Store → Res Bool} {ms : DSt → Store → Res (List D)} {Q : D → Store → Prop} {QB : Bool → Store → Prop} {QL : List D → Store → Prop} {QS : Src → Store → Prop} {QG : DSt → Store → Prop}
theorem WfX.imp {r : Res Fl} {N' B' C' : DSt → Store → Prop} {R' : D → Store → Prop} (h : WfX E r N R B C) (h1 : ∀ σ S, N σ S → N' σ S) (h2 : ∀ d S, R d S → R' d S) (h3 : ∀ σ S, B σ S → B' σ S) (h4 : ∀ σ S, C σ S → C' σ S) : WfX E r N' R' B' C' := by
  cases r with
  | ok fl S => cases fl with
    | nx σ => exact h1 _ _ h
    | rt d => exact h2 _ _ h
    | bk σ => exact h3 _ _ h
    | ct σ => exact h4 _ _ h
    | ex _ _ _ => exact h
  | _ => exact h
/-! statements -/
theorem w_seq {a b : DSt → Store → Res Fl} (h : WfX E (a σ S) (fun σ S => WfX E (b σ S) N R B C) R B C) : WfX E (mSeq a b σ S) N R B C := by
  unfold mSeq thenS
  revert h
  cases a σ S with
  | ok fl S1 => cases fl <;> exact fun h => h
  | _ => exact fun h => h
theorem w_skip (h : N σ S) : WfX E (mSkip σ S) N R B C := h
theorem w_nx (h : N σ S) : WfX E (.ok (.nx σ) S) N R B C := h
theorem w_rt {d : D} (h : R d S) : WfX E (.ok (.rt d) S) N R B C := h
theorem w_bk (h : B σ S) : WfX E (.ok (.bk σ) S) N R B C := h
theorem w_ct (h : C σ S) : WfX E (.ok (.ct σ) S) N R B C := h
theorem w_lift {r : Res α} {f : α → Store → Res Fl} (h : Ok r fun x S => WfX E (f x S) N R B C) : WfX E (liftE r σ f) N R B C := by
  obtain ⟨x, S1, rfl, h⟩ := h; exact h
theorem w_do (h : Ok (a σ S) fun _ S => N σ S) : WfX E (mDo a σ S) N R B C := w_lift h
theorem w_ret (h : Ok (a σ S) R) : WfX E (mRet a σ S) N R B C := w_lift h
theorem w_ifs {x y : DSt → Store → Res Fl} (h : Ok (ta σ S) fun t S => Br t (WfX E (x σ S) N R B C) (WfX E (y σ S) N R B C)) : WfX E (mIfS ta x y σ S) N R B C :=
  w_lift (h.imp fun t S1 h => by cases t <;> exact h)
theorem w_set {i : Nat} (h : Ok (a σ S) fun d S => ∀ σ', σ.set i (some d) = σ' → N σ' S) : WfX E (mSet i a σ S) N R B C := w_lift (h.imp fun t S1 h => h _ rfl)
theorem w_asg {g : D → DSt → Store → Res DSt} (h : Ok (a σ S) fun d S => Ok (g d σ S) N) : WfX E (mAsg a g σ S) N R B C := w_lift (h.imp fun t S1 h => by
  obtain ⟨x, S2, e, h⟩ := h
  rw [e]; exact h)
theorem w_par {i j : Nat} (h : Ok (ms σ S) fun ds S => ∃ x y, ds = [x, y] ∧ ∀ σ', (σ.set i (some x)).set j (some y) = σ' → N σ' S) : WfX E (mPar i j ms σ S) N R B C := w_lift (h.imp fun t S1 h => by
  obtain ⟨x, y, rfl, h⟩ := h
  exact h _ rfl)
theorem w_for {mi : DSt → Store → Res Src} {g : D → DSt → Store → Res DSt} {b : DSt → Store → Res Fl} (h : Ok (mi σ S) fun src S => WfX E (forGo src.guard g b src.items σ S) N R B C) : WfX E (mFor mi g b σ S) N R B C := w_lift h
/-! expressions -/
theorem k_ok {x : α} {Q : α → Store → Prop} (h : Q x S) : Ok (.ok x S) Q := ⟨_, _, rfl, h⟩
theorem k_eq {r : Res α} {x : α} {Q : α → Store → Prop} (e : r = .ok x S) (h : Q x S) : Ok r Q := ⟨_, _, e, h⟩
theorem k_bind {r : Res α} {f : α → Store → Res β} {Q : β → Store → Prop} (h : Ok r fun x S => Ok (f x S) Q) : Ok (r.bind f) Q := h.bind fun _ _ h => h
theorem k_bindG {r : Res α} {f : α → Store → Res β} {Q : β → Store → Prop} (h : Ok r fun x S => Ok (f x S) Q) : Ok (bindG r f) Q := h.bindG fun _ _ h => h
theorem k_if {p : Prop} [Decidable p] {r : Res α} {Q : α → Store → Prop} (hp : p) (h : Ok r Q) : Ok (if p then r else .stuck) Q := by rw [if_pos hp]; exact h
theorem k_var {i : Nat} {d : D} (e : σ[i]? = some (some d)) (h : Q d S) : Ok (mVar i σ S) Q := ⟨d, S, e_var' i e, h⟩
theorem k_C {d : D} (h : Q d S) : Ok (mC d σ S) Q := ⟨_, _, rfl, h⟩
theorem k_m2 {f : D → D → Store → Res D} (h : Ok (a σ S) fun x S => Ok (b σ S) fun y S => Ok (f x y S) Q) : Ok (m2 a b f σ S) Q := k_bind (h.imp fun _ _ h => k_bind h)
theorem k_m1 {f : D → Store → Res D} (h : Ok (a σ S) fun x S => Ok (f x S) Q) : Ok (m1 a f σ S) Q := k_bind h
theorem k_nil (h : QL [] S) : Ok (mNil σ S) QL := ⟨_, _, rfl, h⟩
theorem k_cons (h : Ok (a σ S) fun x S => Ok (ms σ S) fun xs S => QL (x :: xs) S) : Ok (mCons a ms σ S) QL := k_bind (h.imp fun _ _ h => k_bind (h.imp fun _ _ h => k_ok h))
theorem k_tup (h : Ok (ms σ S) fun ds S => ds.length ≤ 16777216 ∧ Q (.tup ds) S) : Ok (mTup ms σ S) Q := k_bind (h.imp fun ds S h => k_if (by rw [size_eq]; exact h.1) (k_ok h.2))
theorem k_lst (h : Ok (ms σ S) fun ds S => ds.length ≤ 16777216 ∧ Q (.lst ds) S) : Ok (mLst ms σ S) Q := k_bind (h.imp fun ds S h => k_if (by rw [size_eq]; exact h.1) (k_ok h.2))
theorem k_lstM (h : Ok (ms σ S) fun ds S => ds.length ≤ 16777216 ∧ Q (.loc S.length) (S ++ [.lst ds])) : Ok (mLstM ms σ S) Q := k_bind (h.imp fun ds S h => k_if (by rw [size_eq]; exact h.1) (k_ok h.2))
theorem k_andV (h : Ok (a σ S) fun x S => ∃ t, x = .bl t ∧ Br t (Ok (b σ S) Q) (Q (.bl false) S)) : Ok (mAndV a b σ S) Q := k_bind (h.imp fun x S h => by
  obtain ⟨t, rfl, h⟩ := h
  cases t
  · exact k_ok h
  · exact h)
theorem k_orV (h : Ok (a σ S) fun x S => ∃ t, x = .bl t ∧ Br t (Q (.bl true) S) (Ok (b σ S) Q)) : Ok (mOrV a b σ S) Q := k_bind (h.imp fun x S h => by
  obtain ⟨t, rfl, h⟩ := h
  cases t
  · exact h
  · exact k_ok h)
theorem k_notV (h : Ok (a σ S) fun x S => ∃ t, x = .bl t ∧ Q (.bl (!t)) S) : Ok (mNotV a σ S) Q := k_bind (h.imp fun x S h => by
  obtain ⟨t, rfl, h⟩ := h
  exact k_ok h)
theorem k_ifx (h : Ok (ta σ S) fun t S => Br t (Ok (a σ S) Q) (Ok (b σ S) Q)) : Ok (mIf ta a b σ S) Q := k_bind (h.imp fun t S h => by cases t <;> exact h)
theorem k_neg (h : Ok (a σ S) fun x S => ∃ i, x = .int i ∧ Q (.int (-i)) S) : Ok (mNeg a σ S) Q := k_bind (h.imp fun x S h => by
  obtain ⟨t, rfl, h⟩ := h
  exact k_ok h)
theorem k_ch {f g : D → D → Store → Res D} (h : Ok (a σ S) fun x S => Ok (b σ S) fun y S => Ok (f x y S) fun z S => ∃ t, z = .bl t ∧ Br t (Ok (c σ S) fun w S => Ok (g y w S) Q) (Q (.bl false) S)) : Ok (mCh a b c f g σ S) Q :=
  k_bind (h.imp fun x S h => k_bind (h.imp fun y S h => k_bind (h.imp fun z S h => by
    obtain ⟨t, rfl, h⟩ := h
    cases t
    · exact k_ok h
    · exact k_bind h)))
/-! tests -/
theorem k_mT (h : Ok (a σ S) fun x S => ∃ t, x = .bl t ∧ QB t S) : Ok (mT a σ S) QB := k_bind (h.imp fun x S h => by
  obtain ⟨t, rfl, h⟩ := h
  exact k_ok h)
theorem k_andT (h : Ok (ta σ S) fun t S => Br t (Ok (tb σ S) QB) (QB false S)) : Ok (mAndT ta tb σ S) QB := k_bind (h.imp fun t S h => by
  cases t
  · exact k_ok h
  · exact h)
theorem k_orT (h : Ok (ta σ S) fun t S => Br t (QB true S) (Ok (tb σ S) QB)) : Ok (mOrT ta tb σ S) QB := k_bind (h.imp fun t S h => by
  cases t
  · exact h
  · exact k_ok h)
theorem k_notT (h : Ok (ta σ S) fun t S => QB (!t) S) : Ok (mNotT ta σ S) QB := k_bind (h.imp fun t S h => k_ok h)
theorem bl_of {t : Bool} {p : Bool → Prop} (h : p t) : ∃ u, D.bl t = .bl u ∧ p u := ⟨t, rfl, h⟩
theorem int_of {t : Int} {p : Int → Prop} (h : p t) : ∃ u, D.int t = .int u ∧ p u := ⟨t, rfl, h⟩
/-! calls -/
theorem k_cb {g : List D → Store → Res D} (h : Ok (ms σ S) fun ds S => Ok (g ds S) Q) : Ok (mCB g ms σ S) Q := k_bind h
theorem k_call {n : Nat} {den : List D → Store → Res D} (h : Ok (ms σ S) fun ds S => ds.length = n ∧ Ok (den ds S) Q) : Ok (mCall n den ms σ S) Q := k_bind (h.imp fun ds S h => k_if h.1 (by
  obtain ⟨x, S1, e, q⟩ := h.2
  exact ⟨x, S1, by rw [e]; rfl, q⟩))
theorem k_bm {T : String} {g : D → List D → Store → Res D} (h : Ok (a σ S) fun d S => tyOk T S d = true ∧ Ok (ms σ S) fun ds S => Ok (g d ds S) Q) : Ok (mBM T g a ms σ S) Q := k_bind (h.imp fun d S h => k_if h.1 (k_bind h.2))
theorem k_get1 (h : Ok (a σ S) fun d S => isDl S d = true ∧ Ok (b σ S) fun k S => ∃ o, dlook S d k = some o ∧ Q (o.getD .non) S) : Ok (mGet1 a b σ S) Q := k_bind (h.imp fun d S h => k_if h.1 (k_bind (h.2.imp fun k S h => by
  obtain ⟨o, e, h⟩ := h
  rw [e]
  cases o <;> exact k_ok h)))
theorem k_get2 (h : Ok (a σ S) fun d S => isDl S d = true ∧ Ok (b σ S) fun k S => Ok (c σ S) fun x S => ∃ o, dlook S d k = some o ∧ Q (o.getD x) S) : Ok (mGet2 a b c σ S) Q := k_bind (h.imp fun d S h => k_if h.1 (k_bind (h.2.imp fun k S h => k_bind (h.imp fun x S h => by
  obtain ⟨o, e, h⟩ := h
  rw [e]
  cases o <;> exact k_ok h))))
theorem k_lc {mi : DSt → Store → Res Src} {g : D → DSt → Store → Res DSt} {vs : List Nat} (h : Ok (mi σ S) fun src S => ∀ σ', dwipe σ vs = σ' → Ok (lcGo src.guard g ta a σ' src.items S) fun ys S => Q (.lst ys) S) : Ok (mLc mi g ta a vs σ S) Q := by
  rw [e_lc]
  exact k_bind (h.imp fun src S h => k_bindG ((h _ rfl).imp fun ys S h => k_ok h))
theorem k_lcM {mi : DSt → Store → Res Src} {g : D → DSt → Store → Res DSt} {vs : List Nat} (h : Ok (mi σ S) fun src S => ∀ σ', dwipe σ vs = σ' → Ok (lcGo src.guard g ta a σ' src.items S) fun ys S => Q (.loc S.length) (S ++ [.lst ys])) : Ok (mLcM mi g ta a vs σ S) Q := by
  rw [e_lcM]
  exact k_bind (h.imp fun src S h => k_bindG ((h _ rfl).imp fun ys S h => k_ok h))
theorem k_sl {ml mh : DSt → Store → Res (Option Int)} (h : Ok (a σ S) fun d S => Ok (ml σ S) fun lo S => Ok (mh σ S) fun hi S => Ok (sliceD d lo hi S) Q) : Ok (mSl a ml mh σ S) Q := by
  rw [e_sl]
  exact k_bind (h.imp fun d S h => k_bind (h.imp fun l S h => k_bind h))
theorem k_nopart {QO : Option Int → Store → Prop} (h : QO none S) : Ok (mNoPart σ S) QO := k_ok h
theorem k_part {QO : Option Int → Store → Prop} (h : Ok (a σ S) fun d S => ∃ i, d = .int i ∧ QO (some i) S) : Ok (mPart a σ S) QO := k_bind (h.imp fun d S h => by
  obtain ⟨i, rfl, h⟩ := h
  exact k_ok h)
/-! targets -/
theorem k_gname {i : Nat} {d : D} (h : ∀ σ', σ.set i (some d) = σ' → QG σ' S) : Ok (gtName i d σ S) QG := ⟨_, _, rfl, h _ rfl⟩
theorem k_gnil (h : QG σ S) : Ok (gtNil [] σ S) QG := ⟨_, _, rfl, h⟩
theorem k_gcons {f : D → DSt → Store → Res DSt} {g : List D → DSt → Store → Res DSt} {d : D} {ds : List D} (h : Ok (f d σ S) fun σ S => Ok (g ds σ S) QG) : Ok (gtCons f g (d :: ds) σ S) QG := by
  rw [e_gcons]
  exact k_bindG h
theorem k_gtup {n : Nat} {g : List D → DSt → Store → Res DSt} {ds : List D} (hn : ds.length = n) (h : Ok (g ds σ S) QG) : Ok (gtTup n g (.tup ds) σ S) QG := by
  rw [e_gtup]
  exact k_if hn h
theorem k_gktp {n : Nat} {g : List D → DSt → Store → Res DSt} {ds : List D} (hn : ds.length = n) (h : Ok (g ds σ S) QG) : Ok (gtTup n g (.ktp ds) σ S) QG := by
  rw [e_gktp]
  exact k_if hn h
theorem k_gsub {f : D → D → D → Store → Res Unit} {d : D} (h : Ok (a σ S) fun o S => Ok (b σ S) fun i S => Ok (f o i d S) fun _ S => QG σ S) : Ok (gtSub a b f d σ S) QG := by
  rw [e_gsub]
  exact k_bindG (h.imp fun o S h => k_bindG (h.imp fun i S h => k_bindG (h.imp fun _ S h => k_ok h)))
/-! what is walked over -/
theorem k_seqi (h : Ok (a σ S) fun d S => ∃ s, seqSrc d S = some s ∧ QS s S) : Ok (mSeqI a σ S) QS := by
  rw [e_seqi]
  exact k_bind (h.imp fun d S h => by
    obtain ⟨s, e, h⟩ := h
    rw [e]; exact k_ok h)
theorem k_rng1 (h : Ok (ms σ S) fun ds S => ∃ (i : Int) (n : Nat), ds = [.int i] ∧ i = (n : Int) ∧ n ≤ 16777216 ∧ QS ⟨(List.range n).map fun k : Nat => D.int k, []⟩ S) : Ok (mRng1 ms σ S) QS := by
  rw [e_rng1]
  refine k_bind (h.imp fun ds S h => ?_)
  obtain ⟨i, n, rfl, rfl, h1, h2⟩ := h
  refine k_eq (rng1K_nat (by rw [size_eq]; exact h1)) ?_
  simpa [rangeD] using h2
theorem k_rng2 (h : Ok (ms σ S) fun ds S => ∃ (i j : Int) (n : Nat), ds = [.int i, .int j] ∧ (j - i).toNat = n ∧ (-(2 ^ 62) ≤ i ∧ i < 2 ^ 62 ∧ -(2 ^ 62) ≤ j ∧ j < 2 ^ 62) ∧ n ≤ 16777216 ∧ QS ⟨(List.range n).map fun k : Nat => D.int (i + k), []⟩ S) : Ok (mRng2 ms σ S) QS := by
  rw [e_rng2]
  refine k_bind (h.imp fun ds S h => ?_)
  obtain ⟨i, j, n, rfl, rfl, ⟨h1, h2, h3, h4⟩, h5, h6⟩ := h
  refine k_eq (rng2K_int ⟨h1, h2, h3, h4, by rw [size_eq]; exact h5⟩) ?_
  simpa [rangeD] using h6
theorem enumD_eq : ∀ (k : Nat) (ds : List D), enumD k ds = (ds.zipIdx k).map fun p : D × Nat => D.tup [.int p.2, p.1]
  | _, [] => rfl
  | k, d :: ds => by simp [enumD, enumD_eq (k + 1) ds]
theorem k_enum (h : Ok (ms σ S) fun ds S => ∃ d s, ds = [d] ∧ lstSrc d S = some s ∧ QS ⟨(s.items.zipIdx).map fun p : D × Nat => D.tup [.int p.2, p.1], s.guard⟩ S) : Ok (mEnum ms σ S) QS := by
  rw [e_enum]
  refine k_bind (h.imp fun ds S h => ?_)
  obtain ⟨d, s, rfl, e, h⟩ := h
  refine k_eq (x := ⟨enumD 0 s.items, s.guard⟩) (S := S) (by simp only [enumK, e]) ?_
  rw [enumD_eq]
  exact h
theorem zipD_eq : ∀ ds es : List D, zipD ds es = (ds.zip es).map fun p : D × D => D.tup [p.1, p.2]
  | [], _ => by cases ‹List D› <;> rfl
  | _ :: _, [] => rfl
  | d :: ds, e :: es => by simp [zipD, zipD_eq ds es]
theorem k_zipT (h : Ok (ms σ S) fun ds S => ∃ a b, ds = [.tup a, .tup b] ∧ QS ⟨(a.zip b).map fun p : D × D => D.tup [p.1, p.2], []⟩ S) : Ok (mZip ms σ S) QS := by
  rw [e_zip]
  refine k_bind (h.imp fun ds S h => ?_)
  obtain ⟨d, s, rfl, h⟩ := h
  exact k_eq zipK_tup (by rw [zipD_eq]; exact h)
theorem k_zipL (h : Ok (ms σ S) fun ds S => ∃ a b s t, ds = [a, b] ∧ lstSrc a S = some s ∧ lstSrc b S = some t ∧ QS ⟨(s.items.zip t.items).map fun p : D × D => D.tup [p.1, p.2], s.guard ++ t.guard⟩ S) : Ok (mZip ms σ S) QS := by
  rw [e_zip]
  refine k_bind (h.imp fun ds S h => ?_)
  obtain ⟨d, d', s, t, rfl, e1, e2, h⟩ := h
  exact k_eq (x := ⟨zipD s.items t.items, s.guard ++ t.guard⟩) (S := S) (by simp only [zipK, e1, e2]) (by rw [zipD_eq]; exact h)
/-! loops -/
theorem den_ok {n : Nat} {m : DSt → Store → Res Fl} {ds : List D} {P : D → Store → Prop} (e : ds.map some ++ List.replicate (n - ds.length) none = σ) (h : Wf (m σ S) (fun _ S => P .non S) P (fun _ _ => False) (fun _ _ => False)) : Ok (denOf n m ds S) P := by
  subst e
  rw [den_eq]
  revert h
  cases m (ds.map some ++ List.replicate (n - ds.length) none) S with
  | ok fl S1 => cases fl with
    | nx σ => exact fun h => ⟨_, _, rfl, h⟩
    | rt d => exact fun h => ⟨_, _, rfl, h⟩
    | ex _ _ _ => exact fun h => h.elim
    | _ => exact fun h => h.elim
  | _ => exact fun h => h.elim
/-- a def that may raise -/
theorem den_okX {n : Nat} {m : DSt → Store → Res Fl} {ds : List D} {P : D → Store → Prop} (e : ds.map some ++ List.replicate (n - ds.length) none = σ) (h : WfX E (m σ S) (fun _ S => P .non S) P (fun _ _ => False) (fun _ _ => False)) : (∃ d S', denOf n m ds S = .ok d S' ∧ P d S') ∨ ∃ c fs S', denOf n m ds S = .exc c fs S' ∧ E c fs S' := by
  subst e
  unfold denOf
  revert h
  cases m (ds.map some ++ List.replicate (n - ds.length) none) S with
  | ok fl S1 => cases fl with
    | nx σ => exact fun h => .inl ⟨_, _, rfl, h⟩
    | rt d => exact fun h => .inl ⟨_, _, rfl, h⟩
    | ex c fs σ =>
      intro h
      exact .inr ⟨_, _, _, rfl, h⟩
    | _ => exact fun h => h.elim
  | _ => exact fun h => h.elim
/-- a loop by what holds between its turns -/
theorem w_loop {gd : List (Nat × Ob)} {g : D → DSt → Store → Res DSt} {b : DSt → Store → Res Fl} {ds : List D} (I : Nat → DSt → Store → Prop) (h0 : I 0 σ S) (hg : ∀ j σ S, I j σ S → gOk gd S)
    (hs : ∀ j d σ S, ds[j]? = some d → I j σ S → Ok (g d σ S) fun σ S => Wf (b σ S) (I (j + 1)) R N (I (j + 1))) (he : ∀ σ S, I ds.length σ S → N σ S) : WfX E (forGo gd g b ds σ S) N R B C := by
  have h := forGo_ok (gd := gd) (g := g) (b := b) I N R ds 0 h0 hg (fun j d σ S hd hi => by
    rw [Nat.zero_add] at hi ⊢
    obtain ⟨σ1, S1, e, q⟩ := hs j d σ S hd hi
    rw [e, bindG_ok]
    revert q
    cases b σ1 S1 with
    | ok fl S2 => cases fl with
      | ex _ _ _ => exact fun q => q.elim
      | _ => exact fun q => ⟨_, _, rfl, q⟩
    | _ => exact fun q => q.elim) (fun σ S hi => he σ S (by rwa [Nat.zero_add] at hi))
  obtain ⟨fl, S1, e, q⟩ := h
  rw [e]
  cases fl with
  | nx _ => exact q
  | rt _ => exact q
  | _ => exact q.elim
/-- the same, the things one by one -/
theorem w_each {gd : List (Nat × Ob)} {γ : Type} {xs : List γ} {f : γ → D} {g : D → DSt → Store → Res DSt} {b : DSt → Store → Res Fl} (I : List γ → DSt → Store → Prop) (h0 : I [] σ S) (hg : ∀ l σ S, I l σ S → gOk gd S)
    (hs : ∀ l x r σ S, xs = l ++ x :: r → I l σ S → Ok (g (f x) σ S) fun σ S => Wf (b σ S) (I (l ++ [x])) R N (I (l ++ [x]))) (he : ∀ σ S, I xs σ S → N σ S) : WfX E (forGo gd g b (xs.map f) σ S) N R B C := by
  refine w_loop (fun j σ S => I (xs.take j) σ S) h0 (fun j => hg _) (fun j d σ S hd hi => ?_) (fun σ S h => he σ S (by simpa using h))
  obtain ⟨hj, e⟩ := List.getElem?_eq_some_iff.mp hd
  rw [List.length_map] at hj
  rw [List.getElem_map] at e
  subst e
  have e2 : xs.take (j + 1) = xs.take j ++ [xs[j]] := by rw [List.take_succ, List.getElem?_eq_getElem hj]; rfl
  rw [e2]
  refine hs (xs.take j) xs[j] (xs.drop (j + 1)) σ S ?_ hi
  rw [← List.drop_eq_getElem_cons hj, List.take_append_drop]
/-- a comprehension by what holds between its turns -/
theorem k_lcI {gd : List (Nat × Ob)} {g : D → DSt → Store → Res DSt} {ds : List D} (I : Nat → Store → List D → Prop) (h0 : I 0 S []) (hg : ∀ j S acc, I j S acc → gOk gd S)
    (hs : ∀ j d S acc, ds[j]? = some d → I j S acc → Ok (g d σ S) fun σ S => Ok (ta σ S) fun t S => Br t (Ok (a σ S) fun y S => I (j + 1) S (acc ++ [y])) (I (j + 1) S acc)) (he : ∀ ys S, I ds.length S ys → QL ys S) : Ok (lcGo gd g ta a σ ds S) QL := by
  refine (lcGo_ok (gd := gd) I ds 0 [] h0 hg (fun j d S acc hd hi => ?_)).imp fun ys S' h => he ys S' (by simpa using h)
  rw [Nat.zero_add] at hi ⊢
  refine k_bindG ((hs j d S acc hd hi).imp fun σ1 S1 h => k_bindG (h.imp fun t S2 h => ?_))
  cases t with
  | true => exact k_bindG (Ok.imp (show Ok (a σ1 S2) _ from h) fun y S3 h => k_ok h)
  | false =>
    have h : I (j + 1) S2 acc := h
    exact k_ok (by simpa using h)
/-- one that leaves all as it was -/
theorem k_lcP {gd : List (Nat × Ob)} {γ : Type} {xs : List γ} {f : γ → D} {g : D → DSt → Store → Res DSt} (p : γ → Bool) (h : γ → D) (hg : gOk gd S)
    (hs : ∀ x ∈ xs, Ok (g (f x) σ S) fun σ S' => Ok (ta σ S') fun t S' => t = p x ∧ Br (p x) (Ok (a σ S') fun y S' => y = h x ∧ S' = S) (S' = S)) (he : QL ((xs.filter p).map h) S) : Ok (lcGo gd g ta a σ (xs.map f) S) QL := by
  refine k_lcI (fun j S' acc => S' = S ∧ acc = ((xs.take j).filter p).map h) ⟨rfl, rfl⟩ (fun _ _ _ h => by rw [h.1]; exact hg) (fun j d S' acc hd hi => ?_) (fun ys S' h => by
    obtain ⟨rfl, rfl⟩ := h
    simpa using he)
  obtain ⟨rfl, rfl⟩ := hi
  obtain ⟨hj, e⟩ := List.getElem?_eq_some_iff.mp hd
  rw [List.length_map] at hj
  rw [List.getElem_map] at e
  subst e
  have e2 : xs.take (j + 1) = xs.take j ++ [xs[j]] := by rw [List.take_succ, List.getElem?_eq_getElem hj]; rfl
  refine (hs xs[j] (List.getElem_mem hj)).imp fun σ1 S1 h1 => h1.imp fun t S2 h2 => ?_
  obtain ⟨rfl, h2⟩ := h2
  cases hp : p xs[j] with
  | true =>
    rw [hp] at h2
    refine Ok.imp (show Ok (a σ1 S2) _ from h2) fun y S3 h3 => ?_
    obtain ⟨rfl, rfl⟩ := h3
    refine ⟨rfl, ?_⟩
    rw [e2, List.filter_append, List.map_append, List.filter_cons_of_pos hp]
    rfl
  | false =>
    rw [hp] at h2
    have : S2 = S' := h2
    refine ⟨this, ?_⟩
    rw [e2, List.filter_append, List.filter_cons_of_neg (by rw [hp]; exact Bool.false_ne_true), List.filter_nil, List.append_nil]
/-- without an if -/
theorem k_lcM1 {gd : List (Nat × Ob)} {γ : Type} {xs : List γ} {f : γ → D} {g : D → DSt → Store → Res DSt} (h : γ → D) (hg : gOk gd S)
    (hs : ∀ x ∈ xs, Ok (g (f x) σ S) fun σ S' => Ok (a σ S') fun y S' => y = h x ∧ S' = S) (he : QL (xs.map h) S) : Ok (lcGo gd g (fun _ S => .ok true S) a σ (xs.map f) S) QL := by
  refine k_lcP (fun _ => true) h hg (fun x hx => (hs x hx).imp fun σ1 S1 h1 => k_ok ⟨rfl, h1⟩) ?_
  rw [List.filter_eq_self.mpr (by simp)]
  exact he
end
/-! ### single steps at values -/
section
variable {S : Store} {Q : D → Store → Prop} {i j : Int} {ds es : List D} {d e : D} {x y : Str} {l k n : Nat} {la lb : List Nat}
theorem p_add (h : Q (.int (i + j)) S) : Ok (addD (.int i) (.int j) S) Q := k_eq e_add h
theorem p_addS (hl : la.length + lb.length ≤ 16777216) (h : Q (.str (tx (la ++ lb))) S) : Ok (addD (.str (tx la)) (.str (tx lb)) S) Q := k_eq (addTK hl) h
theorem p_addT (hl : ds.length + es.length ≤ 16777216) (h : Q (.tup (ds ++ es)) S) : Ok (addD (.tup ds) (.tup es) S) Q := by rw [e_addT]; exact k_if (by rw [size_eq]; exact hl) (k_ok h)
theorem p_addL (hl : ds.length + es.length ≤ 16777216) (h : Q (.lst (ds ++ es)) S) : Ok (addD (.lst ds) (.lst es) S) Q := by rw [e_addL]; exact k_if (by rw [size_eq]; exact hl) (k_ok h)
theorem p_addM (hl : ds.length + es.length ≤ 16777216) (h : Q (.loc S.length) (S ++ [.lst (ds ++ es)])) : Ok (addMD (.lst ds) (.lst es) S) Q := by
  have e : addMD (.lst ds) (.lst es) S = if ds.length + es.length ≤ sizeLine then .ok (.loc S.length) (S ++ [.lst (ds ++ es)]) else .stuck := rfl
  rw [e]; exact k_if (by rw [size_eq]; exact hl) (k_ok h)
theorem p_addLO (e1 : S[l]? = some (.lst ds)) (hl : ds.length + es.length ≤ 16777216) (h : Q (.lst (ds ++ es)) S) : Ok (addD (.loc l) (.lst es) S) Q := by
  have e : addD (.loc l) (.lst es) S = match exL S (.loc l), exL S (.lst es) with
    | some a, some b => if a.length + b.length ≤ sizeLine then .ok (.lst (a ++ b)) S else .stuck
    | _, _ => .stuck := rfl
  have h1 : exL S (.loc l) = some ds := by simp [exL, e1]
  have h2 : exL S (.lst es) = some es := rfl
  rw [e, h1, h2]
  exact k_if (by rw [size_eq]; exact hl) (k_ok h)
theorem p_sub (h : Q (.int (i - j)) S) : Ok (subD (.int i) (.int j) S) Q := k_eq e_sub h
theorem p_mulR (h1 : -(2 ^ 64) < j) (h2 : j < 2 ^ 64) (h : Q (.int (i * j)) S) : Ok (mulX (.int i) (.int j) S) Q := by rw [e_mul]; exact k_if (.inl (.inr ⟨h1, h2⟩)) (k_ok h)
theorem p_mulL (h1 : -(2 ^ 64) < i) (h2 : i < 2 ^ 64) (h : Q (.int (i * j)) S) : Ok (mulX (.int i) (.int j) S) Q := by rw [e_mul]; exact k_if (.inl (.inl ⟨h1, h2⟩)) (k_ok h)
theorem p_mulW (hc : CMul i j ∨ CMulW i j) (h : Q (.int (i * j)) S) : Ok (mulX (.int i) (.int j) S) Q := by rw [e_mul]; exact k_if hc (k_ok h)
theorem p_fdiv (h1 : 0 < j) (h2 : j < 18446744073709551616) (h : Q (.int (i / j)) S) : Ok (fdivD (.int i) (.int j) S) Q := by rw [e_fdiv]; exact k_if (divOk h1 h2) (k_ok h)
theorem p_mod (h1 : 0 < j) (h : Q (.int (i % j)) S) : Ok (modD (.int i) (.int j) S) Q := by rw [e_mod]; exact k_if h1 (k_ok h)
theorem p_lt (h : Q (.bl (decide (i < j))) S) : Ok (ltD (.int i) (.int j) S) Q := k_eq e_lt h
theorem p_ltS (h : Q (.bl (decide (la < lb))) S) : Ok (ltD (.str (tx la)) (.str (tx lb)) S) Q := ⟨_, _, rfl, h⟩
theorem p_cmp {p : Int → Int → Bool} (h : Q (.bl (p i j)) S) : Ok (cmpI p (.int i) (.int j) S) Q := ⟨_, _, rfl, h⟩
theorem p_eqI {b : Bool} (h : Q (.bl (xor b (decide (i = j)))) S) : Ok (eqD b (.int i) (.int j) S) Q := k_eq (e_eqI b) h
theorem p_isN {b : Bool} (h : Q (.bl (!b)) S) : Ok (isND b .non .non S) Q := by cases b <;> exact ⟨_, _, rfl, h⟩
theorem p_ixT (e : atI ds i = some d) (h : Q d S) : Ok (ixD (.tup ds) (.int i) S) Q := by rw [e_ix_tup, e]; exact k_ok h
theorem p_ixL (e : atI ds i = some d) (h : Q d S) : Ok (ixD (.lst ds) (.int i) S) Q := by rw [e_ix_lst, e]; exact k_ok h
theorem p_ixF (e : atI ds i = some d) (h : Q d S) : Ok (ixD (.frz ds) (.int i) S) Q := by rw [e_ix_frz, e]; exact k_ok h
theorem p_ixO (e1 : S[l]? = some (.lst ds)) (e : atI ds i = some d) (h : Q d S) : Ok (ixD (.loc l) (.int i) S) Q := by rw [e_ix_loc e1, e]; exact k_ok h
theorem p_ixTm {α : Type} {xs : List α} {f : α → D} {x : α} (e : xs[k]? = some x) (h : Q (f x) S) : Ok (ixD (.tup (xs.map f)) (.int (k : Nat)) S) Q := p_ixT (by rw [atI_nat, List.getElem?_map, e]; rfl) h
theorem p_ixLm {α : Type} {xs : List α} {f : α → D} {x : α} (e : xs[k]? = some x) (h : Q (f x) S) : Ok (ixD (.lst (xs.map f)) (.int (k : Nat)) S) Q := p_ixL (by rw [atI_nat, List.getElem?_map, e]; rfl) h
theorem p_ixFm {α : Type} {xs : List α} {f : α → D} {x : α} (e : xs[k]? = some x) (h : Q (f x) S) : Ok (ixD (.frz (xs.map f)) (.int (k : Nat)) S) Q := p_ixF (by rw [atI_nat, List.getElem?_map, e]; rfl) h
theorem p_ixS {c : Nat} (hl : la.length ≤ 16777216) (e : atI la i = some c) (h : Q (.str (tx [c])) S) : Ok (ixD (.str (tx la)) (.int i) S) Q := by
  rw [e_ix_str, if_pos (by rw [tx_len, size_eq]; exact hl), tx_cps, e]
  exact k_ok h
theorem p_slT {lo hi : Option Int} (h : Q (.tup (L3.cut ds lo hi)) S) : Ok (sliceD (.tup ds) lo hi S) Q := k_eq (e_sl_tup lo hi) h
theorem p_slL {lo hi : Option Int} (h : Q (.lst (L3.cut ds lo hi)) S) : Ok (sliceD (.lst ds) lo hi S) Q := k_eq (e_sl_lst lo hi) h
theorem p_slF {lo hi : Option Int} (h : Q (.lst (L3.cut ds lo hi)) S) : Ok (sliceD (.frz ds) lo hi S) Q := k_eq (e_sl_frz lo hi) h
theorem p_slS {lo hi : Option Int} (hl : la.length ≤ 16777216) (h : Q (.str (cutS (tx la) lo hi)) S) : Ok (sliceD (.str (tx la)) lo hi S) Q := by
  rw [e_sl_str]; exact k_if (by rw [tx_len, size_eq]; exact hl) (k_ok h)
theorem p_lenT (h : Q (.int ds.length) S) : Ok (lenD [.tup ds] S) Q := ⟨_, _, rfl, h⟩
theorem p_lenL (h : Q (.int ds.length) S) : Ok (lenD [.lst ds] S) Q := ⟨_, _, rfl, h⟩
theorem p_lenF (h : Q (.int ds.length) S) : Ok (lenD [.frz ds] S) Q := ⟨_, _, rfl, h⟩
theorem p_lenK (h : Q (.int ds.length) S) : Ok (lenD [.ktp ds] S) Q := ⟨_, _, rfl, h⟩
theorem p_lenS (hl : la.length ≤ 16777216) (h : Q (.int la.length) S) : Ok (lenD [.str (tx la)] S) Q := by
  rw [e_len_str]; exact k_if (by rw [tx_len, size_eq]; exact hl) (k_ok (by rw [tx_len]; exact h))
theorem p_lenO (e : S[l]? = some (.lst ds)) (h : Q (.int ds.length) S) : Ok (lenD [.loc l] S) Q := k_eq (e_len_loc e) h
theorem p_abs (h : Q (.int (if i < 0 then -i else i)) S) : Ok (absD [.int i] S) Q := ⟨_, _, rfl, h⟩
theorem p_max2 (h : Q (.int (if j > i then j else i)) S) : Ok (max2D [.int i, .int j] S) Q := ⟨_, _, rfl, h⟩
theorem p_min2 (h : Q (.int (if j < i then j else i)) S) : Ok (min2D [.int i, .int j] S) Q := ⟨_, _, rfl, h⟩
theorem p_int (h : Q (.int i) S) : Ok (intD [.int i] S) Q := ⟨_, _, rfl, h⟩
theorem p_intB {b : Bool} (h : Q (.int (if b = true then 1 else 0)) S) : Ok (intD [.bl b] S) Q := ⟨_, _, rfl, h⟩
theorem p_tupL (h : Q (.tup ds) S) : Ok (tupleD [.lst ds] S) Q := ⟨_, _, rfl, h⟩
theorem p_tupT (h : Q (.tup ds) S) : Ok (tupleD [.tup ds] S) Q := ⟨_, _, rfl, h⟩
theorem p_tupF (h : Q (.tup ds) S) : Ok (tupleD [.frz ds] S) Q := ⟨_, _, rfl, h⟩
theorem p_tupO (e : S[l]? = some (.lst ds)) (h : Q (.tup ds) S) : Ok (tupleD [.loc l] S) Q := k_eq (e_tuple_loc e) h
theorem p_listL (h : Q (.lst ds) S) : Ok (listD false [.lst ds] S) Q := ⟨_, _, rfl, h⟩
theorem p_listT (h : Q (.lst ds) S) : Ok (listD false [.tup ds] S) Q := ⟨_, _, rfl, h⟩
theorem p_listF (h : Q (.lst ds) S) : Ok (listD false [.frz ds] S) Q := ⟨_, _, rfl, h⟩
theorem p_app (e1 : S[l]? = some (.lst ds)) (hl : ds.length < 16777216) (h : ∀ S', S.set l (.lst (ds ++ [d])) = S' → Q .non S') : Ok (appendD (.loc l) [d] S) Q := k_eq (e_append e1 (by rw [size_eq]; exact hl)) (h _ rfl)
theorem p_extL (e1 : S[l]? = some (.lst ds)) (hl : ds.length + es.length ≤ 16777216) (h : ∀ S', S.set l (.lst (ds ++ es)) = S' → Q .non S') : Ok (extendD (.loc l) [.lst es] S) Q := by
  have : extendD (.loc l) [.lst es] S = if ds.length + es.length ≤ sizeLine then .ok .non (S.set l (.lst (ds ++ es))) else .stuck := by simp only [extendD, mutL, e1, exL]
  rw [this]
  exact k_if (by rw [size_eq]; exact hl) (k_ok (h _ rfl))
theorem p_pop (e1 : S[l]? = some (.lst (ds ++ [d]))) (h : ∀ S', S.set l (.lst ds) = S' → Q d S') : Ok (popD (.loc l) [] S) Q := by
  have : popD (.loc l) [] S = .ok d (S.set l (.lst ds)) := by simp [popD, mutL, e1]
  exact k_eq this (h _ rfl)
theorem p_setL (e1 : S[l]? = some (.lst ds)) (hk : ixN ds.length i = some k) {Q : Unit → Store → Prop} (h : ∀ S', S.set l (.lst (ds.set k d)) = S' → Q () S') : Ok (setD (.loc l) (.int i) d S) Q := k_eq (set_loc e1 hk) (h _ rfl)
theorem p_setT {kvs : List (List Key × D)} {ks : List D} {key : List Key} (e1 : S[l]? = some (.dT kvs)) (hk : keysOf ks = some key) (hl : kvs.length < 16777216) {Q : Unit → Store → Prop} (h : ∀ S', S.set l (.dT (putD kvs key d)) = S' → Q () S') : Ok (setD (.loc l) (.tup ks) d S) Q := by
  have : setD (.loc l) (.tup ks) d S = .ok () (S.set l (.dT (putD kvs key d))) := by
    simp only [setD, e1, hk]
    rw [if_pos (by rw [size_eq]; exact hl)]
  exact k_eq this (h _ rfl)
end
/-! ### stores and slots: what is seen of them -/
theorem st_get {S t : Store} {n k : Nat} (h : S.length = n) : (S ++ t)[n + k]? = t[k]? := by
  subst h
  rw [List.getElem?_append_right (by omega)]
  congr 1
  omega
theorem st_get0 {S t : Store} {n : Nat} (h : S.length = n) : (S ++ t)[n]? = t[0]? := st_get (k := 0) h
theorem st_set {S t : Store} {n k : Nat} {o : Ob} (h : S.length = n) : (S ++ t).set (n + k) o = S ++ t.set k o := by
  subst h
  rw [List.set_append_right _ _ (by omega)]
  congr 2
  omega
theorem st_set0 {S t : Store} {n : Nat} {o : Ob} (h : S.length = n) : (S ++ t).set n o = S ++ t.set 0 o := st_set (k := 0) h
/-! ### texts by their signs -/
theorem pm_strT {X : Cx} {W : XW} {i : Str} {l : List Nat} {j pos} (e : i = tx l) : PM X W (.Constant (.str i) j pos) (mC (.str (tx l))) := e ▸ pm_str
theorem pm_gstrT {X : Cx} {W : XW} {x s : Str} {l : List Nat} {ps : Pos} (e : s = tx l) (hg : Gl X x) (h : ∃ t, X.mg x = some (.str s t)) (hd : (x == ("__debug__" : Str)) = false := by decide) : PM X W (.Name x ps) (mC (.str (tx l))) := by
  subst e
  exact pm_gstr hg h hd
end L3
namespace L3
open PySem PySem.Spec L2
/-! ### rows of whole numbers in order -/
def it (l : List Int) : D := .tup (l.map D.int)
def ile (a b : List Int) : Bool := decide (a ≤ b)
theorem ile_trans (a b c : List Int) (h : ile a b = true) (h' : ile b c = true) : ile a c = true := by
  simp only [ile, decide_eq_true_eq] at *
  exact List.le_trans h h'
theorem ile_total (a b : List Int) : (ile a b || ile b a) = true := by
  simp only [ile, Bool.or_eq_true, decide_eq_true_eq]
  exact List.le_total a b
theorem ile_anti (a b : List Int) (h : ile a b = true) (h' : ile b a = true) : a = b := by
  simp only [ile, decide_eq_true_eq] at *
  exact List.le_antisymm h h'
section
variable {β : Type} (f : β → List Int)
def sortBy (xs : List β) : List β := xs.mergeSort fun a b => ile (f a) (f b)
theorem sortBy_perm (xs : List β) : (sortBy f xs).Perm xs := List.mergeSort_perm _ _
theorem sortBy_le (xs : List β) : (sortBy f xs).Pairwise fun a b => ile (f a) (f b) = true :=
  List.pairwise_mergeSort (le := fun a b => ile (f a) (f b)) (fun a b c => ile_trans (f a) (f b) (f c)) (fun a b => ile_total (f a) (f b)) xs
theorem sortBy_id {xs : List β} (h : xs.Pairwise fun a b => ile (f a) (f b) = true) : sortBy f xs = xs := List.mergeSort_of_pairwise h
theorem sortBy_eq {xs ys : List β} (hi : ∀ a ∈ xs, ∀ b ∈ xs, f a = f b → a = b) (h : xs.Perm ys) : sortBy f xs = sortBy f ys := by
  have p1 := sortBy_perm f xs
  have p2 := sortBy_perm f ys
  refine List.Perm.eq_of_pairwise (le := fun a b => ile (f a) (f b) = true) (fun a b ha hb h1 h2 => ?_) (sortBy_le f xs) (sortBy_le f ys) (p1.trans (h.trans p2.symm))
  exact hi a (p1.mem_iff.mp ha) b (h.mem_iff.mpr (p2.mem_iff.mp hb)) (ile_anti _ _ h1 h2)
theorem sortBy_of {xs ys : List β} (hi : ∀ a ∈ xs, ∀ b ∈ xs, f a = f b → a = b) (h : xs.Perm ys) (hs : ys.Pairwise fun a b => ile (f a) (f b) = true) : sortBy f xs = ys := by
  rw [sortBy_eq f hi h, sortBy_id f hs]
theorem sortBy_mem {xs : List β} {x : β} : x ∈ sortBy f xs ↔ x ∈ xs := (sortBy_perm f xs).mem_iff
theorem sortBy_len (xs : List β) : (sortBy f xs).length = xs.length := (sortBy_perm f xs).length_eq
end
theorem toks_ints (xs ys : List Int) : PySem.W.rowLt (xs.map PyData.int) (ys.map PyData.int) = decide (xs < ys) := PySem.W.dataLt_ints xs ys
theorem enc_it (l : List Int) : encD (it l) = .tuple (l.map PyData.int) := by
  simp only [encD, it, toPy, toPys_ints]
  rfl
theorem dLe_it (a b : List Int) : dLe (it a) (it b) = ile a b := by
  have e : dLe (it a) (it b) = !PySem.W.dataLt (encD (it b)) (encD (it a)) := by
    unfold dLe
    rw [PySem.W.dataLe_eq]
    rfl
  rw [e, enc_it, enc_it, PySem.W.dataLt_tuple]
  show (!PySem.W.rowLt (b.map PyData.int) (a.map PyData.int)) = _
  rw [toks_ints]
  unfold ile
  by_cases h : b < a
  · have h' : ¬ a ≤ b := fun r => List.not_lt.mpr r h
    simp [h, h']
  · have h' : a ≤ b := List.not_lt.mp h
    simp [h, h']
theorem alike_ints : ∀ xs ys : List Int, PySem.W.alikeAll (xs.map PyData.int) (ys.map PyData.int) = true
  | [], _ => by simp [PySem.W.alikeAll]
  | _ :: _, [] => by simp [PySem.W.alikeAll]
  | x :: xs, y :: ys => by simp [PySem.W.alikeAll, PySem.W.alike, alike_ints xs ys]
theorem srt_it {xs : List (List Int)} (h : ∀ x ∈ xs, x ≠ []) : Srt (xs.map it) := by
  have hp : ∀ l : List Int, toPy (it l) = some (.tuple (l.map PyData.int)) := fun l => by simp only [it, toPy, toPys_ints]; rfl
  refine ⟨⟨_, toPys_map hp xs⟩, ?_, .inl fun d hd => ?_, fun d hd => ?_⟩
  · rw [List.map_map]
    exact PySem.W.AllAlike.of (enc := encD ∘ it) fun a b => by
      simp only [Function.comp, enc_it, PySem.W.alike]
      exact alike_ints a b
  · rw [List.map_map] at hd
    obtain ⟨l, hl, rfl⟩ := List.mem_map.mp hd
    simp only [Function.comp, enc_it]
    cases l with
    | nil => exact absurd rfl (h _ hl)
    | cons a r => exact ⟨_, _, rfl⟩
  · obtain ⟨l, hl, rfl⟩ := List.mem_map.mp hd
    rw [enc_it]
    simp [PyData.depth, depth_ints]
theorem sorted_it {β : Type} (f : β → List Int) {xs : List β} {S : Store} (h : ∀ x ∈ xs, f x ≠ []) (hl : xs.length ≤ 16777216) : sortedD [.lst (xs.map fun x => it (f x))] S = .ok (.lst ((sortBy f xs).map fun x => it (f x))) S := by
  have e : (xs.map fun x => it (f x)) = (xs.map f).map it := by rw [List.map_map]; rfl
  rw [sortedK (by rw [e]; exact srt_it fun x hx => by obtain ⟨y, hy, rfl⟩ := List.mem_map.mp hx; exact h y hy) (by simpa using hl)]
  unfold sortBy
  rw [List.map_mergeSort (f := fun x => it (f x)) (r := fun a b => ile (f a) (f b)) (s := dLe) (fun a _ b _ => (dLe_it (f a) (f b)).symm)]
/-! ### tiles, and dicts from places to numbers -/
abbrev Tl := Int × Int × Int
def tk (t : Tl) : List Int := [t.1, t.2.1, t.2.2]
abbrev tl (t : Tl) : D := .tup [.int t.1, .int t.2.1, .int t.2.2]
theorem tk_inj {a b : Tl} (h : tk a = tk b) : a = b := by
  rcases a with ⟨x, y, z⟩
  rcases b with ⟨x', y', z'⟩
  simp [tk] at h
  simp [h]
def sortT (xs : List Tl) : List Tl := sortBy tk xs
theorem sorted_tl {xs : List Tl} {S : Store} (hl : xs.length ≤ 16777216) : sortedD [.lst (xs.map tl)] S = .ok (.lst ((sortT xs).map tl)) S := sorted_it tk (fun _ _ => by simp [tk]) hl
theorem sortT_eq {xs ys : List Tl} (h : xs.Perm ys) : sortT xs = sortT ys := sortBy_eq tk (fun _ _ _ _ => tk_inj) h
theorem sortT_mem {xs : List Tl} {t : Tl} : t ∈ sortT xs ↔ t ∈ xs := sortBy_mem tk
theorem sortT_len (xs : List Tl) : (sortT xs).length = xs.length := sortBy_len tk xs
theorem sortT_idem (xs : List Tl) : sortT (sortT xs) = sortT xs := sortBy_id tk (sortBy_le tk xs)
abbrev Pl := Int × Int
def pk (q : Pl) : List Key := [.inl q.1, .inl q.2]
abbrev pl (q : Pl) : D := .tup [.int q.1, .int q.2]
theorem pk_inj {a b : Pl} (h : pk a = pk b) : a = b := by
  rcases a with ⟨x, y⟩
  rcases b with ⟨x', y'⟩
  simp [pk] at h
  simp [h]
/-- a dict from places to whole numbers -/
abbrev Mp := List (Pl × Int)
def mpD (m : Mp) : List (List Key × D) := m.map fun q => (pk q.1, .int q.2)
def Mp.get (m : Mp) (q : Pl) : Option Int := (m.find? fun e => decide (e.1 = q)).map (·.2)
def Mp.put (m : Mp) (q : Pl) (k : Int) : Mp := if m.any (fun e => decide (e.1 = q)) = true then m.map (fun e => if e.1 = q then (e.1, k) else e) else m ++ [(q, k)]
theorem mpD_look (q : Pl) : ∀ m : Mp, lookK (mpD m) (pk q) = (m.get q).map D.int
  | [] => rfl
  | e :: m => by
    show lookK ((pk e.1, D.int e.2) :: mpD m) (pk q) = _
    rw [lookK_cons, mpD_look q m]
    unfold Mp.get
    rw [List.find?_cons]
    by_cases h : e.1 = q
    · simp [h]
    · have h' : ¬ pk e.1 = pk q := fun z => h (pk_inj z)
      simp [h, h']
theorem mpD_put (m : Mp) (q : Pl) (k : Int) : putD (mpD m) (pk q) (.int k) = mpD (m.put q k) := by
  unfold putD Mp.put
  have e : ((mpD m).any fun kv => decide (kv.1 = pk q)) = m.any fun e => decide (e.1 = q) := by
    unfold mpD
    rw [List.any_map]
    congr 1
    funext e
    simp only [Function.comp]
    by_cases h : e.1 = q
    · simp [h]
    · have h' : ¬ pk e.1 = pk q := fun z => h (pk_inj z)
      simp [h, h']
  rw [e]
  split
  · unfold mpD
    rw [List.map_map, List.map_map]
    refine List.map_congr_left fun e _ => ?_
    simp only [Function.comp]
    by_cases h : e.1 = q
    · simp [h]
    · have h' : ¬ pk e.1 = pk q := fun z => h (pk_inj z)
      simp [h, h']
  · simp [mpD]
theorem mpD_len (m : Mp) : (mpD m).length = m.length := by simp [mpD]
theorem Mp.put_len (m : Mp) (q : Pl) (k : Int) : (m.put q k).length ≤ m.length + 1 := by
  unfold Mp.put; split <;> simp
theorem Mp.put_keys (m : Mp) (q : Pl) (k : Int) : (m.put q k).map Prod.fst = if q ∈ m.map Prod.fst then m.map Prod.fst else m.map Prod.fst ++ [q] := by
  unfold Mp.put
  have e : (m.any (fun e => decide (e.1 = q)) = true) ↔ q ∈ m.map Prod.fst := by
    simp only [List.any_eq_true, decide_eq_true_eq, List.mem_map]
  by_cases h : q ∈ m.map Prod.fst
  · rw [if_pos (e.mpr h), if_pos h, List.map_map]
    refine List.map_congr_left fun e _ => ?_
    simp only [Function.comp]
    split <;> rfl
  · rw [if_neg (fun z => h (e.mp z)), if_neg h]
    simp
theorem Mp.put_nodup {m : Mp} (h : (m.map Prod.fst).Nodup) (q : Pl) (k : Int) : ((m.put q k).map Prod.fst).Nodup := by
  rw [Mp.put_keys]
  split
  · exact h
  · rename_i hq
    rw [List.nodup_append]
    exact ⟨h, by simp, fun a ha b hb => by rw [List.mem_singleton.mp hb]; exact fun z => hq (z ▸ ha)⟩
theorem Mp.put_all {m : Mp} {P : Pl × Int → Prop} (h : ∀ e ∈ m, P e) {q : Pl} {k : Int} (hn : P (q, k)) : ∀ e ∈ m.put q k, P e := fun e he => by
  unfold Mp.put at he
  split at he
  · obtain ⟨e', he', rfl⟩ := List.mem_map.mp he
    split
    · rename_i h1; rw [h1]; exact hn
    · exact h _ he'
  · rcases List.mem_append.mp he with he | he
    · exact h _ he
    · rw [List.mem_singleton.mp he]; exact hn
theorem keysD_pk (q : Pl) : keysD (pk q) = pl q := rfl
/-! ### texts -/
section
variable {S : Store} {Q : D → Store → Prop} {l : List Nat} {ls : List (List Nat)}
theorem p_join1 (hl : l.length ≤ 16777216) (h : Q (.str (tx l)) S) : Ok (joinD (.str (tx [])) [.lst (l.map fun c => D.str (tx [c]))] S) Q := k_eq (joinK hl) h
theorem p_mulS {n : Nat} (hl : n ≤ 16777216) {c : Nat} (h : Q (.str (tx (List.replicate n c))) S) : Ok (mulX (.str (tx [c])) (.int (n : Nat)) S) Q := k_eq (mulCK hl) h
theorem p_eqNil {b : Bool} {i : Nat} {ds : List D} (e : S[i]? = some (.lst ds)) (hp : D.pls 63 ds = true) (h : Q (.bl (xor b ds.isEmpty)) S) : Ok (eqD b (.loc i) (.lst []) S) Q := k_eq (eqNilL b e hp) h
theorem p_inLs {b : Bool} {i : Nat} {x : List Nat} {xs : List (List Nat)} (e : S[i]? = some (.lst (xs.map sd))) (hx : ∀ c ∈ x, c < 1114112) (hxs : ∀ y ∈ xs, ∀ c ∈ y, c < 1114112) (h : Q (.bl (xor b (decide (x ∈ xs)))) S) : Ok (inD b (.str (tx x)) (.loc i) S) Q := k_eq (inLs b e hx hxs) h
open Classical in
theorem p_eqP {b : Bool} {d e : D} (h1 : D.pl 64 d = true) (h2 : D.pl 64 e = true) (h : Q (.bl (xor b (decide (d = e)))) S) : Ok (eqD b d e S) Q := k_eq (eqP h1 h2) h
theorem p_eqS {b : Bool} {d : D} (h1 : D.pl 64 d = true) (h : Q (.bl (!b)) S) : Ok (eqD b d d S) Q := k_eq (eqSelf h1) h
end
theorem p_eqB {S : Store} {Q : D → Store → Prop} {b x y : Bool} (h : Q (.bl (xor b (decide (x = y)))) S) : Ok (eqD b (.bl x) (.bl y) S) Q := by
  refine k_eq (S := S) (x := .bl (xor b (decide (x = y)))) ?_ h
  rw [e_eqO, pyS_bl, pyS_bl, eqO_some (by simp [SeqAt.shaped, PyData.canLay0, PyData.depth]) (by simp [SeqAt.shaped, PyData.canLay0, PyData.depth])]

  cases x <;> cases y <;> simp [PyData.eqv]
theorem sorted_loc {S : Store} {l : Nat} {es : List D} (h : S[l]? = some (.lst es)) : sortedD [.loc l] S = sortedD [.lst es] S := by
  have h1 : rdL S (.loc l) = some es := by simp [rdL, exL, h]
  have h2 : rdL S (.lst es) = some es := rfl
  simp only [sortedD, h1, h2]
theorem p_sortL {S : Store} {Q : D → Store → Prop} {l : Nat} {es : List D} (h : S[l]? = some (.lst es)) (k : Ok (sortedD [.lst es] S) Q) : Ok (sortedD [.loc l] S) Q := by rw [sorted_loc h]; exact k
theorem p_isi {S : Store} {Q : D → Store → Prop} {T : String} {d : D} {b : Bool} (e : isiD T d S = .ok (.bl b) S) (h : Q (.bl b) S) : Ok (isiD T d S) Q := k_eq e h
theorem pl_tl (k : Nat) (t : Tl) : D.pl (k + 1) (tl t) = true := by simp [tl]
theorem sc_map {α : Type} {f : α → D} {n : Nat} {xs : List α} (h : ∀ x, (f x).sc n = true) : D.scs n (xs.map f) = true := by
  induction xs with
  | nil => rfl
  | cons x xs ih => rw [List.map_cons]; simp only [D.scs, h x, ih]; rfl
mutual
theorem sc_pl : ∀ (k n : Nat) (d : D), D.pl k d = true → d.sc n = true
  | _, _, .non, _ => rfl
  | _, _, .int _, _ => rfl
  | _, _, .str _, _ => rfl
  | _, _, .bl _, _ => rfl
  | 0, _, .tup _, h => by simp [D.pl] at h
  | k + 1, n, .tup ds, h => by simp only [D.pl] at h; simp only [D.sc]; exact scs_pl k n ds h
  | 0, _, .lst _, h => by simp [D.pl] at h
  | k + 1, n, .lst ds, h => by simp only [D.pl] at h; simp only [D.sc]; exact scs_pl k n ds h
  | _, _, .ktp _, h => by simp [D.pl] at h
  | _, _, .frz _, h => by simp [D.pl] at h
  | _, _, .loc _, h => by simp [D.pl] at h
theorem scs_pl : ∀ (k n : Nat) (ds : List D), D.pls k ds = true → D.scs n ds = true
  | _, _, [], _ => rfl
  | k, n, d :: ds, h => by
    simp only [D.pls, Bool.and_eq_true] at h
    simp only [D.scs, sc_pl k n d h.1, scs_pl k n ds h.2]
    rfl
end
end L3
namespace L3
open PySem PySem.Spec L2
/-! ### objects and their methods; repr -/
section
variable {σ : DSt} {S : Store} {E : XEv} {N B C : DSt → Store → Prop} {R Q : D → Store → Prop} {mo mv : DSt → Store → Res D} {ms : DSt → Store → Res (List D)} {cs : List Str} {f c m : Str} {n : Nat} {den : List D → Store → Res D}
theorem w_fldS (h : Ok (mv σ S) fun d S1 => Ok (mo σ S1) fun o S2 => ∃ l c fs, o = .loc l ∧ S2[l]? = some (.ins c fs) ∧ c ∈ cs ∧ fs.length < 1000 ∧ ∀ S', S2.set l (.ins c (putFD f d fs)) = S' → N σ S') : WfX E (mFldS cs f mv mo σ S) N R B C := by
  unfold mFldS
  refine w_lift (h.imp fun d S1 h => w_lift (h.imp fun o S2 h => ?_))
  obtain ⟨l, c, fs, rfl, h1, h2, h3, h4⟩ := h
  simp only [setFD, h1]
  rw [if_pos ⟨h2, h3⟩]
  exact h4 _ rfl
theorem k_fldC (h : Ok (mo σ S) fun o S1 => ∃ l c fs d, o = .loc l ∧ S1[l]? = some (.ins c fs) ∧ c ∈ cs ∧ fs.lookup f = some d ∧ Q d S1) : Ok (mFldC cs f mo σ S) Q := by
  refine k_bind (h.imp fun o S1 h => ?_)
  obtain ⟨l, c, fs, d, rfl, h1, h2, h3, h4⟩ := h
  simp only [insOf, h1, if_pos h2, h3]
  exact k_ok h4
theorem k_meth (h : Ok (mo σ S) fun o S1 => ∃ l fs, o = .loc l ∧ S1[l]? = some (.ins c fs) ∧ fs.lookup m = none ∧ Ok (ms σ S1) fun ds S2 => ds.length + 1 = n ∧ Ok (den (.loc l :: ds) S2) Q) : Ok (mMeth n c m den mo ms σ S) Q := by
  refine k_bind (h.imp fun o S1 h => ?_)
  obtain ⟨l, fs, rfl, h1, h2, h3⟩ := h
  simp only [insOf, h1]
  rw [if_pos ⟨trivial, h2⟩]
  refine k_bind (h3.imp fun ds S2 h => ?_)
  rw [if_pos h.1]
  obtain ⟨x, S3, e, q⟩ := h.2
  exact ⟨x, S3, by rw [e]; rfl, q⟩
theorem k_make (h : Ok (ms σ S) fun ds S1 => ds.length + 1 = n ∧ Ok (den (.loc S1.length :: ds) (S1 ++ [.ins c []])) fun d S2 => d = .non ∧ Q (.loc S1.length) S2) : Ok (mMake n c den ms σ S) Q := by
  refine k_bind (h.imp fun ds S1 h => ?_)
  rw [if_pos h.1]
  obtain ⟨d, S2, e, rfl, q⟩ := h.2
  rw [e]
  exact k_ok q
theorem p_eqR {b : Bool} {x y : Str} (h : Q (.bl (xor b (decide (x = y)))) S) : Ok (eqSD b (.str x) (.str y) S) Q := ⟨_, _, rfl, h⟩
theorem p_eqRS {b : Bool} {x : Str} (h : Q (.bl (!b)) S) : Ok (eqSD b (.str x) (.str x) S) Q := p_eqR (by rw [decide_eq_true rfl]; cases b <;> exact h)
theorem intsOf_map : ∀ ns : List Int, intsOf (ns.map D.int) = some ns
  | [] => rfl
  | n :: ns => by simp [intsOf, intsOf_map ns]
theorem p_sum {ns : List Int} (h : Q (.int ns.sum) S) : Ok (sumD [.lst (ns.map D.int)] S) Q := by
  have e : sumD [.lst (ns.map D.int)] S = .ok (.int ns.sum) S := by
    have h1 : rdL S (.lst (ns.map D.int)) = some (ns.map D.int) := rfl
    simp only [sumD, h1, intsOf_map]
  exact k_eq e h
end
mutual
/-- data to be shown: small numbers, texts, tuples -/
def D.rp (k : Nat) : D → Bool
  | .non => true
  | .bl _ => true
  | .int i => decide (0 ≤ i ∧ i < 1000)
  | .str x => x.cps.all (· < 1114112)
  | .tup ds => match k with
    | 0 => false
    | k + 1 => D.rps k ds
  | .ktp ds => match k with
    | 0 => false
    | k + 1 => D.rps k ds
  | _ => false
def D.rps (k : Nat) : List D → Bool
  | [] => true
  | d :: ds => D.rp k d && D.rps k ds
end
mutual
def D.wt : D → Nat
  | .int _ => 10
  | .str x => x.cps.size
  | .tup ds => D.wts ds
  | .ktp ds => D.wts ds
  | _ => 0
def D.wts : List D → Nat
  | [] => 0
  | d :: ds => D.wt d + 1 + D.wts ds
end
theorem short_small : ∀ n < 1000, (PyData.shown (.int (n : Nat))).length ≤ 13 := by decide +kernel
mutual
theorem rp_py : ∀ (k : Nat) (d : D), D.rp k d = true → ∃ p, toPy d = some p ∧ (p.showable = true ∧ p.hasDict = false) ∧ p.depth ≤ k ∧ p.canLay0 = true ∧ p.intsShort 13 = true ∧ p.weight ≤ D.wt d ∧ ∀ S, pyS S d = toPy d
  | k, .int i, h => by
    have h' : 0 ≤ i ∧ i < 1000 := by cases k <;> simpa [D.rp] using h
    obtain ⟨n, rfl⟩ := Int.eq_ofNat_of_zero_le h'.1
    have hn : n < 1000 := by omega
    have hlog : (n : Int).natAbs.log2 < 10 := by
      rw [Int.natAbs_natCast]
      rcases Nat.eq_zero_or_pos n with z | z
      · subst z; decide
      · exact (Nat.log2_lt (by omega)).mpr (by omega)
    refine ⟨.int n, rfl, ⟨by simp only [PyData.showable, decide_eq_true_eq]; omega, rfl⟩, by simp [PyData.depth], rfl, by simp only [PyData.intsShort, decide_eq_true_eq]; exact short_small n hn, ?_, fun _ => rfl⟩
    simp only [PyData.weight, D.wt]
    split <;> omega
  | k, .str x, h => by
    have h' : x.cps.all (· < 1114112) = true := by cases k <;> simpa [D.rp] using h
    refine ⟨.str x, rfl, ⟨rfl, rfl⟩, by simp [PyData.depth], h', rfl, by simp [PyData.weight, D.wt], fun _ => rfl⟩
  | 0, .tup _, h => by simp [D.rp] at h
  | k + 1, .tup ds, h => by
    obtain ⟨ps, e, h1, h2, h3, h4, h5⟩ := rps_py k ds (by simpa [D.rp] using h)
    refine ⟨.tuple ps, by simp only [toPy, e] <;> rfl, ⟨by simpa [PyData.showable] using h1.1, by simpa [PyData.hasDict] using h1.2⟩, by simp only [PyData.depth]; omega, by simpa [PyData.canLay0] using h3, by simpa [PyData.intsShort] using h4, by simpa [PyData.weight, D.wt] using h5, fun _ => rfl⟩
  | 0, .ktp _, h => by simp [D.rp] at h
  | k + 1, .ktp ds, h => by
    obtain ⟨ps, e, h1, h2, h3, h4, h5⟩ := rps_py k ds (by simpa [D.rp] using h)
    refine ⟨.tuple ps, by simp only [toPy, e] <;> rfl, ⟨by simpa [PyData.showable] using h1.1, by simpa [PyData.hasDict] using h1.2⟩, by simp only [PyData.depth]; omega, by simpa [PyData.canLay0] using h3, by simpa [PyData.intsShort] using h4, by simpa [PyData.weight, D.wt] using h5, fun _ => rfl⟩
  | k, .non, _ => ⟨.none, rfl, ⟨rfl, rfl⟩, by simp [PyData.depth], rfl, rfl, by simp [PyData.weight], fun _ => rfl⟩
  | k, .bl b, _ => ⟨.bool b, rfl, ⟨rfl, rfl⟩, by simp [PyData.depth], rfl, rfl, by simp [PyData.weight], fun _ => rfl⟩
  | k, .lst _, h => by cases k <;> simp [D.rp] at h
  | k, .frz _, h => by cases k <;> simp [D.rp] at h
  | k, .loc _, h => by cases k <;> simp [D.rp] at h
theorem rps_py : ∀ (k : Nat) (ds : List D), D.rps k ds = true → ∃ ps, toPys ds = some ps ∧ (PyData.showableAll ps = true ∧ PyData.hasDictAll ps = false) ∧ PyData.depthAll ps ≤ k ∧ PyData.canLayAll0 ps = true ∧ PyData.intsShortAll 13 ps = true ∧ PyData.weightAll ps ≤ D.wts ds
  | k, [], _ => ⟨[], rfl, ⟨rfl, rfl⟩, by simp [PyData.depthAll], rfl, rfl, by simp [PyData.weightAll]⟩
  | k, d :: ds, h => by
    simp only [D.rps, Bool.and_eq_true] at h
    obtain ⟨p, e, a1, a2, a3, a4, a5, a6⟩ := rp_py k d h.1
    obtain ⟨ps, e', b1, b2, b3, b4, b5⟩ := rps_py k ds h.2
    refine ⟨p :: ps, by simp [toPys, e, e'], ⟨by simp [PyData.showableAll, a1.1, b1.1], by simp [PyData.hasDictAll, a1.2, b1.2]⟩, by simp only [PyData.depthAll]; omega, by simp [PyData.canLayAll0, a3, b3], by simp [PyData.intsShortAll, a4, b4], by simp only [PyData.weightAll, D.wts]; omega⟩
end
def rshow (d : D) : Str := match toPy d with
  | some p => p.shown
  | none => Str.ofString ""
theorem p_repr {S : Store} {Q : D → Store → Prop} {d : D} (h : D.rp 60 d = true) (hw : D.wt d ≤ 1048576) (hk : (∃ ds, d = .tup ds) ∨ ∃ i, d = .int i) (q : Q (.str (rshow d)) S) : Ok (reprD [d] S) Q := by
  obtain ⟨p, e, a1, a2, a3, a4, a5, a6⟩ := rp_py 60 d h
  have h1 : pyS S d = some p := by rw [a6 S, e]
  have hs := PyProof.Rows.shown_le13 (d := p) (by
    unfold PyData.layable0
    rw [a3, decide_eq_true (show p.depth ≤ 64 by omega), decide_eq_true (show p.weight ≤ 2 ^ 20 by omega)]
    rfl) a4
  have ok : reprOk p = true := by
    rcases hk with ⟨ds, rfl⟩ | ⟨i, rfl⟩
    · simp only [toPy] at e
      cases z : toPys ds with
      | none => rw [z] at e; cases e
      | some ps =>
        rw [z] at e
        cases e
        simp only [reprOk, a1.1, a1.2, Bool.true_and, Bool.not_false, Bool.and_eq_true, decide_eq_true_eq]
        exact ⟨a2, by rw [size_eq]; omega⟩
    · cases e
      have := a1.1
      simpa [reprOk, PyData.showable] using this
  have e2 : reprD [d] S = .ok (.str p.shown) S := by simp only [reprD, h1, ok, if_true]
  refine k_eq e2 ?_
  unfold rshow at q
  rw [e] at q
  exact q
section
variable {S : Store} {Q : D → Store → Prop} {ds : List D} {d : D} {i : Int} {k : Nat}
theorem p_tupX (h : Q (.ktp ds) S) : Ok (tupleXD [.lst ds] S) Q := ⟨_, _, rfl, h⟩
theorem p_tupXO {l : Nat} (e : S[l]? = some (.lst ds)) (h : Q (.ktp ds) S) : Ok (tupleXD [.loc l] S) Q := by
  have h1 : rdL S (.loc l) = some ds := by simp [rdL, exL, e]
  exact k_eq (by simp only [tupleXD, h1] <;> rfl) h
theorem p_dictX {ps : List (Key × D)} (e : pairsK ds = some ps) (h : Q (.loc S.length) (S ++ [.dK (mergeD [] ps)])) : Ok (dictXD [.ktp ds] S) Q :=
  k_eq (by simp only [dictXD, e] <;> rfl) h
theorem p_ixP (e : atI ds i = some d) (h : Q d S) : Ok (ixD (.ktp ds) (.int i) S) Q := by
  have h1 : seqOf S (.ktp ds) = some ds := rfl
  exact k_eq (by simp only [ixD, h1, e] <;> rfl) h
theorem p_ixPm {α : Type} {xs : List α} {f : α → D} {x : α} (e : xs[k]? = some x) (h : Q (f x) S) : Ok (ixD (.ktp (xs.map f)) (.int (k : Nat)) S) Q := p_ixP (by rw [atI_nat, List.getElem?_map, e]; rfl) h
end
theorem rps_map {α : Type} {f : α → D} {k : Nat} {xs : List α} (h : ∀ x ∈ xs, D.rp k (f x) = true) : D.rps k (xs.map f) = true := by
  induction xs with
  | nil => rfl
  | cons x xs ih =>
    rw [List.map_cons]
    simp only [D.rps, h x List.mem_cons_self, ih fun y hy => h y (List.mem_cons_of_mem _ hy)]
    rfl
theorem wts_map {α : Type} {f : α → D} {c : Nat} : ∀ {xs : List α}, (∀ x ∈ xs, D.wt (f x) ≤ c) → D.wts (xs.map f) ≤ (c + 1) * xs.length
  | [], _ => by simp [D.wts]
  | x :: xs, h => by
    have h1 := h x List.mem_cons_self
    have h2 := wts_map fun y hy => h y (List.mem_cons_of_mem _ hy)
    rw [List.map_cons, List.length_cons, Nat.mul_succ]
    simp only [D.wts]
    omega
theorem rp_sd {k : Nat} {l : List Nat} (h : ∀ c ∈ l, c < 1114112) : D.rp k (.str (tx l)) = true := by
  have : (tx l).cps.all (· < 1114112) = true := by
    rw [← Array.all_toList, tx_cps, List.all_eq_true]
    exact fun c hc => decide_eq_true (h c hc)
  cases k <;> simpa [D.rp] using this
theorem rp_non {k : Nat} : D.rp k .non = true := by cases k <;> simp [D.rp]
theorem rp_bl {k : Nat} (b : Bool) : D.rp k (.bl b) = true := by cases k <;> simp [D.rp]
theorem rp_int {k : Nat} {i : Int} (h : 0 ≤ i ∧ i < 1000) : D.rp k (.int i) = true := by cases k <;> simp [D.rp, h]
theorem wt_sd (l : List Nat) : D.wt (.str (tx l)) = l.length := by simp [D.wt, tx]
end L3
namespace L3
open PySem PySem.Spec L2
theorem k_enumA {σ : DSt} {S : Store} {ms : DSt → Store → Res (List D)} {QS : Src → Store → Prop} (h : Ok (ms σ S) fun ds S => ∃ d s, ds = [d] ∧ enumSrc d S = some s ∧ QS ⟨(s.items.zipIdx).map fun p : D × Nat => D.tup [.int p.2, p.1], s.guard⟩ S) : Ok (mEnumA ms σ S) QS := by
  unfold mEnumA
  refine k_bind (h.imp fun ds S h => ?_)
  obtain ⟨d, s, rfl, e, h⟩ := h
  refine k_eq (x := ⟨enumD 0 s.items, s.guard⟩) (S := S) (by simp only [e]) ?_
  rw [enumD_eq]
  exact h
theorem p_isB {S : Store} {Q : D → Store → Prop} {n a b : Bool} (h : Q (.bl (xor n (decide (a = b)))) S) : Ok (isBD n (.bl a) (.bl b) S) Q := ⟨_, _, rfl, h⟩
theorem p_isNl {S : Store} {Q : D → Store → Prop} {b : Bool} {i : Nat} (h : Q (.bl b) S) : Ok (isND b (.loc i) .non S) Q := ⟨_, _, rfl, h⟩
theorem p_isNt {S : Store} {Q : D → Store → Prop} {b : Bool} {ds : List D} (h : Q (.bl b) S) : Ok (isND b (.tup ds) .non S) Q := ⟨_, _, rfl, h⟩
theorem k_en {S : Store} {d : D} {s : Src} {P : Src → Prop} (e : enumSrc d S = some s) (h : P s) : ∃ d' s', [d] = [d'] ∧ enumSrc d' S = some s' ∧ P s' := ⟨_, _, rfl, e, h⟩
theorem p_all {S : Store} {Q : D → Store → Prop} {bs : List Bool} (h : Q (.bl (bs.all id)) S) : Ok (onBls (fun bs => .bl (bs.all id)) [.lst (bs.map D.bl)] S) Q := k_eq (blsK _ _) h
theorem all_true {α : Type} (xs : List α) : ((xs.map fun _ => true).all id) = true := by rw [List.all_map]; simp
theorem wf_id {r : Res Fl} {E : XEv} {N B C : DSt → Store → Prop} {R : D → Store → Prop} (h : WfX E r N R B C) : WfX E r N R B C := h
theorem w_raise {c : Str} {σ : DSt} {S : Store} {E : XEv} {N B C : DSt → Store → Prop} {R : D → Store → Prop} (h : E c [] S) : WfX E (mRaise c σ S) N R B C := h
theorem br_id {b : Bool} {p q : Prop} (h : Br b p q) : Br b p q := h
theorem mWhile_eqv {c : DSt → Store → Res Bool} {b : DSt → Store → Res Fl} {σ σ2 : DSt} {S S1 S2 : Store} (h : c σ S = .ok true S1) (hb : b σ S1 = .ok (.ct σ2) S2) : mWhile c b σ S = mWhile c b σ2 S2 := by
  by_cases hx : ∃ n r, whileN c b n σ2 S2 = some r
  · obtain ⟨n, r, hn⟩ := hx
    rw [mWhile_of hn]
    exact mWhile_of (n := n + 1) (by simp only [whileN, h, hb]; exact hn)
  · have hy : ¬ ∃ n r, whileN c b n σ S = some r := by
      rintro ⟨n, r, hn⟩
      cases n with
      | zero => simp [whileN] at hn
      | succ n =>
        simp only [whileN, h, hb] at hn
        exact hx ⟨n, r, hn⟩
    unfold mWhile
    rw [dif_neg hx, dif_neg hy]
/-- while, with a measure -/
theorem w_while {c : DSt → Store → Res Bool} {b : DSt → Store → Res Fl} {σ : DSt} {S : Store} {N B C : DSt → Store → Prop} {R : D → Store → Prop} (I : Nat → DSt → Store → Prop) (n : Nat) (h0 : I n σ S)
    (hs : ∀ n σ S, I n σ S → Ok (c σ S) fun t S => Br t (Wf (b σ S) (fun σ S => ∃ m, m < n ∧ I m σ S) R N (fun σ S => ∃ m, m < n ∧ I m σ S)) (N σ S)) : Wf (mWhile c b σ S) N R B C := by
  induction n using Nat.strongRecOn generalizing σ S with
  | ind n ih =>
    obtain ⟨t, S1, e, h⟩ := hs n σ S h0
    cases t with
    | false => rw [mWhile_false e]; exact h
    | true =>
      have h : Wf (b σ S1) _ _ _ _ := h
      cases eb : b σ S1 with
      | stuck => rw [eb] at h; exact h.elim
      | exc _ _ _ => rw [eb] at h; exact h.elim
      | ok fl S2 =>
        rw [eb] at h
        cases fl with
        | nx σ2 =>
          obtain ⟨m, hm, hi⟩ := h
          rw [mWhile_true e eb]
          exact ih m hm hi
        | ct σ2 =>
          obtain ⟨m, hm, hi⟩ := h
          rw [mWhile_eqv e eb]
          exact ih m hm hi
        | bk σ2 =>
          rw [mWhile_of (n := 1) (r := .ok (.nx σ2) S2) (by simp only [whileN, e, eb])]
          exact h
        | rt d =>
          rw [mWhile_of (n := 1) (r := .ok (.rt d) S2) (by simp only [whileN, e, eb])]
          exact h
        | ex _ _ _ => exact h.elim
theorem p_eqE0 {S : Store} {Q : D → Store → Prop} {neg : Bool} {l m : Nat} {kvs : List (List Key × D)} (h1 : S[l]? = some (.dT kvs)) (h2 : S[m]? = some (.dT [])) (h : Q (.bl (xor neg kvs.isEmpty)) S) : Ok (eqED neg (.loc l) (.loc m) S) Q := by
  have e : (kvs.length == 0) = kvs.isEmpty := by cases kvs <;> rfl
  refine k_eq (x := .bl (xor neg kvs.isEmpty)) (S := S) ?_ h
  simp only [eqED, dsize, h1, h2, List.length_nil]
  rw [e]
theorem k_glstL {n : Nat} {g : List D → DSt → Store → Res DSt} {ds : List D} {σ : DSt} {S : Store} {QG : DSt → Store → Prop} (hn : ds.length = n) (h : Ok (g ds σ S) QG) : Ok (gtLst n g (.lst ds) σ S) QG := by
  have e : gtLst n g (.lst ds) σ S = g ds σ S := by
    have h1 : rdL S (.lst ds) = some ds := rfl
    simp only [gtLst, h1, if_pos hn]
  rw [e]
  exact h
theorem sorted_tlT {xs : List Tl} {S : Store} (hl : xs.length ≤ 16777216) : sortedTD [.tup (xs.map tl)] S = .ok (.lst ((sortT xs).map tl)) S := (show sortedTD [.tup (xs.map tl)] S = sortedD [.lst (xs.map tl)] S from rfl).trans (sorted_tl hl)
end L3
namespace L3
open PySem PySem.Spec L2
theorem p_geI {S : Store} {Q : D → Store → Prop} {i j : Int} (h : Q (.bl (decide (j ≤ i))) S) : Ok (geTD (.int i) (.int j) S) Q := ⟨_, _, rfl, h⟩
theorem p_geT {S : Store} {Q : D → Store → Prop} {ns ms : List Int} (h : Q (.bl (lexGeI ns ms)) S) : Ok (geTD (.tup (ns.map D.int)) (.tup (ms.map D.int)) S) Q := by
  refine k_eq (x := .bl (lexGeI ns ms)) (S := S) ?_ h
  simp only [geTD, intsOf_map]
/-- three whole numbers -/
theorem lexGe3 (a b c x y z : Int) : lexGeI [a, b, c] [x, y, z] = decide (¬ ([a, b, c] : List Int) < [x, y, z]) := by
  unfold lexGeI
  rw [Bool.eq_iff_iff]
  simp only [List.length_cons, List.length_nil, Nat.zero_add, Nat.reduceAdd, Nat.min_self, Ob.lexAt, List.getD_cons_zero, List.getD_cons_succ, ge_iff_le, Nat.le_refl]
  by_cases h1 : a = x
  · subst h1
    by_cases h2 : b = y
    · subst h2
      by_cases h3 : c = z
      · subst h3
        simp
      · simp [h3, List.cons_le_cons_iff]
        omega
    · simp [h2, List.cons_le_cons_iff]
      omega
  · simp [h1, List.cons_le_cons_iff]
    omega
theorem p_ltT {S : Store} {Q : D → Store → Prop} {ns ms : List Int} (h : Q (.bl (HT.lexLt ns ms)) S) : Ok (ltD (.tup (ns.map D.int)) (.tup (ms.map D.int)) S) Q := by
  refine k_eq (x := .bl (HT.lexLt ns ms)) (S := S) ?_ h
  simp only [ltD, intsOf_map]
theorem p_mulT {S : Store} {Q : D → Store → Prop} {ds : List D} {k : Nat} (hk : k ≤ 1000) (hl : ds.length ≤ 1000) (h : Q (.tup (List.replicate k ds).flatten) S) : Ok (mulTD (.tup ds) (.int k) S) Q := by
  have e : mulTD (.tup ds) (.int k) S = .ok (.tup (List.replicate k ds).flatten) S := by
    simp only [mulTD, Int.toNat_natCast]
    rw [if_pos ⟨by omega, by omega, hl⟩]
  exact k_eq e h
theorem k_disp1 {σ : DSt} {S : Store} {Q : D → Store → Prop} {mk mv : DSt → Store → Res D} (h : Ok (mk σ (S ++ [.dT []])) fun x S1 => Ok (mv σ S1) fun y S2 => ∃ (ks : List D) (key : List Key), x = .tup ks ∧ keysOf ks = some key ∧ S2[S.length]? = some (.dT []) ∧ Q (.loc S.length) (S2.set S.length (.dT [(key, y)]))) : Ok (mDisp1T mk mv σ S) Q := by
  unfold mDisp1T
  refine k_bind (h.imp fun x S1 h => k_bind (h.imp fun y S2 h => ?_))
  obtain ⟨ks, key, rfl, h1, h2, h3⟩ := h
  simp only [h2, h1]
  exact k_ok h3
theorem w_par3 {σ : DSt} {S : Store} {E : XEv} {N B C : DSt → Store → Prop} {R : D → Store → Prop} {ms : DSt → Store → Res (List D)} {i j l : Nat} (h : Ok (ms σ S) fun ds S => ∃ x y z, ds = [x, y, z] ∧ ∀ σ', ((σ.set i (some x)).set j (some y)).set l (some z) = σ' → N σ' S) : WfX E (mPar3 i j l ms σ S) N R B C := w_lift (h.imp fun t S1 h => by
  obtain ⟨x, y, z, rfl, h⟩ := h
  exact h _ rfl)
theorem par3_of {σ : DSt} {i j l : Nat} {x y z : D} {P : DSt → Prop} (h : ∀ σ', ((σ.set i (some x)).set j (some y)).set l (some z) = σ' → P σ') : ∃ x' y' z', [x, y, z] = [x', y', z'] ∧ ∀ σ', ((σ.set i (some x')).set j (some y')).set l (some z') = σ' → P σ' := ⟨x, y, z, rfl, h⟩
end L3

namespace L3
open PySem PySem.Spec L2
/-! ### the text -/
def topS (i : Nat) : Stmt := PySem.Challenge.pw_stickytiles_k52_shapes_or_not.main.body.getD i (.Pass ⟨0, 0, 0, 0⟩)
abbrev s_is_whole : Stmt := topS 3
abbrev N_is_whole : List Str := ["thing"]
theorem sc_is_whole : FnScope ["thing"] ["thing"] (defScope s_is_whole) := ⟨rfl, rfl, rfl, by decide +kernel, rfl, by decide +kernel, by decide +kernel⟩
abbrev s_is_tuple_of : Stmt := topS 5
abbrev N_is_tuple_of : List Str := ["thing", "many"]
theorem sc_is_tuple_of : FnScope ["thing", "many"] ["thing", "many"] (defScope s_is_tuple_of) := ⟨rfl, rfl, rfl, by decide +kernel, rfl, by decide +kernel, by decide +kernel⟩
abbrev s_rises : Stmt := topS 6
abbrev N_rises : List Str := ["things", "one", "other"]
theorem sc_rises : FnScope ["things", "one", "other"] ["things"] (defScope s_rises) := ⟨rfl, rfl, rfl, by decide +kernel, rfl, by decide +kernel, by decide +kernel⟩
abbrev s_step_of : Stmt := topS 7
abbrev N_step_of : List Str := ["place", "side"]
theorem sc_step_of : FnScope ["place", "side"] ["place", "side"] (defScope s_step_of) := ⟨rfl, rfl, rfl, by decide +kernel, rfl, by decide +kernel, by decide +kernel⟩
abbrev s_law_spring_of : Stmt := topS 15
abbrev N_law_spring_of : List Str := ["_law_script", "_law_own", "_law_seed", "_law_far", "_law_k", "_law_cell", "_law_part"]
theorem sc_law_spring_of : FnScope ["_law_script", "_law_own", "_law_seed", "_law_far", "_law_k", "_law_cell", "_law_part"] ["_law_script"] (defScope s_law_spring_of) := ⟨rfl, rfl, rfl, by decide +kernel, rfl, by decide +kernel, by decide +kernel⟩
abbrev s_law_take : Stmt := topS 16
abbrev N_law_take : List Str := ["_law_spring", "_law_many", "_law_digit", "_law_once"]
theorem sc_law_take : FnScope ["_law_spring", "_law_many", "_law_digit", "_law_once"] ["_law_spring", "_law_many"] (defScope s_law_take) := ⟨rfl, rfl, rfl, by decide +kernel, rfl, by decide +kernel, by decide +kernel⟩
abbrev s_law_whole : Stmt := topS 19
abbrev N_law_whole : List Str := ["_law_thing"]
theorem sc_law_whole : FnScope ["_law_thing"] ["_law_thing"] (defScope s_law_whole) := ⟨rfl, rfl, rfl, by decide +kernel, rfl, by decide +kernel, by decide +kernel⟩
abbrev s_law_led : Stmt := topS 20
abbrev N_law_led : List Str := ["_law_spots", "_law_met", "_law_k", "_law_x", "_law_y", "_law_near", "_law_spot"]
theorem sc_law_led : FnScope ["_law_spots", "_law_met", "_law_k", "_law_x", "_law_y", "_law_near", "_law_spot"] ["_law_spots"] (defScope s_law_led) := ⟨rfl, rfl, rfl, by decide +kernel, rfl, by decide +kernel, by decide +kernel⟩
abbrev s_law_put : Stmt := topS 22
abbrev N_law_put : List Str := ["_law_some", "_law_at", "_law_thing"]
theorem sc_law_put : FnScope ["_law_some", "_law_at", "_law_thing"] ["_law_some", "_law_at", "_law_thing"] (defScope s_law_put) := ⟨rfl, rfl, rfl, by decide +kernel, rfl, by decide +kernel, by decide +kernel⟩
abbrev s_is_within : Stmt := topS 4
abbrev N_is_within : List Str := ["thing", "least", "most"]
theorem sc_is_within : FnScope ["thing", "least", "most"] ["thing", "least", "most"] (defScope s_is_within) := ⟨rfl, rfl, rfl, by decide +kernel, rfl, by decide +kernel, by decide +kernel⟩
abbrev s_links_of : Stmt := topS 12
abbrev N_links_of : List Str := ["shape", "met", "found", "at", "side", "other"]
theorem sc_links_of : FnScope ["shape", "met", "found", "at", "side", "other"] ["shape"] (defScope s_links_of) := ⟨rfl, rfl, rfl, by decide +kernel, rfl, by decide +kernel, by decide +kernel⟩
abbrev s_law_of : Stmt := topS 17
abbrev N_law_of : List Str := ["_law_spring", "_law_some"]
theorem sc_law_of : FnScope ["_law_spring", "_law_some"] ["_law_spring", "_law_some"] (defScope s_law_of) := ⟨rfl, rfl, rfl, by decide +kernel, rfl, by decide +kernel, by decide +kernel⟩
abbrev s_law_looked : Stmt := topS 21
abbrev N_law_looked : List Str := ["_law_thing", "_law_spot", "_law_one", "_law_other"]
theorem sc_law_looked : FnScope ["_law_thing", "_law_spot", "_law_one", "_law_other"] ["_law_thing"] (defScope s_law_looked) := ⟨rfl, rfl, rfl, by decide +kernel, rfl, by decide +kernel, by decide +kernel⟩
abbrev s_law_rings : Stmt := topS 24
abbrev N_law_rings : List Str := ["_law_spring", "_law_wide", "_law_high", "_law_spots", "_law_x", "_law_y"]
theorem sc_law_rings : FnScope ["_law_spring", "_law_wide", "_law_high", "_law_spots", "_law_x", "_law_y"] ["_law_spring"] (defScope s_law_rings) := ⟨rfl, rfl, rfl, by decide +kernel, rfl, by decide +kernel, by decide +kernel⟩
abbrev s_is_spot : Stmt := topS 11
abbrev N_is_spot : List Str := ["thing", "part"]
theorem sc_is_spot : FnScope ["thing", "part"] ["thing"] (defScope s_is_spot) := ⟨rfl, rfl, rfl, by decide +kernel, rfl, by decide +kernel, by decide +kernel⟩
abbrev s_law_grown_shape : Stmt := topS 18
abbrev N_law_grown_shape : List Str := ["_law_spring", "_law_many", "_law_spots", "_law_k", "_law_x", "_law_y", "_law_right", "_law_up", "_law_spot"]
theorem sc_law_grown_shape : FnScope ["_law_spring", "_law_many", "_law_spots", "_law_k", "_law_x", "_law_y", "_law_right", "_law_up", "_law_spot"] ["_law_spring", "_law_many"] (defScope s_law_grown_shape) := ⟨rfl, rfl, rfl, by decide +kernel, rfl, by decide +kernel, by decide +kernel⟩
abbrev s_law_bent : Stmt := topS 23
abbrev N_law_bent : List Str := ["_law_spring", "_law_shape", "_law_at", "_law_far", "_law_x", "_law_y", "_law_way", "_law_other", "_law_odd"]
theorem sc_law_bent : FnScope ["_law_spring", "_law_shape", "_law_at", "_law_far", "_law_x", "_law_y", "_law_way", "_law_other", "_law_odd"] ["_law_spring", "_law_shape"] (defScope s_law_bent) := ⟨rfl, rfl, rfl, by decide +kernel, rfl, by decide +kernel, by decide +kernel⟩
abbrev s_is_shape : Stmt := topS 13
abbrev N_is_shape : List Str := ["thing", "one"]
theorem sc_is_shape : FnScope ["thing", "one"] ["thing"] (defScope s_is_shape) := ⟨rfl, rfl, rfl, by decide +kernel, rfl, by decide +kernel, by decide +kernel⟩
abbrev s_law : Stmt := topS 25
abbrev N_law : List Str := ["_law_script", "_law_spring", "_law_turn", "_law_shape", "_law_some", "_law_k", "_law_thing", "_law_kept", "_law_told"]
theorem sc_law : FnScope ["_law_script", "_law_spring", "_law_turn", "_law_shape", "_law_some", "_law_k", "_law_thing", "_law_kept", "_law_told"] ["_law_script"] (defScope s_law) := ⟨rfl, rfl, rfl, by decide +kernel, rfl, by decide +kernel, by decide +kernel⟩
/-- what the top has written -/
structure Txt (K : PySem.W.Frag) (mg : Str → Option Value) where
  f_is_whole : Addr
  e_is_whole : FuncData
  F_is_whole : Fun K "is_whole" "is_whole" s_is_whole f_is_whole e_is_whole
  g_is_whole : mg "is_whole" = some (.ref f_is_whole)
  b_is_whole : Binds K e_is_whole ["thing"] []
  f_is_tuple_of : Addr
  e_is_tuple_of : FuncData
  F_is_tuple_of : Fun K "is_tuple_of" "is_tuple_of" s_is_tuple_of f_is_tuple_of e_is_tuple_of
  g_is_tuple_of : mg "is_tuple_of" = some (.ref f_is_tuple_of)
  b_is_tuple_of : Binds K e_is_tuple_of ["thing", "many"] []
  f_rises : Addr
  e_rises : FuncData
  F_rises : Fun K "rises" "rises" s_rises f_rises e_rises
  g_rises : mg "rises" = some (.ref f_rises)
  b_rises : Binds K e_rises ["things"] []
  f_step_of : Addr
  e_step_of : FuncData
  F_step_of : Fun K "step_of" "step_of" s_step_of f_step_of e_step_of
  g_step_of : mg "step_of" = some (.ref f_step_of)
  b_step_of : Binds K e_step_of ["place", "side"] []
  f_law_spring_of : Addr
  e_law_spring_of : FuncData
  F_law_spring_of : Fun K "_law_spring_of" "_law_spring_of" s_law_spring_of f_law_spring_of e_law_spring_of
  g_law_spring_of : mg "_law_spring_of" = some (.ref f_law_spring_of)
  b_law_spring_of : Binds K e_law_spring_of ["_law_script"] []
  f_law_take : Addr
  e_law_take : FuncData
  F_law_take : Fun K "_law_take" "_law_take" s_law_take f_law_take e_law_take
  g_law_take : mg "_law_take" = some (.ref f_law_take)
  b_law_take : Binds K e_law_take ["_law_spring", "_law_many"] []
  f_law_whole : Addr
  e_law_whole : FuncData
  F_law_whole : Fun K "_law_whole" "_law_whole" s_law_whole f_law_whole e_law_whole
  g_law_whole : mg "_law_whole" = some (.ref f_law_whole)
  b_law_whole : Binds K e_law_whole ["_law_thing"] []
  f_law_led : Addr
  e_law_led : FuncData
  F_law_led : Fun K "_law_led" "_law_led" s_law_led f_law_led e_law_led
  g_law_led : mg "_law_led" = some (.ref f_law_led)
  b_law_led : Binds K e_law_led ["_law_spots"] []
  f_law_put : Addr
  e_law_put : FuncData
  F_law_put : Fun K "_law_put" "_law_put" s_law_put f_law_put e_law_put
  g_law_put : mg "_law_put" = some (.ref f_law_put)
  b_law_put : Binds K e_law_put ["_law_some", "_law_at", "_law_thing"] []
  f_is_within : Addr
  e_is_within : FuncData
  F_is_within : Fun K "is_within" "is_within" s_is_within f_is_within e_is_within
  g_is_within : mg "is_within" = some (.ref f_is_within)
  b_is_within : Binds K e_is_within ["thing", "least", "most"] []
  f_links_of : Addr
  e_links_of : FuncData
  F_links_of : Fun K "links_of" "links_of" s_links_of f_links_of e_links_of
  g_links_of : mg "links_of" = some (.ref f_links_of)
  b_links_of : Binds K e_links_of ["shape"] []
  f_law_of : Addr
  e_law_of : FuncData
  F_law_of : Fun K "_law_of" "_law_of" s_law_of f_law_of e_law_of
  g_law_of : mg "_law_of" = some (.ref f_law_of)
  b_law_of : Binds K e_law_of ["_law_spring", "_law_some"] []
  f_law_looked : Addr
  e_law_looked : FuncData
  F_law_looked : Fun K "_law_looked" "_law_looked" s_law_looked f_law_looked e_law_looked
  g_law_looked : mg "_law_looked" = some (.ref f_law_looked)
  b_law_looked : Binds K e_law_looked ["_law_thing"] []
  f_law_rings : Addr
  e_law_rings : FuncData
  F_law_rings : Fun K "_law_rings" "_law_rings" s_law_rings f_law_rings e_law_rings
  g_law_rings : mg "_law_rings" = some (.ref f_law_rings)
  b_law_rings : Binds K e_law_rings ["_law_spring"] []
  f_is_spot : Addr
  e_is_spot : FuncData
  F_is_spot : Fun K "is_spot" "is_spot" s_is_spot f_is_spot e_is_spot
  g_is_spot : mg "is_spot" = some (.ref f_is_spot)
  b_is_spot : Binds K e_is_spot ["thing"] []
  f_law_grown_shape : Addr
  e_law_grown_shape : FuncData
  F_law_grown_shape : Fun K "_law_grown_shape" "_law_grown_shape" s_law_grown_shape f_law_grown_shape e_law_grown_shape
  g_law_grown_shape : mg "_law_grown_shape" = some (.ref f_law_grown_shape)
  b_law_grown_shape : Binds K e_law_grown_shape ["_law_spring", "_law_many"] []
  f_law_bent : Addr
  e_law_bent : FuncData
  F_law_bent : Fun K "_law_bent" "_law_bent" s_law_bent f_law_bent e_law_bent
  g_law_bent : mg "_law_bent" = some (.ref f_law_bent)
  b_law_bent : Binds K e_law_bent ["_law_spring", "_law_shape"] []
  f_is_shape : Addr
  e_is_shape : FuncData
  F_is_shape : Fun K "is_shape" "is_shape" s_is_shape f_is_shape e_is_shape
  g_is_shape : mg "is_shape" = some (.ref f_is_shape)
  b_is_shape : Binds K e_is_shape ["thing"] []
  f_law : Addr
  e_law : FuncData
  F_law : Fun K "law" "law" s_law f_law e_law
  g_law : mg "law" = some (.ref f_law)
  b_law : Binds K e_law ["_law_script"] []
  n_abs : mg "abs" = none
  n_all : mg "all" = none
  n_bool : mg "bool" = none
  n_int : mg "int" = none
  n_isinstance : mg "isinstance" = none
  n_len : mg "len" = none
  n_list : mg "list" = none
  n_max : mg "max" = none
  n_min : mg "min" = none
  n_range : mg "range" = none
  n_repr : mg "repr" = none
  n_sorted : mg "sorted" = none
  n_tuple : mg "tuple" = none
  n_zip : mg "zip" = none
  c_FAR : ∃ t, mg "FAR" = some (.int 6 t)
  c_MOST_PLACES : ∃ t, mg "MOST_PLACES" = some (.int 12 t)
  c_SIDES : ∃ a, mg "SIDES" = some (.ref a) ∧ KRep K (.ktp [(.int 0), (.int 1), (.int 2), (.int 3)]) (.ref a)
  c_STEPS : ∃ a, mg "STEPS" = some (.ref a) ∧ KRep K (.ktp [(.ktp [(.int 0), (.int 1)]), (.ktp [(.int 1), (.int 0)]), (.ktp [(.int 0), (.int (-1))]), (.ktp [(.int (-1)), (.int 0)])]) (.ref a)
section
variable {P : Program} {w : World} {K : PySem.W.Frag} {mg : Str → Option Value} {base : Heap}
theorem lt_0 : Str.ofString "turn" = tx [116, 117, 114, 110] := by decide +kernel
theorem lt_1 : Str.ofString "seed" = tx [115, 101, 101, 100] := by decide +kernel
theorem lt_2 : Str.ofString "own" = tx [111, 119, 110] := by decide +kernel
theorem lt_3 : Str.ofString "1" = tx [49] := by decide +kernel
theorem lt_4 : Str.ofString "" = tx [] := by decide +kernel
noncomputable def m_is_whole : DSt → Store → Res Fl :=
  (mRet (mAndV (m1 (mVar 0) (isiD "int")) (mNotV (m1 (mVar 0) (isiD "bool")))))
noncomputable def d_is_whole : List D → Store → Res D := gcD (denOf 1 m_is_whole)
theorem ok_is_whole (T : Txt K mg) : FnOk P w K mg base CX0 1 T.f_is_whole T.e_is_whole ["thing"] (spD K mg 1 d_is_whole) :=
  fn_gc (fn_den T.F_is_whole sc_is_whole fun cdv A outer s H E hr =>
   ((pms_one (pms_ret (pm_and (pm_isi (T := "int") (by rfl) T.n_isinstance bb_isinstance (pm_var 0) (by rfl) T.n_int bb_int) (pm_one (pm_not (pm_isi (T := "bool") (by rfl) T.n_isinstance bb_isinstance (pm_var 0) (by rfl) T.n_bool bb_bool))))))))
noncomputable def m_is_tuple_of : DSt → Store → Res Fl :=
  (mRet (mAndV (m1 (mVar 0) (isiD "tuple")) (m2 (mCB lenD (mCons (mVar 0) mNil)) (mVar 1) (eqD false))))
noncomputable def d_is_tuple_of : List D → Store → Res D := gcD (denOf 2 m_is_tuple_of)
theorem ok_is_tuple_of (T : Txt K mg) : FnOk P w K mg base CX0 1 T.f_is_tuple_of T.e_is_tuple_of ["thing", "many"] (spD K mg 2 d_is_tuple_of) :=
  fn_gc (fn_den T.F_is_tuple_of sc_is_tuple_of fun cdv A outer s H E hr =>
   ((pms_one (pms_ret (pm_and (pm_isi (T := "tuple") (by rfl) T.n_isinstance bb_isinstance (pm_var 0) (by rfl) T.n_tuple bb_tuple) (pm_one (pm_cmp (od_eq hr.units) (pm_callB cd_len (by rfl) T.n_len bb_len (pma_cons (pm_var 0) pma_nil)) (pm_var 1) (nomark _))))))))
noncomputable def e1_rises : DSt → Store → Res D :=
  (m2 (mVar 1) (mVar 2) ltD)
noncomputable def m_rises : DSt → Store → Res Fl :=
  (mRet (mCB (onBls fun bs => .bl (bs.all id)) (mCons (mLc (mZip (mCons (mVar 0) (mCons (mSl (mVar 0) (mPart (mC (.int 1))) mNoPart) mNil))) (gtTup 2 (gtCons (gtName 1) (gtCons (gtName 2) gtNil))) (fun _ S => .ok true S)
  e1_rises [1, 2]) mNil)))
noncomputable def d_rises : List D → Store → Res D := gcD (denOf 3 m_rises)
theorem ok_rises (T : Txt K mg) : FnOk P w K mg base CX0 1 T.f_rises T.e_rises ["things"] (spD K mg 1 d_rises) :=
  fn_gc (fn_den T.F_rises sc_rises fun cdv A outer s H E hr =>
   ((pms_one (pms_ret (pm_callB (cd_all rfl) (by rfl) T.n_all bb_all (pma_cons (pm_lc (own := [("one", 1), ("other", 2)]) (is := [1, 2]) rfl sc_rises.nd (pmi_zip (by rfl) T.n_zip (pma_cons (pm_var 0) (pma_cons (pm_slice (pm_var 0) (pmo_some pm_int) pmo_none) pma_nil))) (blkOk_by (by show blkC N_rises (defScope s_rises) _ _ = true; decide +kernel)) (fun _ _ _ _ _ => (pmx_tup rfl (pmxs_cons (pmx_name (i := 1) sc_rises.nd rfl (Or.inl rfl)) (pmxs_cons (pmx_name (i := 2) sc_rises.nd rfl (Or.inl rfl)) pmxs_nil)))) (fun _ _ _ _ _ => pmt_nil) (fun _ _ _ _ _ => (pm_cmp (od_lt hr.units0) (pm_var 1) (pm_var 2) (nomark _))) (by decide)) pma_nil))))))
noncomputable def m_step_of : DSt → Store → Res Fl :=
  (mRet (mTup (mCons (m2 (m2 (mVar 0) (mC (.int 0)) ixD) (m2 (m2 (mC (.ktp [(.ktp [(.int 0), (.int 1)]), (.ktp [(.int 1), (.int 0)]), (.ktp [(.int 0), (.int (-1))]), (.ktp [(.int (-1)), (.int 0)])])) (mVar 1) ixD) (mC (.int 0)) ixD) addD) (mCons (m2 (m2 (mVar 0) (mC (.int 1)) ixD) (m2 (m2 (mC (.ktp [(.ktp [(.int 0), (.int 1)]), (.ktp [(.int 1), (.int 0)]), (.ktp [(.int 0), (.int (-1))]), (.ktp [(.int (-1)), (.int 0)])])) (mVar 1) ixD) (mC (.int 1)) ixD) addD) mNil))))
noncomputable def d_step_of : List D → Store → Res D := gcD (denOf 2 m_step_of)
theorem ok_step_of (T : Txt K mg) : FnOk P w K mg base CX0 1 T.f_step_of T.e_step_of ["place", "side"] (spD K mg 2 d_step_of) :=
  fn_gc (fn_den T.F_step_of sc_step_of fun cdv A outer s H E hr =>
   ((pms_one (pms_ret (pm_tup (pma_cons (pm_op od_add (pm_ix (hu_of hr) (pm_var 0) pm_int (fun _ _ => rfl)) (pm_ix (hu_of hr) (pm_ix (hu_of hr) (pm_gktp (by rfl) T.c_STEPS) (pm_var 1) (fun _ _ => rfl)) pm_int (fun _ _ => rfl))) (pma_cons (pm_op od_add (pm_ix (hu_of hr) (pm_var 0) pm_int (fun _ _ => rfl)) (pm_ix (hu_of hr) (pm_ix (hu_of hr) (pm_gktp (by rfl) T.c_STEPS) (pm_var 1) (fun _ _ => rfl)) pm_int (fun _ _ => rfl))) pma_nil)))))))
noncomputable def b1_law_spring_of : DSt → Store → Res Fl :=
  (mSet 3 (m2 (mVar 3) (m2 (mC (.int 10)) (mC (.int 60)) powD) mulX))
noncomputable def b2_law_spring_of : DSt → Store → Res Fl :=
  (mSeq (mSet 6 (m2 (mVar 5) (mC (.int 1000003)) modD))
  (mSet 2 (m2 (m2 (m2 (m2 (m2 (mVar 2) (mC (.int 69069)) mulX) (m2 (mVar 6) (mVar 6) mulX) addD) (mVar 5) addD) (mC (.int 5)) addD) (mC (.int 2305843009213693951)) modD)))
noncomputable def e1_law_spring_of : DSt → Store → Res D :=
  (m2 (mCB absD (mCons (mVar 5) mNil)) (mVar 3) modD)
noncomputable def m_law_spring_of : DSt → Store → Res Fl :=
  (mSeq (mAsg (mTup (mCons (mLstM mNil) (mCons (mC (.int 4099)) (mCons (m2 (mC (.int 10)) (mC (.int 60)) powD) mNil)))) (gtTup 3 (gtCons (gtName 1) (gtCons (gtName 2) (gtCons (gtName 3) gtNil)))))
  (mSeq (mFor (mRng1 (mCons (mC (.int 6)) mNil)) (gtName 4)
  b1_law_spring_of)
  (mSeq (mFor (mSeqI (mSl (mVar 0) mNoPart (mPart (mC (.int 63))))) (gtName 5)
  b2_law_spring_of)
  (mSeq (mIfS (mAndT (mT (m2 (mCB lenD (mCons (mVar 0) mNil)) (mC (.int 0)) (cmpI fun i j => decide (j < i)))) (mT (m2 (m2 (mVar 0) (mC (.int 0)) ixD) (m2 (mC (.int 10)) (mC (.int 18)) powD) (cmpI fun i j => decide (j ≤ i)))))
  (mSet 1 (mLcM (mSeqI (mSl (mVar 0) mNoPart (mPart (mC (.int 63))))) (gtName 5) (fun _ S => .ok true S)
  e1_law_spring_of [5]))
  mSkip)
  (mRet (mDispK [tx [111, 119, 110], tx [115, 101, 101, 100], tx [116, 117, 114, 110]] (mCons (mVar 1) (mCons (mVar 2) (mCons (mC (.int 0)) mNil)))))))))
noncomputable def d_law_spring_of : List D → Store → Res D := denOf 7 m_law_spring_of
theorem ok_law_spring_of (T : Txt K mg) : FnOk P w K mg base CX0 1 T.f_law_spring_of T.e_law_spring_of ["_law_script"] (spD K mg 1 d_law_spring_of) :=
  fn_den T.F_law_spring_of sc_law_spring_of fun cdv A outer s H E hr =>
   ((pms_cons (pms_asg (pm_tup (pma_cons (pm_lstM pma_nil) (pma_cons pm_int (pma_cons (pm_op od_pow pm_int pm_int) pma_nil)))) (pmg_tup rfl (pmgs_cons (pmg_name (i := 1) sc_law_spring_of.nd rfl (Or.inl rfl)) (pmgs_cons (pmg_name (i := 2) sc_law_spring_of.nd rfl (Or.inl rfl)) (pmgs_cons (pmg_name (i := 3) sc_law_spring_of.nd rfl (Or.inr rfl)) pmgs_nil)))))
  (pms_cons (pms_for PassesOwn.never rfl (pmi_range1 (by rfl) T.n_range (pma_cons pm_int pma_nil)) (pmg_name (i := 4) sc_law_spring_of.nd rfl (Or.inl rfl))
  (pms_one (pms_set (i := 3) sc_law_spring_of.nd rfl (Or.inr rfl) (pm_op od_mulX (pm_var 3) (pm_op od_pow pm_int pm_int)))))
  (pms_cons (pms_for PassesOwn.never rfl (pmi_seq (pm_slice (pm_var 0) pmo_none (pmo_some pm_int))) (pmg_name (i := 5) sc_law_spring_of.nd rfl (Or.inl rfl))
  (pms_cons (pms_set (i := 6) sc_law_spring_of.nd rfl (Or.inl rfl) (pm_op od_mod (pm_var 5) pm_int))
  (pms_one (pms_set (i := 2) sc_law_spring_of.nd rfl (Or.inl rfl) (pm_op od_mod (pm_op od_add (pm_op od_add (pm_op od_add (pm_op od_mulX (pm_var 2) pm_int) (pm_op od_mulX (pm_var 6) (pm_var 6))) (pm_var 5)) pm_int) pm_int)))))
  (pms_cons (pms_if (PMW.pt (pmw_and (pmt_cmp od_gt (pm_callB cd_len (by rfl) T.n_len bb_len (pma_cons (pm_var 0) pma_nil)) pm_int (nomark _)) (pmw_and1 (pmt_cmp od_ge (pm_ix (hu_of hr) (pm_var 0) pm_int (fun _ _ => rfl)) (pm_op od_pow pm_int pm_int) (nomark _)))))
  (pms_one (pms_setLcM (i := 1) (own := [("_law_cell", 5)]) (is := [5]) rfl sc_law_spring_of.nd rfl rfl (sw_true rfl rfl rfl (by decide +kernel)) (pmi_seq (pm_slice (pm_var 0) pmo_none (pmo_some pm_int))) (blkOk_by (by show blkC N_law_spring_of (defScope s_law_spring_of) _ _ = true; decide +kernel)) (fun _ _ _ _ _ => (pmx_name (i := 5) sc_law_spring_of.nd rfl (Or.inl rfl))) (fun _ _ _ _ _ => pmt_nil) (fun _ _ _ _ _ => (pm_op od_mod (pm_callB cd_abs (by rfl) T.n_abs bb_abs (pma_cons (pm_var 5) pma_nil)) (pm_var 3))) (by decide)))
  pms_nil)
  (pms_one (pms_ret (pm_dispK (pmd_cons (pm_strT lt_2) (pm_var 1) (pmd_cons (pm_strT lt_1) (pm_var 2) (pmd_cons (pm_strT lt_0) pm_int pmd_nil)))))))))))
noncomputable def t1_law_take : DSt → Store → Res Bool :=
  (mAndT (mT (m2 (m2 (mVar 0) (mC (.str (tx [111, 119, 110]))) ixD) (mLst mNil) (eqD true))) (mT (m2 (m2 (m2 (mVar 0) (mC (.str (tx [111, 119, 110]))) ixD) (mC (.int 0)) ixD) (mC (.int 0)) (eqD false))))
noncomputable def b1_law_take : DSt → Store → Res Fl :=
  (mDo (mBM "list" popD (m2 (mVar 0) (mC (.str (tx [111, 119, 110]))) ixD) (mCons (mC (.int 0)) mNil)))
noncomputable def m_law_take : DSt → Store → Res Fl :=
  (mSeq (mWhile t1_law_take
  b1_law_take)
  (mSeq (mIfS (mT (m2 (m2 (mVar 0) (mC (.str (tx [111, 119, 110]))) ixD) (mLst mNil) (eqD true)))
  (mSeq (mSet 2 (m2 (m2 (m2 (mVar 0) (mC (.str (tx [111, 119, 110]))) ixD) (mC (.int 0)) ixD) (mVar 1) modD))
  (mSeq (mAsg (m2 (m2 (m2 (mVar 0) (mC (.str (tx [111, 119, 110]))) ixD) (mC (.int 0)) ixD) (mVar 1) fdivD) (gtSub (m2 (mVar 0) (mC (.str (tx [111, 119, 110]))) ixD) (mC (.int 0)) setD))
  (mRet (mVar 2))))
  mSkip)
  (mSeq (mAsg (m2 (m2 (mVar 0) (mC (.str (tx [116, 117, 114, 110]))) ixD) (mC (.int 1)) addD) (gtSub (mVar 0) (mC (.str (tx [116, 117, 114, 110]))) setD))
  (mSeq (mSet 3 (m2 (m2 (m2 (m2 (mVar 0) (mC (.str (tx [115, 101, 101, 100]))) ixD) (m2 (m2 (mC (.int 7919)) (m2 (mVar 0) (mC (.str (tx [116, 117, 114, 110]))) ixD) mulX) (m2 (mVar 0) (mC (.str (tx [116, 117, 114, 110]))) ixD) mulX) addD) (mC (.int 48271)) mulX) (mC (.int 2305843009213693907)) modD))
  (mSeq (mSet 3 (m2 (m2 (mVar 3) (m2 (m2 (m2 (mVar 3) (mC (.int 999983)) modD) (m2 (mC (.int 131)) (m2 (mVar 0) (mC (.str (tx [116, 117, 114, 110]))) ixD) mulX) addD) (mC (.int 3)) addD) mulX) (mC (.int 2305843009213693921)) modD))
  (mRet (m2 (m2 (m2 (mVar 3) (mC (.int 89)) fdivD) (m2 (mVar 3) (mC (.int 1000033)) fdivD) addD) (mVar 1) modD)))))))
noncomputable def d_law_take : List D → Store → Res D := gcD (denOf 4 m_law_take)
theorem ok_law_take (T : Txt K mg) : FnOk P w K mg base CX0 1 T.f_law_take T.e_law_take ["_law_spring", "_law_many"] (spD K mg 2 d_law_take) :=
  fn_gc (fn_den T.F_law_take sc_law_take fun cdv A outer s H E hr =>
   ((pms_cons (pms_while PassesOwn.never (PMW.pt (pmw_and (pmt_cmp (od_ne hr.units) (pm_ix (hu_of hr) (pm_var 0) (pm_strT lt_2) (fun _ _ => rfl)) (pm_lst pma_nil) (nomark _)) (pmw_and1 (pmt_cmp (od_eq hr.units) (pm_ix (hu_of hr) (pm_ix (hu_of hr) (pm_var 0) (pm_strT lt_2) (fun _ _ => rfl)) pm_int (fun _ _ => rfl)) pm_int (nomark _)))))
  (pms_one (pms_expr (pm_bm md_pop PySem.F.plainAttrs_list PySem.F.slot_list_pop PySem.F.type_list_pop (pm_ix (hu_of hr) (pm_var 0) (pm_strT lt_2) (fun _ _ => rfl)) (pma_cons pm_int pma_nil)))))
  (pms_cons (pms_if (pmt_cmp (od_ne hr.units) (pm_ix (hu_of hr) (pm_var 0) (pm_strT lt_2) (fun _ _ => rfl)) (pm_lst pma_nil) (nomark _))
  (pms_cons (pms_set (i := 2) sc_law_take.nd rfl (Or.inl rfl) (pm_op od_mod (pm_ix (hu_of hr) (pm_ix (hu_of hr) (pm_var 0) (pm_strT lt_2) (fun _ _ => rfl)) pm_int (fun _ _ => rfl)) (pm_var 1)))
  (pms_cons (pms_asg (pm_op od_fdiv (pm_ix (hu_of hr) (pm_ix (hu_of hr) (pm_var 0) (pm_strT lt_2) (fun _ _ => rfl)) pm_int (fun _ _ => rfl)) (pm_var 1)) (pmg_sub (W := W0) (pm_ix (hu_of hr) (pm_var 0) (pm_strT lt_2) (fun _ _ => rfl)) pm_int (os_set (hu_of hr))))
  (pms_one (pms_ret (pm_var 2)))))
  pms_nil)
  (pms_cons (pms_asg (pm_op od_add (pm_ix (hu_of hr) (pm_var 0) (pm_strT lt_0) (fun _ _ => rfl)) pm_int) (pmg_sub (W := W0) (pm_var 0) (pm_strT lt_0) (os_set (hu_of hr))))
  (pms_cons (pms_set (i := 3) sc_law_take.nd rfl (Or.inl rfl) (pm_op od_mod (pm_op od_mulX (pm_op od_add (pm_ix (hu_of hr) (pm_var 0) (pm_strT lt_1) (fun _ _ => rfl)) (pm_op od_mulX (pm_op od_mulX pm_int (pm_ix (hu_of hr) (pm_var 0) (pm_strT lt_0) (fun _ _ => rfl))) (pm_ix (hu_of hr) (pm_var 0) (pm_strT lt_0) (fun _ _ => rfl)))) pm_int) pm_int))
  (pms_cons (pms_set (i := 3) sc_law_take.nd rfl (Or.inl rfl) (pm_op od_mod (pm_op od_mulX (pm_var 3) (pm_op od_add (pm_op od_add (pm_op od_mod (pm_var 3) pm_int) (pm_op od_mulX pm_int (pm_ix (hu_of hr) (pm_var 0) (pm_strT lt_0) (fun _ _ => rfl)))) pm_int)) pm_int))
  (pms_one (pms_ret (pm_op od_mod (pm_op od_add (pm_op od_fdiv (pm_var 3) pm_int) (pm_op od_fdiv (pm_var 3) pm_int)) (pm_var 1)))))))))))
noncomputable def m_law_whole : DSt → Store → Res Fl :=
  (mRet (mAndV (m1 (mVar 0) (isiD "int")) (mAndV (mNotV (m1 (mVar 0) (isiD "bool"))) (mCh (mC (.int 1)) (mVar 0) (mC (.int 6)) (cmpI fun i j => decide (i ≤ j)) (cmpI fun i j => decide (i ≤ j))))))
noncomputable def d_law_whole : List D → Store → Res D := gcD (denOf 1 m_law_whole)
theorem ok_law_whole (T : Txt K mg) : FnOk P w K mg base CX0 1 T.f_law_whole T.e_law_whole ["_law_thing"] (spD K mg 1 d_law_whole) :=
  fn_gc (fn_den T.F_law_whole sc_law_whole fun cdv A outer s H E hr =>
   ((pms_one (pms_ret (pm_and (pm_isi (T := "int") (by rfl) T.n_isinstance bb_isinstance (pm_var 0) (by rfl) T.n_int bb_int) (pm_and (pm_not (pm_isi (T := "bool") (by rfl) T.n_isinstance bb_isinstance (pm_var 0) (by rfl) T.n_bool bb_bool)) (pm_one (pm_chain od_le od_le pm_int (pm_var 0) pm_int))))))))
noncomputable def t1_law_led : DSt → Store → Res Bool :=
  (mT (m2 (mVar 6) (mVar 1) (inD false)))
noncomputable def e1_law_led : DSt → Store → Res D :=
  (mVar 6)
noncomputable def b1_law_led : DSt → Store → Res Fl :=
  (mSeq (mSet 5 (mLst (mCons (mTup (mCons (mVar 3) (mCons (m2 (mVar 4) (mC (.int 1)) addD) mNil))) (mCons (mTup (mCons (mVar 3) (mCons (m2 (mVar 4) (mC (.int 1)) subD) mNil))) (mCons (mTup (mCons (m2 (mVar 3) (mC (.int 1)) addD) (mCons (mVar 4) mNil))) (mCons (mTup (mCons (m2 (mVar 3) (mC (.int 1)) subD) (mCons (mVar 4) mNil))) mNil))))))
  (mIfS (mAndT (mT (m2 (mTup (mCons (mVar 3) (mCons (mVar 4) mNil))) (mVar 1) (inD true))) (mT (m2 (mLc (mSeqI (mVar 5)) (gtName 6) t1_law_led
  e1_law_led [6]) (mLst mNil) (eqD true))))
  (mDo (mBM "list" appendD (mVar 1) (mCons (mTup (mCons (mVar 3) (mCons (mVar 4) mNil))) mNil)))
  mSkip))
noncomputable def b2_law_led : DSt → Store → Res Fl :=
  (mFor (mSeqI (mVar 0)) (gtTup 2 (gtCons (gtName 3) (gtCons (gtName 4) gtNil)))
  b1_law_led)
noncomputable def m_law_led : DSt → Store → Res Fl :=
  (mSeq (mSet 1 (mLstM (mCons (m2 (mVar 0) (mC (.int 0)) ixD) mNil)))
  (mSeq (mFor (mRng1 (mCons (mCB lenD (mCons (mVar 0) mNil)) mNil)) (gtName 2)
  b2_law_led)
  (mRet (mCB lenD (mCons (mVar 1) mNil)))))
noncomputable def d_law_led : List D → Store → Res D := gcD (denOf 7 m_law_led)
theorem ok_law_led (T : Txt K mg) : FnOk P w K mg base CX0 1 T.f_law_led T.e_law_led ["_law_spots"] (spD K mg 1 d_law_led) :=
  fn_gc (fn_den T.F_law_led sc_law_led fun cdv A outer s H E hr =>
   ((pms_cons (pms_set (i := 1) sc_law_led.nd rfl (Or.inr rfl) (pm_lstM (pma_cons (pm_ix (hu_of hr) (pm_var 0) pm_int (fun _ _ => rfl)) pma_nil)))
  (pms_cons (pms_for PassesOwn.never rfl (pmi_range1 (by rfl) T.n_range (pma_cons (pm_callB cd_len (by rfl) T.n_len bb_len (pma_cons (pm_var 0) pma_nil)) pma_nil)) (pmg_name (i := 2) sc_law_led.nd rfl (Or.inl rfl))
  (pms_one (pms_for PassesOwn.never rfl (pmi_seq (pm_var 0)) (pmg_tup rfl (pmgs_cons (pmg_name (i := 3) sc_law_led.nd rfl (Or.inl rfl)) (pmgs_cons (pmg_name (i := 4) sc_law_led.nd rfl (Or.inl rfl)) pmgs_nil)))
  (pms_cons (pms_set (i := 5) sc_law_led.nd rfl (Or.inl rfl) (pm_lst (pma_cons (pm_tup (pma_cons (pm_var 3) (pma_cons (pm_op od_add (pm_var 4) pm_int) pma_nil))) (pma_cons (pm_tup (pma_cons (pm_var 3) (pma_cons (pm_op od_sub (pm_var 4) pm_int) pma_nil))) (pma_cons (pm_tup (pma_cons (pm_op od_add (pm_var 3) pm_int) (pma_cons (pm_var 4) pma_nil))) (pma_cons (pm_tup (pma_cons (pm_op od_sub (pm_var 3) pm_int) (pma_cons (pm_var 4) pma_nil))) pma_nil))))))
  (pms_one (pms_if (PMW.pt (pmw_and (pmt_cmp (od_notin (u65 hr)) (pm_tup (pma_cons (pm_var 3) (pma_cons (pm_var 4) pma_nil))) (pm_var 1) (by with_unfolding_all rfl)) (pmw_and1 (pmt_cmp (od_ne hr.units) (pm_lc (own := [("_law_spot", 6)]) (is := [6]) rfl sc_law_led.nd (pmi_seq (pm_var 5)) (blkOk_by (by show blkC N_law_led (defScope s_law_led) _ _ = true; decide +kernel)) (fun _ _ _ _ _ => (pmx_name (i := 6) sc_law_led.nd rfl (Or.inl rfl))) (fun _ _ _ _ _ => pmt_one (pmt_cmp (od_in (u65 hr)) (pm_var 6) (pm_var 1) (by with_unfolding_all rfl))) (fun _ _ _ _ _ => (pm_var 6)) (by decide)) (pm_lst pma_nil) (nomark _)))))
  (pms_one (pms_expr (pm_bm md_append PySem.F.plainAttrs_list PySem.F.slot_list_append PySem.F.type_list_append (pm_var 1) (pma_cons (pm_tup (pma_cons (pm_var 3) (pma_cons (pm_var 4) pma_nil))) pma_nil))))
  pms_nil))))))
  (pms_one (pms_ret (pm_callB cd_len (by rfl) T.n_len bb_len (pma_cons (pm_var 1) pma_nil))))))))
noncomputable def m_law_put : DSt → Store → Res Fl :=
  (mRet (m2 (m2 (mSl (mVar 0) mNoPart (mPart (mVar 1))) (mTup (mCons (mVar 2) mNil)) addD) (mSl (mVar 0) (mPart (m2 (mVar 1) (mC (.int 1)) addD)) mNoPart) addD))
noncomputable def d_law_put : List D → Store → Res D := gcD (denOf 3 m_law_put)
theorem ok_law_put (T : Txt K mg) : FnOk P w K mg base CX0 1 T.f_law_put T.e_law_put ["_law_some", "_law_at", "_law_thing"] (spD K mg 3 d_law_put) :=
  fn_gc (fn_den T.F_law_put sc_law_put fun cdv A outer s H E hr =>
   ((pms_one (pms_ret (pm_op od_add (pm_op od_add (pm_slice (pm_var 0) pmo_none (pmo_some (pm_var 1))) (pm_tup (pma_cons (pm_var 2) pma_nil))) (pm_slice (pm_var 0) (pmo_some (pm_op od_add (pm_var 1) pm_int)) pmo_none))))))
noncomputable def m_is_within : DSt → Store → Res Fl :=
  (mRet (mAndV (mCall 1 d_is_whole (mCons (mVar 0) mNil)) (mCh (mVar 1) (mVar 0) (mVar 2) (cmpI fun i j => decide (i ≤ j)) (cmpI fun i j => decide (i ≤ j)))))
noncomputable def d_is_within : List D → Store → Res D := gcD (denOf 3 m_is_within)
theorem ok_is_within (T : Txt K mg) : FnOk P w K mg base CX0 2 T.f_is_within T.e_is_within ["thing", "least", "most"] (spD K mg 3 d_is_within) :=
  fn_gc (fn_den T.F_is_within sc_is_within fun cdv A outer s H E hr =>
   ((pms_one (pms_ret (pm_and (pm_call (ok_is_whole T) (hr.mono (by decide)) (by rfl) T.g_is_whole T.F_is_whole.kp T.b_is_whole (pma_cons (pm_var 0) pma_nil)) (pm_one (pm_chain od_le od_le (pm_var 1) (pm_var 0) (pm_var 2))))))))
noncomputable def t1_links_of : DSt → Store → Res Bool :=
  (mT (m2 (mVar 3) (mCB lenD (mCons (mVar 1) mNil)) ltD))
noncomputable def b1_links_of : DSt → Store → Res Fl :=
  (mSeq (mSet 5 (mCall 2 d_step_of (mCons (m2 (mVar 1) (mVar 3) ixD) (mCons (mVar 4) mNil))))
  (mIfS (mAndT (mT (m2 (mVar 5) (mVar 0) (inD false))) (mT (m2 (mVar 5) (mVar 1) (inD true))))
  (mSeq (mDo (mBM "list" appendD (mVar 1) (mCons (mVar 5) mNil)))
  (mDo (mBM "list" appendD (mVar 2) (mCons (mTup (mCons (m2 (mVar 1) (mVar 3) ixD) (mCons (mVar 4) (mCons (mVar 5) mNil)))) mNil))))
  mSkip))
noncomputable def b2_links_of : DSt → Store → Res Fl :=
  (mSeq (mFor (mSeqI (mC (.ktp [(.int 0), (.int 1), (.int 2), (.int 3)]))) (gtName 4)
  b1_links_of)
  (mAug 3 (mC (.int 1))))
noncomputable def m_links_of : DSt → Store → Res Fl :=
  (mSeq (mSet 1 (mLstM (mCons (m2 (mVar 0) (mC (.int 0)) ixD) mNil)))
  (mSeq (mSet 2 (mLstM mNil))
  (mSeq (mSet 3 (mC (.int 0)))
  (mSeq (mWhile t1_links_of
  b2_links_of)
  (mRet (mVar 2))))))
noncomputable def d_links_of : List D → Store → Res D := gcF (denOf 6 m_links_of)
theorem ok_links_of (T : Txt K mg) : FnOk P w K mg base CX0 2 T.f_links_of T.e_links_of ["shape"] (spD K mg 1 d_links_of) :=
  fn_gcF (fn_den T.F_links_of sc_links_of fun cdv A outer s H E hr =>
   ((pms_cons (pms_set (i := 1) sc_links_of.nd rfl (Or.inl rfl) (pm_lstM (pma_cons (pm_ix (hu_of hr) (pm_var 0) pm_int (fun _ _ => rfl)) pma_nil)))
  (pms_cons (pms_set (i := 2) sc_links_of.nd rfl (Or.inl rfl) (pm_lstM pma_nil))
  (pms_cons (pms_set (i := 3) sc_links_of.nd rfl (Or.inl rfl) pm_int)
  (pms_cons (pms_while PassesOwn.never (pmt_cmp (od_lt hr.units0) (pm_var 3) (pm_callB cd_len (by rfl) T.n_len bb_len (pma_cons (pm_var 1) pma_nil)) (nomark _))
  (pms_cons (pms_for PassesOwn.never rfl (pmi_seq (pm_gktp (by rfl) T.c_SIDES)) (pmg_name (i := 4) sc_links_of.nd rfl (Or.inl rfl))
  (pms_cons (pms_set (i := 5) sc_links_of.nd rfl (Or.inl rfl) (pm_call (ok_step_of T) (hr.mono (by decide)) (by rfl) T.g_step_of T.F_step_of.kp T.b_step_of (pma_cons (pm_ix (hu_of hr) (pm_var 1) (pm_var 3) (fun _ _ => rfl)) (pma_cons (pm_var 4) pma_nil))))
  (pms_one (pms_if (PMW.pt (pmw_and (pmt_cmp (od_in (u65 hr)) (pm_var 5) (pm_var 0) (by with_unfolding_all rfl)) (pmw_and1 (pmt_cmp (od_notin (u65 hr)) (pm_var 5) (pm_var 1) (by with_unfolding_all rfl)))))
  (pms_cons (pms_expr (pm_bm md_append PySem.F.plainAttrs_list PySem.F.slot_list_append PySem.F.type_list_append (pm_var 1) (pma_cons (pm_var 5) pma_nil)))
  (pms_one (pms_expr (pm_bm md_append PySem.F.plainAttrs_list PySem.F.slot_list_append PySem.F.type_list_append (pm_var 2) (pma_cons (pm_tup (pma_cons (pm_ix (hu_of hr) (pm_var 1) (pm_var 3) (fun _ _ => rfl)) (pma_cons (pm_var 4) (pma_cons (pm_var 5) pma_nil)))) pma_nil)))))
  pms_nil))))
  (pms_one (pms_aug (i := 3) sc_links_of.nd rfl (Or.inl rfl) pm_int))))
  (pms_one (pms_ret (pm_var 2)))))))))
noncomputable def m_law_of : DSt → Store → Res Fl :=
  (mRet (m2 (mVar 1) (mCall 2 d_law_take (mCons (mVar 0) (mCons (mCB lenD (mCons (mVar 1) mNil)) mNil))) ixD))
noncomputable def d_law_of : List D → Store → Res D := gcD (denOf 2 m_law_of)
theorem ok_law_of (T : Txt K mg) : FnOk P w K mg base CX0 2 T.f_law_of T.e_law_of ["_law_spring", "_law_some"] (spD K mg 2 d_law_of) :=
  fn_gc (fn_den T.F_law_of sc_law_of fun cdv A outer s H E hr =>
   ((pms_one (pms_ret (pm_ix (hu_of hr) (pm_var 1) (pm_call (ok_law_take T) (hr.mono (by decide)) (by rfl) T.g_law_take T.F_law_take.kp T.b_law_take (pma_cons (pm_var 0) (pma_cons (pm_callB cd_len (by rfl) T.n_len bb_len (pma_cons (pm_var 1) pma_nil)) pma_nil))) (fun _ _ => rfl))))))
noncomputable def b1_law_looked : DSt → Store → Res Fl :=
  (mIfS (mOrT (mNotT (mT (m1 (mVar 1) (isiD "tuple")))) (mOrT (mT (m2 (mCB lenD (mCons (mVar 1) mNil)) (mC (.int 2)) (eqD true))) (mOrT (mNotT (mT (mCall 1 d_law_whole (mCons (m2 (mVar 1) (mC (.int 0)) ixD) mNil)))) (mNotT (mT (mCall 1 d_law_whole (mCons (m2 (mVar 1) (mC (.int 1)) ixD) mNil)))))))
  (mRet (mC (.bl false)))
  mSkip)
noncomputable def b2_law_looked : DSt → Store → Res Fl :=
  (mIfS (mNotT (mT (m2 (mVar 2) (mVar 3) ltD)))
  (mRet (mC (.bl false)))
  mSkip)
noncomputable def m_law_looked : DSt → Store → Res Fl :=
  (mSeq (mIfS (mOrT (mNotT (mT (m1 (mVar 0) (isiD "tuple")))) (mNotT (mT (mCh (mC (.int 1)) (mCB lenD (mCons (mVar 0) mNil)) (mC (.int 12)) (cmpI fun i j => decide (i ≤ j)) (cmpI fun i j => decide (i ≤ j))))))
  (mRet (mC (.bl false)))
  mSkip)
  (mSeq (mFor (mSeqI (mVar 0)) (gtName 1)
  b1_law_looked)
  (mSeq (mFor (mZip (mCons (mVar 0) (mCons (mSl (mVar 0) (mPart (mC (.int 1))) mNoPart) mNil))) (gtTup 2 (gtCons (gtName 2) (gtCons (gtName 3) gtNil)))
  b2_law_looked)
  (mRet (m2 (mCall 1 d_law_led (mCons (mVar 0) mNil)) (mCB lenD (mCons (mVar 0) mNil)) (eqD false))))))
noncomputable def d_law_looked : List D → Store → Res D := gcD (denOf 4 m_law_looked)
theorem ok_law_looked (T : Txt K mg) : FnOk P w K mg base CX0 2 T.f_law_looked T.e_law_looked ["_law_thing"] (spD K mg 1 d_law_looked) :=
  fn_gc (fn_den T.F_law_looked sc_law_looked fun cdv A outer s H E hr =>
   ((pms_cons (pms_if (PMW.pt (pmw_or (pmt_not (pmt_val (pm_isi (T := "tuple") (by rfl) T.n_isinstance bb_isinstance (pm_var 0) (by rfl) T.n_tuple bb_tuple))) (pmw_or1 (pmt_not (pmt_chain od_le od_le pm_int (pm_callB cd_len (by rfl) T.n_len bb_len (pma_cons (pm_var 0) pma_nil)) pm_int)))))
  (pms_one (pms_ret pm_bl))
  pms_nil)
  (pms_cons (pms_for PassesOwn.never rfl (pmi_seq (pm_var 0)) (pmg_name (i := 1) sc_law_looked.nd rfl (Or.inl rfl))
  (pms_one (pms_if (PMW.pt (pmw_or (pmt_not (pmt_val (pm_isi (T := "tuple") (by rfl) T.n_isinstance bb_isinstance (pm_var 1) (by rfl) T.n_tuple bb_tuple))) (pmw_or (pmt_cmp (od_ne hr.units) (pm_callB cd_len (by rfl) T.n_len bb_len (pma_cons (pm_var 1) pma_nil)) pm_int (nomark _)) (pmw_or (pmt_not (pmt_val (pm_call (ok_law_whole T) (hr.mono (by decide)) (by rfl) T.g_law_whole T.F_law_whole.kp T.b_law_whole (pma_cons (pm_ix (hu_of hr) (pm_var 1) pm_int (fun _ _ => rfl)) pma_nil)))) (pmw_or1 (pmt_not (pmt_val (pm_call (ok_law_whole T) (hr.mono (by decide)) (by rfl) T.g_law_whole T.F_law_whole.kp T.b_law_whole (pma_cons (pm_ix (hu_of hr) (pm_var 1) pm_int (fun _ _ => rfl)) pma_nil)))))))))
  (pms_one (pms_ret pm_bl))
  pms_nil)))
  (pms_cons (pms_for PassesOwn.never rfl (pmi_zip (by rfl) T.n_zip (pma_cons (pm_var 0) (pma_cons (pm_slice (pm_var 0) (pmo_some pm_int) pmo_none) pma_nil))) (pmg_tup rfl (pmgs_cons (pmg_name (i := 2) sc_law_looked.nd rfl (Or.inl rfl)) (pmgs_cons (pmg_name (i := 3) sc_law_looked.nd rfl (Or.inl rfl)) pmgs_nil)))
  (pms_one (pms_if (pmt_not (pmt_cmp (od_lt hr.units0) (pm_var 2) (pm_var 3) (nomark _)))
  (pms_one (pms_ret pm_bl))
  pms_nil)))
  (pms_one (pms_ret (pm_cmp (od_eq hr.units) (pm_call (ok_law_led T) (hr.mono (by decide)) (by rfl) T.g_law_led T.F_law_led.kp T.b_law_led (pma_cons (pm_var 0) pma_nil)) (pm_callB cd_len (by rfl) T.n_len bb_len (pma_cons (pm_var 0) pma_nil)) (nomark _)))))))))
noncomputable def t1_law_rings : DSt → Store → Res Bool :=
  (mOrT (mT (m2 (mVar 4) (mTup (mCons (mC (.int 1)) (mCons (m2 (mC (.int 1)) (mVar 1) addD) mNil))) (inD false))) (mT (m2 (mVar 5) (mTup (mCons (mC (.int 1)) (mCons (m2 (mC (.int 1)) (mVar 2) addD) mNil))) (inD false))))
noncomputable def e1_law_rings : DSt → Store → Res D :=
  (mTup (mCons (mVar 4) (mCons (mVar 5) mNil)))
noncomputable def b1_law_rings : DSt → Store → Res Fl :=
  (mDo (mBM "list" extendD (mVar 3) (mCons (mLc (mRng2 (mCons (mC (.int 1)) (mCons (m2 (mC (.int 2)) (mVar 2) addD) mNil))) (gtName 5) t1_law_rings
  e1_law_rings [5]) mNil)))
noncomputable def m_law_rings : DSt → Store → Res Fl :=
  (mSeq (mAsg (mTup (mCons (m2 (mC (.int 1)) (mCall 2 d_law_take (mCons (mVar 0) (mCons (mC (.int 4)) mNil))) addD) (mCons (m2 (mC (.int 1)) (mCall 2 d_law_take (mCons (mVar 0) (mCons (mC (.int 4)) mNil))) addD) mNil))) (gtTup 2 (gtCons (gtName 1) (gtCons (gtName 2) gtNil))))
  (mSeq (mSet 3 (mLstM mNil))
  (mSeq (mFor (mRng2 (mCons (mC (.int 1)) (mCons (m2 (mC (.int 2)) (mVar 1) addD) mNil))) (gtName 4)
  b1_law_rings)
  (mRet (mCB tupleD (mCons (mCB sortedD (mCons (mVar 3) mNil)) mNil))))))
noncomputable def d_law_rings : List D → Store → Res D := gcD (denOf 6 m_law_rings)
theorem ok_law_rings (T : Txt K mg) : FnOk P w K mg base CX0 2 T.f_law_rings T.e_law_rings ["_law_spring"] (spD K mg 1 d_law_rings) :=
  fn_gc (fn_den T.F_law_rings sc_law_rings fun cdv A outer s H E hr =>
   ((pms_cons (pms_asg (pm_tup (pma_cons (pm_op od_add pm_int (pm_call (ok_law_take T) (hr.mono (by decide)) (by rfl) T.g_law_take T.F_law_take.kp T.b_law_take (pma_cons (pm_var 0) (pma_cons pm_int pma_nil)))) (pma_cons (pm_op od_add pm_int (pm_call (ok_law_take T) (hr.mono (by decide)) (by rfl) T.g_law_take T.F_law_take.kp T.b_law_take (pma_cons (pm_var 0) (pma_cons pm_int pma_nil)))) pma_nil))) (pmg_tup rfl (pmgs_cons (pmg_name (i := 1) sc_law_rings.nd rfl (Or.inr rfl)) (pmgs_cons (pmg_name (i := 2) sc_law_rings.nd rfl (Or.inr rfl)) pmgs_nil))))
  (pms_cons (pms_set (i := 3) sc_law_rings.nd rfl (Or.inl rfl) (pm_lstM pma_nil))
  (pms_cons (pms_for PassesOwn.never rfl (pmi_range2 (by rfl) T.n_range (pma_cons pm_int (pma_cons (pm_op od_add pm_int (pm_var 1)) pma_nil))) (pmg_name (i := 4) sc_law_rings.nd rfl (Or.inr rfl))
  (pms_one (pms_expr (pm_bm md_extend PySem.F.plainAttrs_list PySem.F.slot_list_extend PySem.F.type_list_extend (pm_var 3) (pma_cons (pm_lc (own := [("_law_y", 5)]) (is := [5]) rfl sc_law_rings.nd (pmi_range2 (by rfl) T.n_range (pma_cons pm_int (pma_cons (pm_op od_add pm_int (pm_var 2)) pma_nil))) (blkOk_by (by show blkC N_law_rings (defScope s_law_rings) _ _ = true; decide +kernel)) (fun _ _ _ _ _ => (pmx_name (i := 5) sc_law_rings.nd rfl (Or.inl rfl))) (fun _ _ _ _ _ => pmt_one (PMW.pt (pmw_or (pmt_cmp (od_in (u65 hr)) (pm_var 4) (pm_tup (pma_cons pm_int (pma_cons (pm_op od_add pm_int (pm_var 1)) pma_nil))) (by with_unfolding_all rfl)) (pmw_or1 (pmt_cmp (od_in (u65 hr)) (pm_var 5) (pm_tup (pma_cons pm_int (pma_cons (pm_op od_add pm_int (pm_var 2)) pma_nil))) (by with_unfolding_all rfl)))))) (fun _ _ _ _ _ => (pm_tup (pma_cons (pm_var 4) (pma_cons (pm_var 5) pma_nil)))) (by decide)) pma_nil)))))
  (pms_one (pms_ret (pm_callTy cd_tuple (by rfl) T.n_tuple bb_tuple (pma_cons (pm_callB (cd_sorted hr.units) (by rfl) T.n_sorted bb_sorted (pma_cons (pm_var 3) pma_nil)) pma_nil)))))))))
noncomputable def e1_is_spot : DSt → Store → Res D :=
  (mCall 3 d_is_within (mCons (mVar 1) (mCons (mC (.int 1)) (mCons (mC (.int 6)) mNil))))
noncomputable def m_is_spot : DSt → Store → Res Fl :=
  (mRet (mAndV (mCall 2 d_is_tuple_of (mCons (mVar 0) (mCons (mC (.int 2)) mNil))) (mCB (onBls fun bs => .bl (bs.all id)) (mCons (mLc (mSeqI (mVar 0)) (gtName 1) (fun _ S => .ok true S)
  e1_is_spot [1]) mNil))))
noncomputable def d_is_spot : List D → Store → Res D := gcD (denOf 2 m_is_spot)
theorem ok_is_spot (T : Txt K mg) : FnOk P w K mg base CX0 3 T.f_is_spot T.e_is_spot ["thing"] (spD K mg 1 d_is_spot) :=
  fn_gc (fn_den T.F_is_spot sc_is_spot fun cdv A outer s H E hr =>
   ((pms_one (pms_ret (pm_and (pm_call (ok_is_tuple_of T) (hr.mono (by decide)) (by rfl) T.g_is_tuple_of T.F_is_tuple_of.kp T.b_is_tuple_of (pma_cons (pm_var 0) (pma_cons pm_int pma_nil))) (pm_one (pm_callB (cd_all rfl) (by rfl) T.n_all bb_all (pma_cons (pm_lc (own := [("part", 1)]) (is := [1]) rfl sc_is_spot.nd (pmi_seq (pm_var 0)) (blkOk_by (by show blkC N_is_spot (defScope s_is_spot) _ _ = true; decide +kernel)) (fun _ _ _ _ _ => (pmx_name (i := 1) sc_is_spot.nd rfl (Or.inl rfl))) (fun _ _ _ _ _ => pmt_nil) (fun _ _ _ _ _ => (pm_call (ok_is_within T) (hr.mono (by decide)) (by rfl) T.g_is_within T.F_is_within.kp T.b_is_within (pma_cons (pm_var 1) (pma_cons pm_int (pma_cons (pm_gint (by rfl) T.c_FAR) pma_nil))))) (by decide)) pma_nil))))))))
noncomputable def b1_law_grown_shape : DSt → Store → Res Fl :=
  (mSeq (mAsg (mCall 2 d_law_of (mCons (mVar 0) (mCons (mVar 2) mNil))) (gtTup 2 (gtCons (gtName 4) (gtCons (gtName 5) gtNil))))
  (mSeq (mAsg (mCall 2 d_law_of (mCons (mVar 0) (mCons (mLst (mCons (mTup (mCons (mC (.int 0)) (mCons (mC (.int 1)) mNil))) (mCons (mTup (mCons (mC (.int 1)) (mCons (mC (.int 0)) mNil))) (mCons (mTup (mCons (mC (.int 0)) (mCons (mNeg (mC (.int 1))) mNil))) (mCons (mTup (mCons (mNeg (mC (.int 1))) (mCons (mC (.int 0)) mNil))) mNil))))) mNil))) (gtTup 2 (gtCons (gtName 6) (gtCons (gtName 7) gtNil))))
  (mSeq (mSet 8 (mTup (mCons (m2 (mVar 4) (mVar 6) addD) (mCons (m2 (mVar 5) (mVar 7) addD) mNil))))
  (mIfS (mAndT (mT (m2 (mVar 8) (mVar 2) (inD true))) (mAndT (mT (m2 (mC (.int 1)) (mCB minTD (mCons (mVar 8) mNil)) (cmpI fun i j => decide (i ≤ j)))) (mT (m2 (mCB maxTD (mCons (mVar 8) mNil)) (mC (.int 6)) (cmpI fun i j => decide (i ≤ j))))))
  (mDo (mBM "list" appendD (mVar 2) (mCons (mVar 8) mNil)))
  mSkip))))
noncomputable def m_law_grown_shape : DSt → Store → Res Fl :=
  (mSeq (mSet 2 (mLstM (mCons (mTup (mCons (m2 (mC (.int 1)) (mCall 2 d_law_take (mCons (mVar 0) (mCons (mC (.int 6)) mNil))) addD) (mCons (m2 (mC (.int 1)) (mCall 2 d_law_take (mCons (mVar 0) (mCons (mC (.int 6)) mNil))) addD) mNil))) mNil)))
  (mSeq (mFor (mRng1 (mCons (m2 (mVar 1) (mC (.int 1)) subD) mNil)) (gtName 3)
  b1_law_grown_shape)
  (mRet (mCB tupleD (mCons (mCB sortedD (mCons (mVar 2) mNil)) mNil)))))
noncomputable def d_law_grown_shape : List D → Store → Res D := gcD (denOf 9 m_law_grown_shape)
theorem ok_law_grown_shape (T : Txt K mg) : FnOk P w K mg base CX0 3 T.f_law_grown_shape T.e_law_grown_shape ["_law_spring", "_law_many"] (spD K mg 2 d_law_grown_shape) :=
  fn_gc (fn_den T.F_law_grown_shape sc_law_grown_shape fun cdv A outer s H E hr =>
   ((pms_cons (pms_set (i := 2) sc_law_grown_shape.nd rfl (Or.inl rfl) (pm_lstM (pma_cons (pm_tup (pma_cons (pm_op od_add pm_int (pm_call (ok_law_take T) (hr.mono (by decide)) (by rfl) T.g_law_take T.F_law_take.kp T.b_law_take (pma_cons (pm_var 0) (pma_cons pm_int pma_nil)))) (pma_cons (pm_op od_add pm_int (pm_call (ok_law_take T) (hr.mono (by decide)) (by rfl) T.g_law_take T.F_law_take.kp T.b_law_take (pma_cons (pm_var 0) (pma_cons pm_int pma_nil)))) pma_nil))) pma_nil)))
  (pms_cons (pms_for PassesOwn.never rfl (pmi_range1 (by rfl) T.n_range (pma_cons (pm_op od_sub (pm_var 1) pm_int) pma_nil)) (pmg_name (i := 3) sc_law_grown_shape.nd rfl (Or.inl rfl))
  (pms_cons (pms_asg (pm_call (ok_law_of T) (hr.mono (by decide)) (by rfl) T.g_law_of T.F_law_of.kp T.b_law_of (pma_cons (pm_var 0) (pma_cons (pm_var 2) pma_nil))) (pmg_tup rfl (pmgs_cons (pmg_name (i := 4) sc_law_grown_shape.nd rfl (Or.inl rfl)) (pmgs_cons (pmg_name (i := 5) sc_law_grown_shape.nd rfl (Or.inl rfl)) pmgs_nil))))
  (pms_cons (pms_asg (pm_call (ok_law_of T) (hr.mono (by decide)) (by rfl) T.g_law_of T.F_law_of.kp T.b_law_of (pma_cons (pm_var 0) (pma_cons (pm_lst (pma_cons (pm_tup (pma_cons pm_int (pma_cons pm_int pma_nil))) (pma_cons (pm_tup (pma_cons pm_int (pma_cons pm_int pma_nil))) (pma_cons (pm_tup (pma_cons pm_int (pma_cons (pm_neg pm_int) pma_nil))) (pma_cons (pm_tup (pma_cons (pm_neg pm_int) (pma_cons pm_int pma_nil))) pma_nil))))) pma_nil))) (pmg_tup rfl (pmgs_cons (pmg_name (i := 6) sc_law_grown_shape.nd rfl (Or.inl rfl)) (pmgs_cons (pmg_name (i := 7) sc_law_grown_shape.nd rfl (Or.inl rfl)) pmgs_nil))))
  (pms_cons (pms_set (i := 8) sc_law_grown_shape.nd rfl (Or.inl rfl) (pm_tup (pma_cons (pm_op od_add (pm_var 4) (pm_var 6)) (pma_cons (pm_op od_add (pm_var 5) (pm_var 7)) pma_nil))))
  (pms_one (pms_if (PMW.pt (pmw_and (pmt_cmp (od_notin (u65 hr)) (pm_var 8) (pm_var 2) (by with_unfolding_all rfl)) (pmw_and (pmt_cmp od_le pm_int (pm_callB (cd_minT rfl hr.units) (by rfl) T.n_min bb_min (pma_cons (pm_var 8) pma_nil)) (nomark _)) (pmw_and1 (pmt_cmp od_le (pm_callB (cd_maxT rfl hr.units) (by rfl) T.n_max bb_max (pma_cons (pm_var 8) pma_nil)) pm_int (nomark _))))))
  (pms_one (pms_expr (pm_bm md_append PySem.F.plainAttrs_list PySem.F.slot_list_append PySem.F.type_list_append (pm_var 2) (pma_cons (pm_var 8) pma_nil))))
  pms_nil))))))
  (pms_one (pms_ret (pm_callTy cd_tuple (by rfl) T.n_tuple bb_tuple (pma_cons (pm_callB (cd_sorted hr.units) (by rfl) T.n_sorted bb_sorted (pma_cons (pm_var 2) pma_nil)) pma_nil))))))))
noncomputable def m_law_bent : DSt → Store → Res Fl :=
  (mSeq (mPar 2 3 (mCons (mCall 2 d_law_take (mCons (mVar 0) (mCons (mCB lenD (mCons (mVar 1) mNil)) mNil))) (mCons (mTup (mCons (m2 (mC (.int 1)) (mCall 2 d_law_take (mCons (mVar 0) (mCons (mC (.int 6)) mNil))) addD) (mCons (m2 (mC (.int 1)) (mCall 2 d_law_take (mCons (mVar 0) (mCons (mC (.int 6)) mNil))) addD) mNil))) mNil)))
  (mSeq (mAsg (m2 (mVar 1) (mVar 2) ixD) (gtTup 2 (gtCons (gtName 4) (gtCons (gtName 5) gtNil))))
  (mSeq (mSet 6 (mCall 2 d_law_take (mCons (mVar 0) (mCons (mC (.int 12)) mNil))))
  (mSeq (mIfS (mT (m2 (mVar 6) (mC (.int 0)) (eqD false)))
  (mRet (mCall 3 d_law_put (mCons (mVar 1) (mCons (mVar 2) (mCons (mCall 2 d_law_of (mCons (mVar 0) (mCons (mLst (mCons (mTup (mCons (mVar 4) (mCons (m2 (mVar 5) (mC (.int 1)) addD) mNil))) (mCons (mTup (mCons (m2 (mVar 4) (mC (.int 1)) addD) (mCons (mVar 5) mNil))) (mCons (mTup (mCons (mVar 4) (mCons (m2 (mVar 5) (mC (.int 1)) subD) mNil))) (mCons (mTup (mCons (m2 (mVar 4) (mC (.int 1)) subD) (mCons (mVar 5) mNil))) mNil))))) mNil))) mNil)))))
  mSkip)
  (mSeq (mIfS (mT (m2 (mVar 6) (mC (.int 1)) (eqD false)))
  (mRet (m2 (m2 (mSl (mVar 1) mNoPart (mPart (mVar 2))) (mSl (mVar 1) (mPart (mVar 2)) (mPart (m2 (mVar 2) (mC (.int 1)) addD))) addD) (mSl (mVar 1) (mPart (mVar 2)) mNoPart) addD))
  mSkip)
  (mSeq (mIfS (mT (m2 (mVar 6) (mC (.int 2)) (eqD false)))
  (mRet (m2 (mSl (mVar 1) mNoPart (mPart (mVar 2))) (mSl (mVar 1) (mPart (m2 (mVar 2) (mC (.int 1)) addD)) mNoPart) addD))
  mSkip)
  (mSeq (mIfS (mT (m2 (mVar 6) (mC (.int 3)) (eqD false)))
  (mRet (mCB tupleD (mCons (mCB sortedTD (mCons (m2 (mVar 1) (mTup (mCons (mVar 3) mNil)) addD) mNil)) mNil)))
  mSkip)
  (mSeq (mIfS (mT (m2 (mVar 6) (mC (.int 4)) (eqD false)))
  (mRet (m2 (m2 (mSl (mVar 1) mNoPart (mPart (mVar 2))) (mTup (mCons (mVar 3) mNil)) addD) (mSl (mVar 1) (mPart (mVar 2)) mNoPart) addD))
  mSkip)
  (mSeq (mIfS (mT (m2 (mVar 6) (mC (.int 5)) (eqD false)))
  (mSeq (mSet 7 (mCall 2 d_law_take (mCons (mVar 0) (mCons (mCB lenD (mCons (mVar 1) mNil)) mNil))))
  (mRet (mCall 3 d_law_put (mCons (mCall 3 d_law_put (mCons (mVar 1) (mCons (mVar 2) (mCons (m2 (mVar 1) (mVar 7) ixD) mNil)))) (mCons (mVar 7) (mCons (m2 (mVar 1) (mVar 2) ixD) mNil))))))
  mSkip)
  (mSeq (mSet 8 (mCall 2 d_law_of (mCons (mVar 0) (mCons (mLst (mCons (mC (.int 0)) (mCons (mC (.int 7)) (mCons (mNeg (mVar 4)) (mCons (m2 (m2 (mC (.int 10)) (mC (.int 30)) powD) (mVar 4) addD) (mCons (mC (.bl true)) (mCons (mC (.str (tx [49]))) (mCons (mC .non) (mCons (mTup (mCons (mVar 4) mNil)) (mCons (mC (.int 1)) mNil)))))))))) mNil))))
  (mSeq (mIfS (mT (m2 (mVar 6) (mC (.int 8)) ltD))
  (mRet (mCall 3 d_law_put (mCons (mVar 1) (mCons (mVar 2) (mCons (mCall 2 d_law_of (mCons (mVar 0) (mCons (mLst (mCons (mTup (mCons (mVar 8) (mCons (mVar 5) mNil))) (mCons (mTup (mCons (mVar 4) (mCons (mVar 8) mNil))) mNil))) mNil))) mNil)))))
  mSkip)
  (mRet (mCall 2 d_law_of (mCons (mVar 0) (mCons (mLst (mCons (mCall 3 d_law_put (mCons (mVar 1) (mCons (mVar 2) (mCons (mTup (mCons (mVar 4) mNil)) mNil)))) (mCons (mCall 3 d_law_put (mCons (mVar 1) (mCons (mVar 2) (mCons (mTup (mCons (mVar 4) (mCons (mVar 5) (mCons (mVar 8) mNil)))) mNil)))) (mCons (mCall 3 d_law_put (mCons (mVar 1) (mCons (mVar 2) (mCons (mLst (mCons (mVar 4) (mCons (mVar 5) mNil))) mNil)))) (mCons (mCB (listD false) (mCons (mVar 1) mNil)) (mCons (mCall 3 d_law_put (mCons (mVar 1) (mCons (mVar 2) (mCons (mVar 8) mNil)))) (mCons (mTup (mCons (mVar 1) mNil)) (mCons (m2 (mVar 1) (mTup (mCons (mTup mNil) mNil)) addD) (mCons (m1 (mVar 1) revTD) mNil))))))))) mNil)))))))))))))))
noncomputable def d_law_bent : List D → Store → Res D := denOf 9 m_law_bent
theorem ok_law_bent (T : Txt K mg) : FnOk P w K mg base CX0 3 T.f_law_bent T.e_law_bent ["_law_spring", "_law_shape"] (spD K mg 2 d_law_bent) :=
  fn_den T.F_law_bent sc_law_bent fun cdv A outer s H E hr =>
   ((pms_cons (pms_par (i := 2) (j := 3) rfl sc_law_bent.nd rfl rfl (by decide) rfl rfl (pma_cons (pm_call (ok_law_take T) (hr.mono (by decide)) (by rfl) T.g_law_take T.F_law_take.kp T.b_law_take (pma_cons (pm_var 0) (pma_cons (pm_callB cd_len (by rfl) T.n_len bb_len (pma_cons (pm_var 1) pma_nil)) pma_nil))) (pma_cons (pm_tup (pma_cons (pm_op od_add pm_int (pm_call (ok_law_take T) (hr.mono (by decide)) (by rfl) T.g_law_take T.F_law_take.kp T.b_law_take (pma_cons (pm_var 0) (pma_cons pm_int pma_nil)))) (pma_cons (pm_op od_add pm_int (pm_call (ok_law_take T) (hr.mono (by decide)) (by rfl) T.g_law_take T.F_law_take.kp T.b_law_take (pma_cons (pm_var 0) (pma_cons pm_int pma_nil)))) pma_nil))) pma_nil)) (by rfl))
  (pms_cons (pms_asg (pm_ix (hu_of hr) (pm_var 1) (pm_var 2) (fun _ _ => rfl)) (pmg_tup rfl (pmgs_cons (pmg_name (i := 4) sc_law_bent.nd rfl (Or.inl rfl)) (pmgs_cons (pmg_name (i := 5) sc_law_bent.nd rfl (Or.inl rfl)) pmgs_nil))))
  (pms_cons (pms_set (i := 6) sc_law_bent.nd rfl (Or.inl rfl) (pm_call (ok_law_take T) (hr.mono (by decide)) (by rfl) T.g_law_take T.F_law_take.kp T.b_law_take (pma_cons (pm_var 0) (pma_cons pm_int pma_nil))))
  (pms_cons (pms_if (pmt_cmp (od_eq hr.units) (pm_var 6) pm_int (nomark _))
  (pms_one (pms_ret (pm_call (ok_law_put T) (hr.mono (by decide)) (by rfl) T.g_law_put T.F_law_put.kp T.b_law_put (pma_cons (pm_var 1) (pma_cons (pm_var 2) (pma_cons (pm_call (ok_law_of T) (hr.mono (by decide)) (by rfl) T.g_law_of T.F_law_of.kp T.b_law_of (pma_cons (pm_var 0) (pma_cons (pm_lst (pma_cons (pm_tup (pma_cons (pm_var 4) (pma_cons (pm_op od_add (pm_var 5) pm_int) pma_nil))) (pma_cons (pm_tup (pma_cons (pm_op od_add (pm_var 4) pm_int) (pma_cons (pm_var 5) pma_nil))) (pma_cons (pm_tup (pma_cons (pm_var 4) (pma_cons (pm_op od_sub (pm_var 5) pm_int) pma_nil))) (pma_cons (pm_tup (pma_cons (pm_op od_sub (pm_var 4) pm_int) (pma_cons (pm_var 5) pma_nil))) pma_nil))))) pma_nil))) pma_nil))))))
  pms_nil)
  (pms_cons (pms_if (pmt_cmp (od_eq hr.units) (pm_var 6) pm_int (nomark _))
  (pms_one (pms_ret (pm_op od_add (pm_op od_add (pm_slice (pm_var 1) pmo_none (pmo_some (pm_var 2))) (pm_slice (pm_var 1) (pmo_some (pm_var 2)) (pmo_some (pm_op od_add (pm_var 2) pm_int)))) (pm_slice (pm_var 1) (pmo_some (pm_var 2)) pmo_none))))
  pms_nil)
  (pms_cons (pms_if (pmt_cmp (od_eq hr.units) (pm_var 6) pm_int (nomark _))
  (pms_one (pms_ret (pm_op od_add (pm_slice (pm_var 1) pmo_none (pmo_some (pm_var 2))) (pm_slice (pm_var 1) (pmo_some (pm_op od_add (pm_var 2) pm_int)) pmo_none))))
  pms_nil)
  (pms_cons (pms_if (pmt_cmp (od_eq hr.units) (pm_var 6) pm_int (nomark _))
  (pms_one (pms_ret (pm_callTy cd_tuple (by rfl) T.n_tuple bb_tuple (pma_cons (pm_callB (cd_sortedT hr.units) (by rfl) T.n_sorted bb_sorted (pma_cons (pm_op od_add (pm_var 1) (pm_tup (pma_cons (pm_var 3) pma_nil))) pma_nil)) pma_nil))))
  pms_nil)
  (pms_cons (pms_if (pmt_cmp (od_eq hr.units) (pm_var 6) pm_int (nomark _))
  (pms_one (pms_ret (pm_op od_add (pm_op od_add (pm_slice (pm_var 1) pmo_none (pmo_some (pm_var 2))) (pm_tup (pma_cons (pm_var 3) pma_nil))) (pm_slice (pm_var 1) (pmo_some (pm_var 2)) pmo_none))))
  pms_nil)
  (pms_cons (pms_if (pmt_cmp (od_eq hr.units) (pm_var 6) pm_int (nomark _))
  (pms_cons (pms_set (i := 7) sc_law_bent.nd rfl (Or.inl rfl) (pm_call (ok_law_take T) (hr.mono (by decide)) (by rfl) T.g_law_take T.F_law_take.kp T.b_law_take (pma_cons (pm_var 0) (pma_cons (pm_callB cd_len (by rfl) T.n_len bb_len (pma_cons (pm_var 1) pma_nil)) pma_nil))))
  (pms_one (pms_ret (pm_call (ok_law_put T) (hr.mono (by decide)) (by rfl) T.g_law_put T.F_law_put.kp T.b_law_put (pma_cons (pm_call (ok_law_put T) (hr.mono (by decide)) (by rfl) T.g_law_put T.F_law_put.kp T.b_law_put (pma_cons (pm_var 1) (pma_cons (pm_var 2) (pma_cons (pm_ix (hu_of hr) (pm_var 1) (pm_var 7) (fun _ _ => rfl)) pma_nil)))) (pma_cons (pm_var 7) (pma_cons (pm_ix (hu_of hr) (pm_var 1) (pm_var 2) (fun _ _ => rfl)) pma_nil)))))))
  pms_nil)
  (pms_cons (pms_set (i := 8) sc_law_bent.nd rfl (Or.inl rfl) (pm_call (ok_law_of T) (hr.mono (by decide)) (by rfl) T.g_law_of T.F_law_of.kp T.b_law_of (pma_cons (pm_var 0) (pma_cons (pm_lst (pma_cons pm_int (pma_cons pm_int (pma_cons (pm_neg (pm_var 4)) (pma_cons (pm_op od_add (pm_op od_pow pm_int pm_int) (pm_var 4)) (pma_cons pm_bl (pma_cons (pm_strT lt_3) (pma_cons pm_non (pma_cons (pm_tup (pma_cons (pm_var 4) pma_nil)) (pma_cons pm_int pma_nil)))))))))) pma_nil))))
  (pms_cons (pms_if (pmt_cmp (od_lt hr.units0) (pm_var 6) pm_int (nomark _))
  (pms_one (pms_ret (pm_call (ok_law_put T) (hr.mono (by decide)) (by rfl) T.g_law_put T.F_law_put.kp T.b_law_put (pma_cons (pm_var 1) (pma_cons (pm_var 2) (pma_cons (pm_call (ok_law_of T) (hr.mono (by decide)) (by rfl) T.g_law_of T.F_law_of.kp T.b_law_of (pma_cons (pm_var 0) (pma_cons (pm_lst (pma_cons (pm_tup (pma_cons (pm_var 8) (pma_cons (pm_var 5) pma_nil))) (pma_cons (pm_tup (pma_cons (pm_var 4) (pma_cons (pm_var 8) pma_nil))) pma_nil))) pma_nil))) pma_nil))))))
  pms_nil)
  (pms_one (pms_ret (pm_call (ok_law_of T) (hr.mono (by decide)) (by rfl) T.g_law_of T.F_law_of.kp T.b_law_of (pma_cons (pm_var 0) (pma_cons (pm_lst (pma_cons (pm_call (ok_law_put T) (hr.mono (by decide)) (by rfl) T.g_law_put T.F_law_put.kp T.b_law_put (pma_cons (pm_var 1) (pma_cons (pm_var 2) (pma_cons (pm_tup (pma_cons (pm_var 4) pma_nil)) pma_nil)))) (pma_cons (pm_call (ok_law_put T) (hr.mono (by decide)) (by rfl) T.g_law_put T.F_law_put.kp T.b_law_put (pma_cons (pm_var 1) (pma_cons (pm_var 2) (pma_cons (pm_tup (pma_cons (pm_var 4) (pma_cons (pm_var 5) (pma_cons (pm_var 8) pma_nil)))) pma_nil)))) (pma_cons (pm_call (ok_law_put T) (hr.mono (by decide)) (by rfl) T.g_law_put T.F_law_put.kp T.b_law_put (pma_cons (pm_var 1) (pma_cons (pm_var 2) (pma_cons (pm_lst (pma_cons (pm_var 4) (pma_cons (pm_var 5) pma_nil))) pma_nil)))) (pma_cons (pm_callTy (cd_list rfl false) (by rfl) T.n_list bb_list (pma_cons (pm_var 1) pma_nil)) (pma_cons (pm_call (ok_law_put T) (hr.mono (by decide)) (by rfl) T.g_law_put T.F_law_put.kp T.b_law_put (pma_cons (pm_var 1) (pma_cons (pm_var 2) (pma_cons (pm_var 8) pma_nil)))) (pma_cons (pm_tup (pma_cons (pm_var 1) pma_nil)) (pma_cons (pm_op od_add (pm_var 1) (pm_tup (pma_cons (pm_tup pma_nil) pma_nil))) (pma_cons (pm_revT (pm_var 1)) pma_nil))))))))) pma_nil)))))))))))))))))
noncomputable def e1_is_shape : DSt → Store → Res D :=
  (mCall 1 d_is_spot (mCons (mVar 1) mNil))
noncomputable def m_is_shape : DSt → Store → Res Fl :=
  (mSeq (mIfS (mOrT (mNotT (mT (m1 (mVar 0) (isiD "tuple")))) (mOrT (mNotT (mT (mCh (mC (.int 1)) (mCB lenD (mCons (mVar 0) mNil)) (mC (.int 12)) (cmpI fun i j => decide (i ≤ j)) (cmpI fun i j => decide (i ≤ j))))) (mNotT (mT (mCB (onBls fun bs => .bl (bs.all id)) (mCons (mLc (mSeqI (mVar 0)) (gtName 1) (fun _ S => .ok true S)
  e1_is_shape [1]) mNil))))))
  (mRet (mC (.bl false)))
  mSkip)
  (mRet (mAndV (mCall 1 d_rises (mCons (mVar 0) mNil)) (m2 (mCB lenD (mCons (mCall 1 d_links_of (mCons (mVar 0) mNil)) mNil)) (m2 (mCB lenD (mCons (mVar 0) mNil)) (mC (.int 1)) subD) (eqD false)))))
noncomputable def d_is_shape : List D → Store → Res D := gcD (denOf 2 m_is_shape)
theorem ok_is_shape (T : Txt K mg) : FnOk P w K mg base CX0 4 T.f_is_shape T.e_is_shape ["thing"] (spD K mg 1 d_is_shape) :=
  fn_gc (fn_den T.F_is_shape sc_is_shape fun cdv A outer s H E hr =>
   ((pms_cons (pms_if (PMW.pt (pmw_or (pmt_not (pmt_val (pm_isi (T := "tuple") (by rfl) T.n_isinstance bb_isinstance (pm_var 0) (by rfl) T.n_tuple bb_tuple))) (pmw_or (pmt_not (pmt_chain od_le od_le pm_int (pm_callB cd_len (by rfl) T.n_len bb_len (pma_cons (pm_var 0) pma_nil)) (pm_gint (by rfl) T.c_MOST_PLACES))) (pmw_or1 (pmt_not (pmt_val (pm_callB (cd_all rfl) (by rfl) T.n_all bb_all (pma_cons (pm_lc (own := [("one", 1)]) (is := [1]) rfl sc_is_shape.nd (pmi_seq (pm_var 0)) (blkOk_by (by show blkC N_is_shape (defScope s_is_shape) _ _ = true; decide +kernel)) (fun _ _ _ _ _ => (pmx_name (i := 1) sc_is_shape.nd rfl (Or.inl rfl))) (fun _ _ _ _ _ => pmt_nil) (fun _ _ _ _ _ => (pm_call (ok_is_spot T) (hr.mono (by decide)) (by rfl) T.g_is_spot T.F_is_spot.kp T.b_is_spot (pma_cons (pm_var 1) pma_nil))) (by decide)) pma_nil))))))))
  (pms_one (pms_ret pm_bl))
  pms_nil)
  (pms_one (pms_ret (pm_and (pm_call (ok_rises T) (hr.mono (by decide)) (by rfl) T.g_rises T.F_rises.kp T.b_rises (pma_cons (pm_var 0) pma_nil)) (pm_one (pm_cmp (od_eq hr.units) (pm_callB cd_len (by rfl) T.n_len bb_len (pma_cons (pm_call (ok_links_of T) (hr.mono (by decide)) (by rfl) T.g_links_of T.F_links_of.kp T.b_links_of (pma_cons (pm_var 0) pma_nil)) pma_nil)) (pm_op od_sub (pm_callB cd_len (by rfl) T.n_len bb_len (pma_cons (pm_var 0) pma_nil)) pm_int) (nomark _)))))))))
noncomputable def b1_law : DSt → Store → Res Fl :=
  (mDo (mBM "list" appendD (mVar 4) (mCons (mCall 2 d_law_bent (mCons (mVar 1) (mCons (mVar 3) mNil))) mNil)))
noncomputable def b2_law : DSt → Store → Res Fl :=
  (mSeq (mSet 7 (mCB reprXD (mCons (mVar 6) mNil)))
  (mSeq (mSet 8 (mCall 1 d_is_shape (mCons (mVar 6) mNil)))
  (mIfS (mOrT (mNotT (mT (m1 (mVar 8) (isiD "bool")))) (mOrT (mT (m2 (mVar 8) (mCall 1 d_law_looked (mCons (mVar 6) mNil)) (eqD true))) (mT (m2 (mCB reprXD (mCons (mVar 6) mNil)) (mVar 7) (eqSD true)))))
  (mRet (mC (.bl false)))
  mSkip)))
noncomputable def b3_law : DSt → Store → Res Fl :=
  (mSeq (mSet 3 (mCall 2 d_law_of (mCons (mVar 1) (mCons (mLst (mCons (mCall 2 d_law_grown_shape (mCons (mVar 1) (mCons (m2 (mC (.int 1)) (mCall 2 d_law_take (mCons (mVar 1) (mCons (mC (.int 12)) mNil))) addD) mNil))) (mCons (mCall 1 d_law_rings (mCons (mVar 1) mNil)) mNil))) mNil))))
  (mSeq (mSet 4 (mLstM (mCons (mVar 3) (mCons (mC .non) (mCons (mTup mNil) (mCons (mLst mNil) (mCons (mC (.int 7)) (mCons (mC (.str (tx []))) (mCons (mTup (mCons (mC (.int 1)) (mCons (mC (.int 1)) mNil))) (mCons (mTup (mCons (mTup (mCons (mC (.int 1)) (mCons (mC (.int 1)) mNil))) mNil)) (mCons (mTup (mCons (mTup (mCons (mC (.int 1)) (mCons (mC (.int 1)) mNil))) (mCons (mC .non) mNil))) (mCons (mC (.bl true)) (mCons (fun _ S => .ok (.loc S.length) (S ++ [.dT []])) mNil)))))))))))))
  (mSeq (mFor (mRng1 (mCons (mC (.int 8)) mNil)) (gtName 5)
  b1_law)
  (mFor (mSeqI (mVar 4)) (gtName 6)
  b2_law))))
noncomputable def m_law : DSt → Store → Res Fl :=
  (mSeq (mSet 1 (mCall 1 d_law_spring_of (mCons (mVar 0) mNil)))
  (mSeq (mFor (mRng1 (mCons (mC (.int 6)) mNil)) (gtName 2)
  b3_law)
  (mRet (mC (.bl true)))))
noncomputable def d_law : List D → Store → Res D := denOf 9 m_law
theorem ok_law (T : Txt K mg) : FnG P w K mg base 5 T.f_law T.e_law ["_law_script"] (spD K mg 1 d_law) :=
  fn_denG T.F_law sc_law fun cdv A outer s H E hr hg =>
   ((pms_cons (pms_set (i := 1) sc_law.nd rfl (Or.inl rfl) (pm_call (ok_law_spring_of T) (hr.mono (by decide)) (by rfl) T.g_law_spring_of T.F_law_spring_of.kp T.b_law_spring_of (pma_cons (pm_var 0) pma_nil)))
  (pms_cons (pms_for PassesOwn.never rfl (pmi_range1 (by rfl) T.n_range (pma_cons pm_int pma_nil)) (pmg_name (i := 2) sc_law.nd rfl (Or.inl rfl))
  (pms_cons (pms_set (i := 3) sc_law.nd rfl (Or.inl rfl) (pm_call (ok_law_of T) (hr.mono (by decide)) (by rfl) T.g_law_of T.F_law_of.kp T.b_law_of (pma_cons (pm_var 1) (pma_cons (pm_lst (pma_cons (pm_call (ok_law_grown_shape T) (hr.mono (by decide)) (by rfl) T.g_law_grown_shape T.F_law_grown_shape.kp T.b_law_grown_shape (pma_cons (pm_var 1) (pma_cons (pm_op od_add pm_int (pm_call (ok_law_take T) (hr.mono (by decide)) (by rfl) T.g_law_take T.F_law_take.kp T.b_law_take (pma_cons (pm_var 1) (pma_cons pm_int pma_nil)))) pma_nil))) (pma_cons (pm_call (ok_law_rings T) (hr.mono (by decide)) (by rfl) T.g_law_rings T.F_law_rings.kp T.b_law_rings (pma_cons (pm_var 1) pma_nil)) pma_nil))) pma_nil))))
  (pms_cons (pms_set (i := 4) sc_law.nd rfl (Or.inl rfl) (pm_lstM (pma_cons (pm_var 3) (pma_cons pm_non (pma_cons (pm_tup pma_nil) (pma_cons (pm_lst pma_nil) (pma_cons pm_int (pma_cons (pm_strT lt_4) (pma_cons (pm_tup (pma_cons pm_int (pma_cons pm_int pma_nil))) (pma_cons (pm_tup (pma_cons (pm_tup (pma_cons pm_int (pma_cons pm_int pma_nil))) pma_nil)) (pma_cons (pm_tup (pma_cons (pm_tup (pma_cons pm_int (pma_cons pm_int pma_nil))) (pma_cons pm_non pma_nil))) (pma_cons pm_bl (pma_cons pm_dictT pma_nil)))))))))))))
  (pms_cons (pms_for PassesOwn.never rfl (pmi_range1 (by rfl) T.n_range (pma_cons pm_int pma_nil)) (pmg_name (i := 5) sc_law.nd rfl (Or.inl rfl))
  (pms_one (pms_expr (pm_bm md_append PySem.F.plainAttrs_list PySem.F.slot_list_append PySem.F.type_list_append (pm_var 4) (pma_cons (pm_call (ok_law_bent T) (hr.mono (by decide)) (by rfl) T.g_law_bent T.F_law_bent.kp T.b_law_bent (pma_cons (pm_var 1) (pma_cons (pm_var 3) pma_nil))) pma_nil)))))
  (pms_one (pms_for PassesOwn.never rfl (pmi_seq (pm_var 4)) (pmg_name (i := 6) sc_law.nd rfl (Or.inl rfl))
  (pms_cons (pms_set (i := 7) sc_law.nd rfl (Or.inl rfl) (pm_callB (cd_reprX hg hr.units) (by rfl) T.n_repr bb_repr (pma_cons (pm_var 6) pma_nil)))
  (pms_cons (pms_set (i := 8) sc_law.nd rfl (Or.inl rfl) (pm_call (ok_is_shape T) (hr.mono (by decide)) (by rfl) T.g_is_shape T.F_is_shape.kp T.b_is_shape (pma_cons (pm_var 6) pma_nil)))
  (pms_one (pms_if (PMW.pt (pmw_or (pmt_not (pmt_val (pm_isi (T := "bool") (by rfl) T.n_isinstance bb_isinstance (pm_var 8) (by rfl) T.n_bool bb_bool))) (pmw_or (pmt_cmp (od_ne hr.units) (pm_var 8) (pm_call (ok_law_looked T) (hr.mono (by decide)) (by rfl) T.g_law_looked T.F_law_looked.kp T.b_law_looked (pma_cons (pm_var 6) pma_nil)) (nomark _)) (pmw_or1 (pmt_cmp od_neS (pm_callB (cd_reprX hg hr.units) (by rfl) T.n_repr bb_repr (pma_cons (pm_var 6) pma_nil)) (pm_var 7) (nomark _))))))
  (pms_one (pms_ret pm_bl))
  pms_nil))))))))))
  (pms_one (pms_ret pm_bl)))))
end
theorem set_go {σ : DSt} {i : Nat} {x : Option D} {P : DSt → Prop} (h : ∀ σ', σ.set i x = σ' → P σ') : ∀ σ', σ.set i x = σ' → P σ' := h
theorem wipe_go {σ : DSt} {vs : List Nat} {P : DSt → Prop} (h : ∀ σ', dwipe σ vs = σ' → P σ') : ∀ σ', dwipe σ vs = σ' → P σ' := h
theorem setS_go {S t t' : Store} {n k : Nat} {o : Ob} {P : Store → Prop} (hl : S.length = n) (e : t.set k o = t') (h : P (S ++ t')) : ∀ S', (S ++ t).set (n + k) o = S' → P S' := fun S' q => by rw [st_set hl, e] at q; subst q; exact h
theorem setS_go0 {S t t' : Store} {n : Nat} {o : Ob} {P : Store → Prop} (hl : S.length = n) (e : t.set 0 o = t') (h : P (S ++ t')) : ∀ S', (S ++ t).set n o = S' → P S' := setS_go (k := 0) hl e h
theorem get_go {S t : Store} {n k : Nat} {o : Ob} (hl : S.length = n) (e : t[k]? = some o) : (S ++ t)[n + k]? = some o := (st_get hl).trans e
theorem get_go0 {S t : Store} {n : Nat} {o : Ob} (hl : S.length = n) (e : t[0]? = some o) : (S ++ t)[n]? = some o := (st_get0 hl).trans e
section
variable {α : Type} {σ : DSt} {S t : Store} {Q : D → Store → Prop} {QB : Bool → Store → Prop} {n : Nat} {ms : DSt → Store → Res (List D)}
theorem newM0 {Q : D → Store → Prop} {ds : List D} (hl : S.length = n) (h : Q (.loc n) (S ++ [.lst ds])) : Q (.loc S.length) (S ++ [.lst ds]) := by rw [hl]; exact h
theorem newM1 {Q : D → Store → Prop} {ds : List D} {k : Nat} {t' : Store} (hl : S.length = n) (hk : t.length = k) (ht : t ++ [.lst ds] = t') (h : Q (.loc (n + k)) (S ++ t')) : Q (.loc (S ++ t).length) ((S ++ t) ++ [.lst ds]) := by
  rw [List.length_append, hl, hk, List.append_assoc, ht]; exact h
theorem k_lstM0 (hl : S.length = n) {ds : List D} (h : Q (.loc n) (S ++ [.lst ds])) : Q (.loc S.length) (S ++ [.lst ds]) := by rw [hl]; exact h
theorem k_dict0 (hl : S.length = n) (h : Q (.loc n) (S ++ [.dT []])) : Ok ((fun _ S => .ok (.loc S.length) (S ++ [.dT []]) : DSt → Store → Res D) σ S) Q := by
  subst hl; exact k_ok h
theorem k_dict1 {k : Nat} {t' : Store} (hl : S.length = n) (hk : t.length = k) (ht : t ++ [.dT []] = t') (h : Q (.loc (n + k)) (S ++ t')) : Ok ((fun _ S => .ok (.loc S.length) (S ++ [.dT []]) : DSt → Store → Res D) σ (S ++ t)) Q := by
  subst hl hk ht
  refine k_ok ?_
  rw [List.length_append, List.append_assoc]; exact h
theorem Wf.mid {r : Res Fl} {E : XEv} {N : DSt → Store → Prop} {R : D → Store → Prop} {B C : DSt → Store → Prop} (I : DSt → Store → Prop) (h : WfX E r I R B C) (k : ∀ σ S, I σ S → N σ S) : WfX E r N R B C := h.imp k (fun _ _ h => h) (fun _ _ h => h) (fun _ _ h => h)
theorem no_guard {I : Nat → DSt → Store → Prop} : ∀ j σ S, I j σ S → gOk [] S := fun _ _ _ _ => fun _ h => (List.not_mem_nil h).elim
theorem par_of {σ : DSt} {i j : Nat} {x y : D} {P : DSt → Prop} (h : ∀ σ', (σ.set i (some x)).set j (some y) = σ' → P σ') : ∃ x' y', [x, y] = [x', y'] ∧ ∀ σ', (σ.set i (some x')).set j (some y') = σ' → P σ' := ⟨x, y, rfl, h⟩
theorem len_of {k : Nat} {p : Prop} {ds : List D} (e : ds.length ≤ k) (h : p) : ds.length ≤ k ∧ p := ⟨e, h⟩
theorem true_of {p : Prop} {b : Bool} (e : b = true) (h : p) : b = true ∧ p := ⟨e, h⟩
theorem lenE_of {k : Nat} {p : Prop} {ds : List D} (e : ds.length = k) (h : p) : ds.length = k ∧ p := ⟨e, h⟩
theorem src_of {s : Src} {P : Src → Prop} {d : D} (e : seqSrc d S = some s) (h : P s) : ∃ s, seqSrc d S = some s ∧ P s := ⟨_, e, h⟩
theorem src_str {l : List Nat} {P : Src → Prop} (e : l.length ≤ 16777216) (h : P ⟨l.map fun c => D.str (tx [c]), []⟩) : ∃ s, seqSrc (.str (tx l)) S = some s ∧ P s := ⟨_, by rw [seqSrc_str, if_pos (by rw [tx_len, size_eq]; exact e)]; rfl, h⟩
theorem rng_of {i : Int} {m : Nat} {P : Nat → Prop} (e : i = (m : Int)) (hl : m ≤ 16777216) (h : P m) : ∃ (i' : Int) (n' : Nat), [D.int i] = [D.int i'] ∧ i' = (n' : Int) ∧ n' ≤ 16777216 ∧ P n' := ⟨i, m, rfl, e, hl, h⟩
end
section
variable {α : Type} {xs : List α} {l : List Nat}
theorem cutL_to (n : Nat) : L3.cut xs none (some (n : Int)) = xs.take n := by
  unfold L3.cut
  rw [HT.sIx_none, HT.sIx_nat, List.drop_zero, Nat.sub_zero]
  rcases Nat.le_total n xs.length with h | h
  · rw [Nat.min_eq_left h]
  · rw [Nat.min_eq_right h, List.take_length, List.take_of_length_le h]
theorem cutL_from (n : Nat) : L3.cut xs (some (n : Int)) none = xs.drop n := by
  unfold L3.cut
  rw [HT.sIx_none, HT.sIx_nat]
  rcases Nat.le_total n xs.length with h | h
  · rw [Nat.min_eq_left h, List.take_of_length_le (by rw [List.length_drop]; omega)]
  · rw [Nat.min_eq_right h, List.drop_eq_nil_of_le h, List.drop_length]
    simp
theorem cutL_toO (n : Nat) : L3.cut xs none (some (no_index (OfNat.ofNat n : Int))) = xs.take n := cutL_to n
theorem cutL_fromO (n : Nat) : L3.cut xs (some (no_index (OfNat.ofNat n : Int))) none = xs.drop n := cutL_from n
theorem cutS_toO (n : Nat) : cutS (tx l) none (some (no_index (OfNat.ofNat n : Int))) = tx (l.take n) := cut_to l n
theorem cutS_fromO (n : Nat) : cutS (tx l) (some (no_index (OfNat.ofNat n : Int))) none = tx (l.drop n) := cut_from l n
theorem p_slT2 {S : Store} {Q : D → Store → Prop} {ds es : List D} {lo hi : Option Int} (e : L3.cut ds lo hi = es) (h : Q (.tup es) S) : Ok (sliceD (.tup ds) lo hi S) Q := p_slT (by rw [e]; exact h)
theorem p_slL2 {S : Store} {Q : D → Store → Prop} {ds es : List D} {lo hi : Option Int} (e : L3.cut ds lo hi = es) (h : Q (.lst es) S) : Ok (sliceD (.lst ds) lo hi S) Q := p_slL (by rw [e]; exact h)
theorem p_slF2 {S : Store} {Q : D → Store → Prop} {ds es : List D} {lo hi : Option Int} (e : L3.cut ds lo hi = es) (h : Q (.lst es) S) : Ok (sliceD (.frz ds) lo hi S) Q := p_slF (by rw [e]; exact h)
theorem p_slS2 {S : Store} {Q : D → Store → Prop} {m : Str} {lo hi : Option Int} (hl : l.length ≤ 16777216) (e : cutS (tx l) lo hi = m) (h : Q (.str m) S) : Ok (sliceD (.str (tx l)) lo hi S) Q := p_slS hl (by rw [e]; exact h)
end
theorem en_lst {S : Store} {ds : List D} {P : Src → Prop} (h : P ⟨ds, []⟩) : ∃ d s, [D.lst ds] = [d] ∧ lstSrc d S = some s ∧ P s := ⟨_, _, rfl, lstSrc_lst, h⟩
theorem en_frz {S : Store} {ds : List D} {P : Src → Prop} (h : P ⟨ds, []⟩) : ∃ d s, [D.frz ds] = [d] ∧ lstSrc d S = some s ∧ P s := ⟨_, _, rfl, lstSrc_frz, h⟩
theorem enum_map {α : Type} (f : α → D) (xs : List α) : ((xs.map f).zipIdx.map fun p : D × Nat => D.tup [.int p.2, p.1]) = xs.zipIdx.map fun p : α × Nat => D.tup [.int p.2, f p.1] := by
  rw [List.zipIdx_map, List.map_map]
  rfl
theorem zipIdx_range (w : Nat) : (List.range w).zipIdx = (List.range w).map fun i => (i, i) := by
  apply List.ext_getElem
  · simp
  · intro i h1 h2
    simp
theorem enum_range (f : Nat → D) (w : Nat) : (((List.range w).map f).zipIdx.map fun p : D × Nat => D.tup [.int p.2, p.1]) = (List.range w).map fun i : Nat => D.tup [.int (i : Int), f i] := by
  rw [enum_map, zipIdx_range, List.map_map]
  rfl
theorem sortT_map (f : Tl → Tl) (xs : List Tl) : sortT ((sortT xs).map f) = sortT (xs.map f) := sortT_eq ((sortBy_perm tk xs).map f)
local macro_rules | `(tactic| walk_at "sz") => `(tactic| first | assumption | (simp only [List.length_cons, List.length_nil, List.length_map, List.length_append, List.length_range] <;> omega) | (simp <;> omega) | (simp; done))
local macro_rules | `(tactic| walk_at "st") => `(tactic| first | assumption | exact get_go (by assumption) rfl | exact get_go0 (by assumption) rfl | exact get_go rfl rfl | exact get_go0 rfl rfl)
local macro_rules | `(tactic| walk_at "lk") => `(tactic| (intro σ' e; simp only [List.set_cons_zero, List.set_cons_succ, dwipe] at e; subst e))
local macro_rules | `(tactic| walk_at "s1") => `(tactic| first
  | with_reducible refine w_seq ?_
  | with_reducible refine w_set ?_
  | with_reducible refine w_ifs ?_
  | with_reducible refine w_ret ?_
  | with_reducible refine w_do ?_
  | with_reducible refine w_skip ?_
  | with_reducible refine w_for ?_
  | with_reducible refine w_asg ?_
  | with_reducible refine w_par ?_
  | with_reducible refine w_par3 ?_
  | with_reducible refine w_nx ?_
  | with_reducible refine w_rt ?_
  | with_reducible refine w_bk ?_
  | with_reducible refine w_ct ?_
  | with_reducible refine w_raise ?_
  | with_reducible refine br_t ?_
  | with_reducible refine br_f ?_
  | with_reducible refine br_not ?_
  | with_reducible refine br_xt ?_
  | with_reducible refine br_xf ?_
  | ((fail_if_success (with_reducible refine wf_id ?_)); (fail_if_success (with_reducible refine br_id ?_)); walk_at "s1b"))
local macro_rules | `(tactic| walk_at "s1b") => `(tactic| first
  | ((with_reducible apply k_var); focus exact rfl)
  | with_reducible refine k_cons ?_
  | with_reducible refine k_nil ?_
  | with_reducible refine k_C ?_
  | with_reducible refine k_m2 ?_
  | ((with_reducible refine set_go ?_); walk_at "lk")
  | ((with_reducible refine wipe_go ?_); walk_at "lk")
  | with_reducible refine k_mT ?_
  | with_reducible refine bl_of ?_
  | with_reducible refine int_of ?_
  | with_reducible refine k_call ?_
  | ((with_reducible refine lenE_of ?_ ?_); focus exact rfl)
  | with_reducible refine k_cb ?_
  | with_reducible refine k_gname ?_
  | with_reducible refine k_gnil ?_
  | with_reducible refine k_gcons ?_
  | ((with_reducible refine k_gtup ?_ ?_); focus exact rfl)
  | ((with_reducible refine k_gktp ?_ ?_); focus exact rfl)
  | with_reducible refine k_gsub ?_
  | with_reducible refine k_tup ?_
  | with_reducible refine k_lst ?_
  | with_reducible refine k_lstM ?_
  | ((with_reducible refine len_of ?_ ?_); focus (walk_at "sz"))
  | with_reducible refine k_m1 ?_
  | with_reducible refine k_andT ?_
  | with_reducible refine k_orT ?_
  | with_reducible refine k_notT ?_
  | with_reducible refine k_andV ?_
  | with_reducible refine k_orV ?_
  | with_reducible refine k_notV ?_
  | with_reducible refine k_ifx ?_
  | with_reducible refine k_neg ?_
  | with_reducible refine k_ch ?_
  | with_reducible refine k_lc ?_
  | with_reducible refine k_lcM ?_
  | with_reducible refine k_sl ?_
  | with_reducible refine k_nopart ?_
  | with_reducible refine k_part ?_
  | with_reducible refine k_bm ?_
  | with_reducible refine k_get1 ?_
  | with_reducible refine k_get2 ?_
  | with_reducible refine k_seqi ?_
  | ((with_reducible refine src_str ?_ ?_); focus (walk_at "sz"))
  | ((with_reducible apply src_of); focus (first | exact seqSrc_tup | exact seqSrc_lst | exact seqSrc_frz | exact seqSrc_ktp | exact seqSrc_loc (by walk_at "st")))
  | with_reducible refine k_rng1 ?_
  | with_reducible refine k_enum ?_
  | with_reducible refine k_enumA ?_
  | with_reducible refine en_lst ?_
  | with_reducible refine en_frz ?_
  | ((with_reducible refine par_of ?_); walk_at "lk")
  | ((with_reducible refine par3_of ?_); walk_at "lk")
  | walk_at "s2")
local macro_rules | `(tactic| walk_at "s2") => `(tactic| first
  | with_reducible refine k_ok ?_
  | with_reducible refine p_add ?_
  | ((with_reducible refine p_addS ?_ ?_); focus (walk_at "sz"))
  | ((with_reducible refine p_addT ?_ ?_); focus (walk_at "sz"))
  | ((with_reducible refine p_addL ?_ ?_); focus (walk_at "sz"))
  | ((with_reducible refine p_addM ?_ ?_); focus (walk_at "sz"))
  | ((with_reducible apply p_addLO); (focus (walk_at "st")); (focus (walk_at "sz")))
  | with_reducible refine p_sub ?_
  | ((with_reducible refine p_mulR ?_ ?_ ?_); (focus omega); (focus omega))
  | ((with_reducible refine p_mulL ?_ ?_ ?_); (focus omega); (focus omega))
  | ((with_reducible refine p_fdiv ?_ ?_ ?_); (focus omega); (focus omega))
  | ((with_reducible refine p_mod ?_ ?_); focus omega)
  | with_reducible refine p_lt ?_
  | with_reducible refine p_ltS ?_
  | with_reducible refine p_cmp ?_
  | with_reducible refine p_eqI ?_
  | with_reducible refine p_isN ?_
  | with_reducible refine p_isNi ?_
  | with_reducible refine p_isNs ?_
  | with_reducible refine p_isNl ?_
  | with_reducible refine p_isNt ?_
  | with_reducible refine p_isB ?_
  | with_reducible refine p_eqB ?_
  | ((with_reducible apply p_isi); focus (first | exact isi_tuple_tup | exact isi_tuple_str | exact isi_tuple_int | exact isi_tuple_bl | exact isi_tuple_lst | exact isi_tuple_non | exact isi_str_tup | exact isi_str_str | exact isi_str_int | exact isi_str_bl | exact isi_str_lst | exact isi_str_non | exact isi_int_tup | exact isi_int_str | exact isi_int_int | exact isi_int_bl | exact isi_int_lst | exact isi_int_non | exact isi_bool_tup | exact isi_bool_str | exact isi_bool_int | exact isi_bool_bl | exact isi_bool_lst | exact isi_bool_non | exact isi_list_tup | exact isi_list_str | exact isi_list_int | exact isi_list_bl | exact isi_list_lst | exact isi_list_non | exact isi_dict_tup | exact isi_dict_str | exact isi_dict_int | exact isi_dict_bl | exact isi_dict_lst | exact isi_dict_non))
  | ((with_reducible apply p_sortL); focus (walk_at "st"))
  | ((with_reducible apply p_ixT); focus exact rfl)
  | ((with_reducible apply p_ixL); focus exact rfl)
  | ((with_reducible apply p_ixTm); focus assumption)
  | ((with_reducible apply p_ixLm); focus assumption)
  | ((with_reducible apply p_ixFm); focus assumption)
  | ((with_reducible apply p_ixO); (focus (walk_at "st")); (focus exact rfl))
  | ((with_reducible apply p_slT2); (focus (simp only [cutL_to, cutL_from, cutL_toO, cutL_fromO, List.take_succ_cons, List.take_zero, List.drop_succ_cons, List.drop_zero]; exact rfl)))
  | ((with_reducible apply p_slL2); (focus (simp only [cutL_to, cutL_from, cutL_toO, cutL_fromO, List.take_succ_cons, List.take_zero, List.drop_succ_cons, List.drop_zero]; exact rfl)))
  | ((with_reducible apply p_slF2); (focus (simp only [cutL_to, cutL_from, cutL_toO, cutL_fromO, List.take_succ_cons, List.take_zero, List.drop_succ_cons, List.drop_zero]; exact rfl)))
  | with_reducible refine p_slT ?_
  | with_reducible refine p_slL ?_
  | ((with_reducible apply p_slS2); (focus (walk_at "sz")); (focus (simp only [cut_to, cut_from, cutS_toO, cutS_fromO]; exact rfl)))
  | ((with_reducible refine p_slS ?_ ?_); focus (walk_at "sz"))
  | with_reducible refine p_lenT ?_
  | with_reducible refine p_lenL ?_
  | with_reducible refine p_lenF ?_
  | with_reducible refine p_lenK ?_
  | ((with_reducible refine p_lenS ?_ ?_); focus (walk_at "sz"))
  | ((with_reducible apply p_lenO); focus (walk_at "st"))
  | with_reducible refine p_abs ?_
  | with_reducible refine p_max2 ?_
  | with_reducible refine p_min2 ?_
  | with_reducible refine p_int ?_
  | with_reducible refine p_intB ?_
  | with_reducible refine p_tupL ?_
  | with_reducible refine p_tupT ?_
  | with_reducible refine p_tupX ?_
  | ((with_reducible apply p_ixPm); focus assumption)
  | ((with_reducible apply p_ixP); focus exact rfl)
  | with_reducible refine p_tupF ?_
  | ((with_reducible apply p_tupO); focus (walk_at "st"))
  | with_reducible refine p_listL ?_
  | with_reducible refine p_listT ?_
  | with_reducible refine p_listF ?_
  | ((with_reducible apply p_app); (focus (walk_at "st")); (focus (walk_at "sz")))
  | ((with_reducible apply p_extL); (focus (walk_at "st")); (focus (walk_at "sz")))
  | ((with_reducible apply setS_go); (focus assumption); (focus (simp only [List.set_cons_zero, List.set_cons_succ]; exact rfl)))
  | ((with_reducible apply setS_go0); (focus assumption); (focus (simp only [List.set_cons_zero, List.set_cons_succ]; exact rfl)))
  | ((with_reducible refine true_of ?_ ?_); focus (first | exact rfl | exact tyOk_loc (by walk_at "st")))
  | ((with_reducible apply k_dict0); (focus assumption))
  | ((with_reducible apply k_dict1); (focus assumption); (focus exact rfl); (focus exact rfl)))
local macro_rules | `(tactic| walk_at "vs") => `(tactic| repeat walk_at "s1")
local macro_rules | `(tactic| walk_at "vp") => `(tactic| repeat ((fail_if_success (with_reducible refine w_ifs ?_)); walk_at "s1"))
local macro_rules | `(tactic| walk_at "den") => `(tactic| ((with_reducible apply den_ok); (focus (simp only [List.map_cons, List.map_nil, List.length_cons, List.length_nil, Nat.reduceAdd, Nat.reduceSub, List.replicate, List.cons_append, List.nil_append]; exact rfl))))
/-! ### dicts with names as keys; pairs of a name and a number in order -/
section
variable {S : Store} {l : Nat} {kvs ps : List (Key × D)} {k : Key} {i v d : D}
theorem p_dictK {Q : D → Store → Prop} {es : List D} (e : pairsK es = some ps) (h : Q (.loc S.length) (S ++ [.dK (mergeD [] ps)])) : Ok (dictD false [.lst es] S) Q := by
  have : dictD false [.lst es] S = .ok (.loc S.length) (S ++ [.dK (mergeD [] ps)]) := by
    have h1 : rdL S (.lst es) = some es := rfl
    simp only [dictD, h1, e]
    rfl
  exact k_eq this h
theorem p_setK {Q : Unit → Store → Prop} (e : S[l]? = some (.dK kvs)) (hk : keyOf i = some k) (hl : kvs.length < 16777216) (h : ∀ S', S.set l (.dK (putD kvs k v)) = S' → Q () S') : Ok (setD (.loc l) i v S) Q := by
  have : setD (.loc l) i v S = .ok () (S.set l (.dK (putD kvs k v))) := by
    simp only [setD, e, hk]
    rw [if_pos (by rw [size_eq]; exact hl)]
  exact k_eq this (h _ rfl)
theorem p_ixK {Q : D → Store → Prop} (e : S[l]? = some (.dK kvs)) (hk : keyOf i = some k) (hl : lookK kvs k = some d) (h : Q d S) : Ok (ixD (.loc l) i S) Q := by
  have h3 : dlook S (.loc l) i = some (some d) := by simp [dlook, e, obK, hk, hl]
  have h4 : seqOf S (.loc l) = none := by simp [seqOf, rdL, exL, rdT, e]
  exact k_eq (by simp only [ixD, h4, h3] <;> rfl) h
end
theorem no_guardL {I : Nat → Store → List D → Prop} : ∀ j S a, I j S a → gOk [] S := fun _ _ _ _ => fun _ h => (List.not_mem_nil h).elim
theorem no_guardE {α : Type} {I : List α → DSt → Store → Prop} : ∀ l σ S, I l σ S → gOk [] S := fun _ _ _ _ => fun _ h => (List.not_mem_nil h).elim
/-! ### draws from a spring -/
abbrev kOwn : Key := .inr (tx [111, 119, 110])
abbrev kSeed : Key := .inr (tx [115, 101, 101, 100])
abbrev kTurn : Key := .inr (tx [116, 117, 114, 110])
abbrev sprD (q : Nat) (s t : Int) : Ob := .dK [(kOwn, .loc q), (kSeed, .int s), (kTurn, .int t)]
def Spr (S : Store) (p q N : Nat) : Prop := ∃ (ds : List Int) (s t : Int), S[p]? = some (sprD q s t) ∧ S[q]? = some (.lst (ds.map D.int)) ∧ (∀ d ∈ ds, 0 ≤ d) ∧ (0 ≤ t ∧ t ≤ N) ∧ p ≠ q
/-- the spring at p has been drawn from: all else stands -/
structure Fr (S : Store) (p q N : Nat) (S' : Store) : Prop where
  len : S'.length = S.length
  oth : ∀ i, i ≠ p → i ≠ q → S'[i]? = S[i]?
  pot : Spr S' p q N
theorem Spr.mono {S : Store} {p q N M : Nat} (h : Spr S p q N) (hm : N ≤ M) : Spr S p q M := by
  obtain ⟨ds, s, t, e1, e2, h1, h2, h3⟩ := h
  exact ⟨ds, s, t, e1, e2, h1, ⟨h2.1, by omega⟩, h3⟩
theorem Fr.mono {S S' : Store} {p q N M : Nat} (h : Fr S p q N S') (hm : N ≤ M) : Fr S p q M S' := ⟨h.len, h.oth, h.pot.mono hm⟩
theorem Fr.refl {S : Store} {p q N : Nat} (h : Spr S p q N) : Fr S p q N S := ⟨rfl, fun _ _ _ => rfl, h⟩
theorem Fr.trans {S S' S'' : Store} {p q N M : Nat} (h : Fr S p q N S') (h' : Fr S' p q M S'') : Fr S p q M S'' := ⟨h'.len.trans h.len, fun i n m => (h'.oth i n m).trans (h.oth i n m), h'.pot⟩
theorem Spr.lt {S : Store} {p q N : Nat} (h : Spr S p q N) : p < S.length := by
  obtain ⟨_, _, _, e, _⟩ := h
  exact (List.getElem?_eq_some_iff.mp e).1
theorem Spr.lt2 {S : Store} {p q N : Nat} (h : Spr S p q N) : q < S.length := by
  obtain ⟨_, _, _, _, e, _⟩ := h
  exact (List.getElem?_eq_some_iff.mp e).1
theorem Spr.setq {S : Store} {p q N : Nat} (h : Spr S p q N) {ds : List Int} (hd : ∀ d ∈ ds, 0 ≤ d) : Fr S p q N (S.set q (.lst (ds.map D.int))) := by
  have h2 := h.lt2
  obtain ⟨_, s, t, e1, e2, _, h0, hn⟩ := h
  exact ⟨List.length_set, fun i n m => List.getElem?_set_ne (Ne.symm m), ds, s, t, by rw [List.getElem?_set_ne hn.symm]; exact e1, List.getElem?_set_self h2, hd, h0, hn⟩
theorem Spr.setp {S : Store} {p q N M : Nat} (h : Spr S p q N) {s t : Int} (h0 : 0 ≤ t ∧ t ≤ M) : Fr S p q M (S.set p (sprD q s t)) := by
  have h2 := h.lt
  obtain ⟨ds, _, _, e1, e2, hd, _, hn⟩ := h
  exact ⟨List.length_set, fun i n m => List.getElem?_set_ne (Ne.symm n), ds, s, t, List.getElem?_set_self h2, by rw [List.getElem?_set_ne hn]; exact e2, hd, h0, hn⟩
theorem Fr.kept {S S' : Store} {p q N M : Nat} (h0 : Spr S p q N) (h : Fr S p q M S') : ∀ i < S.length, S'[i]? = S[i]? ∨ ∃ o, S'[i]? = some o ∧ o.sc S.length = true := fun i hi => by
  obtain ⟨ds, s, t, e1, e2, _⟩ := h.pot
  by_cases hp : i = p
  · subst hp
    refine .inr ⟨_, e1, ?_⟩
    simp only [Ob.sc, scK, List.all_cons, List.all_nil, D.sc, h0.lt2, decide_true, Bool.true_and]
  · by_cases hq : i = q
    · subst hq
      refine .inr ⟨_, e2, ?_⟩
      simp only [Ob.sc]
      exact sc_map fun _ => rfl
    · exact .inl (h.oth i hp hq)
theorem Spr.app {S t : Store} {p q N : Nat} (h : Spr S p q N) : Spr (S ++ t) p q N := by
  obtain ⟨ds, s, n, e1, e2, r⟩ := id h
  exact ⟨ds, s, n, by rw [List.getElem?_append_left h.lt]; exact e1, by rw [List.getElem?_append_left h.lt2]; exact e2, r⟩
theorem Fr.split {S t S' : Store} {p q N M : Nat} (h : Fr (S ++ t) p q M S') (hp : Spr S p q N) : ∃ S1, S' = S1 ++ t ∧ Fr S p q M S1 := by
  have hlt := hp.lt
  have hlt2 := hp.lt2
  refine ⟨S'.take S.length, ?_, ⟨?_, fun i n m => ?_, ?_⟩⟩
  · apply List.ext_getElem?
    intro i
    have hl := h.len
    rw [List.length_append] at hl
    by_cases hi : i < S.length
    · rw [List.getElem?_append_left (by rw [List.length_take]; omega), List.getElem?_take_of_lt hi]
    · rw [List.getElem?_append_right (by rw [List.length_take]; omega), h.oth i (by omega) (by omega), List.getElem?_append_right (by omega), List.length_take]
      congr 1
      omega
  · rw [List.length_take, h.len, List.length_append]; omega
  · by_cases hi : i < S.length
    · rw [List.getElem?_take_of_lt hi, h.oth i n m, List.getElem?_append_left hi]
    · rw [List.getElem?_eq_none (by rw [List.length_take]; omega), List.getElem?_eq_none (by omega)]
  · obtain ⟨ds, s, n, e1, e2, r⟩ := h.pot
    exact ⟨ds, s, n, by rw [List.getElem?_take_of_lt hlt]; exact e1, by rw [List.getElem?_take_of_lt hlt2]; exact e2, r⟩
theorem Ok.elim {α : Type} {r : Res α} {P : α → Store → Prop} (h : Ok r P) : ∃ a S, r = .ok a S ∧ P a S := h
section
variable {den : List D → Store → Res D} {ds : List D} {S : Store} {P : D → Store → Prop} {p q N M : Nat}
theorem gc_pure (h : Ok (den ds S) fun d S' => (∃ g, S' = S ++ g) ∧ d.sc S.length = true ∧ P d S) : Ok (gcD den ds S) P := by
  obtain ⟨d, S', e, ⟨g, rfl⟩, hs, hp⟩ := h
  exact k_eq (gcD_pure e hs) hp
theorem gc_fr (h0 : Spr S p q N) (h : Ok (den ds S) fun d S' => ∃ S1 g, S' = S1 ++ g ∧ Fr S p q M S1 ∧ d.sc S.length = true ∧ P d S1) : Ok (gcD den ds S) P := by
  obtain ⟨d, S', e, S1, g, rfl, hF, hs, hp⟩ := h
  exact k_eq (gcD_ok e hF.len hs (hF.kept h0)) hp
theorem gcF_fr (h0 : Spr S p q N) (h : Ok (den ds S) fun d S' => ∃ S1 g k es, d = .loc (S.length + k) ∧ S' = S1 ++ g ∧ Fr S p q M S1 ∧ g[k]? = some (.lst es) ∧ D.scs S.length es = true ∧ P (.lst es) S1) : Ok (gcF den ds S) P := by
  obtain ⟨d, S', e, S1, g, k, es, rfl, rfl, hF, hg, hs, hp⟩ := h
  exact k_eq (gcF_loc e hF.len hg hs (hF.kept h0)) hp
theorem gcF_pure (h : Ok (den ds S) fun d S' => ∃ g k es, d = .loc (S.length + k) ∧ S' = S ++ g ∧ g[k]? = some (.lst es) ∧ D.scs S.length es = true ∧ P (.lst es) S) : Ok (gcF den ds S) P := by
  obtain ⟨d, S', e, g, k, es, rfl, rfl, hg, hs, hp⟩ := h
  exact k_eq (gcF_loc e rfl hg hs fun _ _ => .inl rfl) hp
theorem gcO_fr (h0 : Spr S p q N) (h : Ok (den ds S) fun d S' => ∃ S1 g k o, d = .loc (S.length + k) ∧ S' = S1 ++ g ∧ Fr S p q M S1 ∧ g[k]? = some o ∧ o.sc S.length = true ∧ P (.loc S.length) (S1 ++ [o])) : Ok (gcO den ds S) P := by
  obtain ⟨d, S', e, S1, g, k, o, rfl, rfl, hF, hg, hs, hp⟩ := h
  exact k_eq (gcO_loc e hF.len hg hs (hF.kept h0)) (hF.len ▸ hp)
theorem gcO_pure (h : Ok (den ds S) fun d S' => ∃ g k o, d = .loc (S.length + k) ∧ S' = S ++ g ∧ g[k]? = some o ∧ o.sc S.length = true ∧ P (.loc S.length) (S ++ [o])) : Ok (gcO den ds S) P := by
  obtain ⟨d, S', e, g, k, o, rfl, rfl, hg, hs, hp⟩ := h
  exact k_eq (gcO_loc e rfl hg hs fun _ _ => .inl rfl) hp
end
theorem p_pop0 {S : Store} {Q : D → Store → Prop} {l : Nat} {d : D} {ds : List D} (e1 : S[l]? = some (.lst (d :: ds))) (h : ∀ S', S.set l (.lst ds) = S' → Q d S') : Ok (popD (.loc l) [.int 0] S) Q := by
  have : popD (.loc l) [.int 0] S = .ok d (S.set l (.lst ds)) := by
    simp [popD, mutL, e1, seqIndex?]
  exact k_eq this (h _ rfl)
theorem ixN_0 {n : Nat} : ixN (n + 1) 0 = some 0 := by simp [ixN]
theorem pls_ints (ds : List Int) : D.pls 63 (ds.map D.int) = true := pls_map fun _ _ => by simp [D.pl]
theorem take_ok {S : Store} {p q N : Nat} (h : Spr S p q N) (hN : N ≤ 1000000000000) (n : Int) (hn : 0 < n) (h0 : n < 18446744073709551616) : ∃ (v : Nat) (S' : Store), (v : Int) < n ∧ Fr S p q (N + 1) S' ∧ d_law_take [.loc p, .int n] S = .ok (.int v) S' := by
  suffices hs : Ok (d_law_take [.loc p, .int n] S) fun d S' => ∃ v : Nat, (v : Int) < n ∧ Fr S p q (N + 1) S' ∧ d = .int v by
    obtain ⟨d, S', e, v, h1, h2, rfl⟩ := hs
    exact ⟨v, S', h1, h2, e⟩
  unfold d_law_take
  refine gc_fr (p := p) (q := q) (M := N + 1) h ?_
  walk_at "den"
  unfold m_law_take
  have nat : ∀ x : Int, ∃ v : Nat, (v : Int) < n ∧ x % n = v := fun x => by
    obtain ⟨v, hv⟩ := Int.eq_ofNat_of_zero_le (Int.emod_nonneg x (show n ≠ 0 by omega))
    exact ⟨v, by rw [← hv]; exact Int.emod_lt_of_pos x hn, hv⟩
  have lO : ∀ (s t : Int), lookK [(kOwn, D.loc q), (kSeed, .int s), (kTurn, .int t)] kOwn = some (.loc q) := fun s t => by rfl
  have lS : ∀ (s t : Int), lookK [(kOwn, D.loc q), (kSeed, .int s), (kTurn, .int t)] kSeed = some (.int s) := fun s t => by rfl
  have lT : ∀ (s t : Int), lookK [(kOwn, D.loc q), (kSeed, .int s), (kTurn, .int t)] kTurn = some (.int t) := fun s t => by rfl
  have pT : ∀ (s t u : Int), putD [(kOwn, D.loc q), (kSeed, .int s), (kTurn, .int t)] kTurn (.int u) = [(kOwn, D.loc q), (kSeed, .int s), (kTurn, .int u)] := fun s t u => by rfl
  refine w_seq ?_
  refine (w_while (fun k σ S' => Fr S p q N S' ∧ (∃ (ds : List Int) (s t : Int), S'[p]? = some (sprD q s t) ∧ S'[q]? = some (.lst (ds.map D.int)) ∧ (∀ d ∈ ds, 0 ≤ d) ∧ (0 ≤ t ∧ t ≤ N) ∧ ds.length = k) ∧ σ = [some (.loc p), some (.int n), none, none]) h.choose.length ⟨Fr.refl h, ?_, rfl⟩ ?_ : Wf _ (fun σ S' => Fr S p q N S' ∧ (∃ (ds : List Int) (s t : Int), S'[p]? = some (sprD q s t) ∧ S'[q]? = some (.lst (ds.map D.int)) ∧ (∀ d ∈ ds, 0 ≤ d) ∧ (0 ≤ t ∧ t ≤ N)) ∧ σ = [some (.loc p), some (.int n), none, none]) _ _ _).imp ?_ (fun _ _ h => h) (fun _ _ h => h) (fun _ _ h => h)
  · obtain ⟨s, t, e1, e2, hd, hs0, hne⟩ := h.choose_spec
    exact ⟨_, s, t, e1, e2, hd, hs0, rfl⟩
  · rintro k σ S' ⟨hF, ⟨ds, s, t, e1, e2, hd, hs0, rfl⟩, rfl⟩
    unfold t1_law_take
    walk_at "vs"
    refine p_ixK e1 rfl (lO s t) ?_
    walk_at "vs"
    refine p_eqNil e2 (pls_ints ds) ?_
    cases ds with
    | nil =>
      rw [List.map_nil, List.isEmpty_nil]
      walk_at "vs"
      exact ⟨hF, ⟨[], s, t, e1, e2, hd, hs0⟩, rfl⟩
    | cons d ds =>
      rw [List.map_cons, List.isEmpty_cons]
      rw [List.map_cons] at e2
      walk_at "vs"
      refine p_ixK e1 rfl (lO s t) ?_
      walk_at "vs"
      refine p_ixO e2 atI_0 ?_
      walk_at "vs"
      refine br_dec (fun hz => ?_) (fun hz => ?_)
      · unfold b1_law_take
        walk_at "vs"
        refine p_ixK e1 rfl (lO s t) ?_
        walk_at "vs"
        refine p_pop0 e2 ?_
        rintro _ rfl
        have hF2 := hF.pot.setq (ds := ds) fun x hx => hd x (List.mem_cons_of_mem _ hx)
        obtain ⟨ds', s', t', a1, a2, a3, a4, a6⟩ := hF2.pot
        refine ⟨ds.length, by simp, hF.trans hF2, ⟨ds, s', t', a1, ?_, fun x hx => hd x (List.mem_cons_of_mem _ hx), a4, rfl⟩, rfl⟩
        exact List.getElem?_set_self hF.pot.lt2
      · exact ⟨hF, ⟨d :: ds, s, t, e1, by rw [List.map_cons]; exact e2, hd, hs0⟩, rfl⟩
  rintro σ S1 ⟨hF, ⟨ds, s, t, e1, e2, hd, hs0⟩, rfl⟩
  refine w_seq ?_
  refine w_ifs ?_
  walk_at "vs"
  refine p_ixK e1 rfl (lO s t) ?_
  walk_at "vs"
  refine p_eqNil e2 (pls_ints ds) ?_
  cases ds with
  | cons d ds =>
    rw [List.map_cons, List.isEmpty_cons]
    rw [List.map_cons] at e2
    obtain ⟨v, hv, hv2⟩ := nat d
    walk_at "vs"
    refine p_ixK e1 rfl (lO s t) ?_
    walk_at "vs"
    refine p_ixO e2 atI_0 ?_
    walk_at "vs"
    rw [hv2]
    walk_at "vs"
    refine p_ixK e1 rfl (lO s t) ?_
    walk_at "vs"
    refine p_ixO e2 atI_0 ?_
    walk_at "vs"
    refine p_ixK e1 rfl (lO s t) ?_
    walk_at "vs"
    refine p_setL (i := 0) (k := 0) e2 ixN_0 ?_
    rintro _ rfl
    have hF2 := hF.pot.setq (ds := d / n :: ds) fun x hx => by
      rcases List.mem_cons.mp hx with rfl | hx
      · exact Int.ediv_nonneg (hd d List.mem_cons_self) (by omega)
      · exact hd x (List.mem_cons_of_mem _ hx)
    walk_at "vs"
    exact ⟨_, [], (List.append_nil _).symm, (hF.trans hF2).mono (by omega), rfl, v, hv, (hF.trans hF2).mono (by omega), rfl⟩
  | nil =>
    rw [List.map_nil, List.isEmpty_nil]
    walk_at "vs"
    refine p_ixK e1 rfl (lT s t) ?_
    walk_at "vs"
    refine p_setK e1 rfl (by simp) ?_
    rintro _ rfl
    rw [pT]
    have hF2 : Fr S1 p q (N + 1) (S1.set p (sprD q s (t + 1))) := hF.pot.setp (by omega)
    have e3 : (S1.set p (sprD q s (t + 1)))[p]? = some (sprD q s (t + 1)) := List.getElem?_set_self hF.pot.lt
    have ht1 : 0 ≤ t + 1 ∧ t + 1 ≤ N + 1 := by omega
    generalize t + 1 = u at hF2 e3 ht1
    walk_at "vs"
    refine p_ixK e3 rfl (lS s u) ?_
    walk_at "vs"
    refine p_ixK e3 rfl (lT s u) ?_
    walk_at "vs"
    refine p_ixK e3 rfl (lT s u) ?_
    walk_at "vs"
    obtain ⟨x, hx⟩ : ∃ x : Int, (s + 7919 * u * u) * 48271 % 2305843009213693907 = x := ⟨_, rfl⟩
    rw [hx]
    walk_at "vs"
    refine p_ixK e3 rfl (lT s u) ?_
    walk_at "vs"
    obtain ⟨v, hv, hv2⟩ := nat (x * (x % 999983 + 131 * u + 3) % 2305843009213693921 / 89 + x * (x % 999983 + 131 * u + 3) % 2305843009213693921 / 1000033)
    rw [hv2]
    exact ⟨_, [], (List.append_nil _).symm, hF.trans hF2, rfl, v, hv, hF.trans hF2, rfl⟩
section
variable {S0 S t : Store} {p q n N : Nat} {Q : D → Store → Prop}
/-- a draw -/
theorem k_next (hF : Fr S0 p q N S) (hl : S.length = n) {m : Int} (h : ∀ (v : Nat) (S' : Store), (v : Int) < m → Fr S0 p q (N + 1) S' → S'.length = n → Q (.int v) (S' ++ t)) (hm : (0 < m ∧ m < 18446744073709551616) ∧ N ≤ 1000000000000 := by omega) : Ok (d_law_take [.loc p, .int m] (S ++ t)) Q := by
  obtain ⟨v, S', hv, hF', e⟩ := take_ok (hF.pot.app (t := t)) hm.2 m hm.1.1 hm.1.2
  obtain ⟨S1, rfl, hF1⟩ := hF'.split hF.pot
  exact k_eq e (h v S1 hv (hF.trans hF1) (hF1.len.trans hl))
theorem k_next0 (hF : Fr S0 p q N S) (hl : S.length = n) {m : Int} (h : ∀ (v : Nat) (S' : Store), (v : Int) < m → Fr S0 p q (N + 1) S' → S'.length = n → Q (.int v) S') (hm : (0 < m ∧ m < 18446744073709551616) ∧ N ≤ 1000000000000 := by omega) : Ok (d_law_take [.loc p, .int m] S) Q := by
  have := k_next (t := []) (Q := Q) hF hl (fun v S' h1 h2 h3 => by rw [List.append_nil]; exact h v S' h1 h2 h3) hm
  rwa [List.append_nil] at this
theorem k_lift {r : Store → Res D} {P : D → Prop} {c : Nat} (hr : ∀ S, Spr S p q N → Ok (r S) fun d S' => Fr S p q (N + c) S' ∧ P d) (hF : Fr S0 p q N S) (hl : S.length = n) (h : ∀ d S', P d → Fr S0 p q (N + c) S' → S'.length = n → Q d (S' ++ t)) : Ok (r (S ++ t)) Q := by
  obtain ⟨d, S', e, hF', hp⟩ := hr _ (hF.pot.app (t := t))
  obtain ⟨S1, rfl, hF1⟩ := hF'.split hF.pot
  exact k_eq e (h d S1 hp (hF.trans hF1) (hF1.len.trans hl))
theorem k_lift0 {r : Store → Res D} {P : D → Prop} {c : Nat} (hr : ∀ S, Spr S p q N → Ok (r S) fun d S' => Fr S p q (N + c) S' ∧ P d) (hF : Fr S0 p q N S) (hl : S.length = n) (h : ∀ d S', P d → Fr S0 p q (N + c) S' → S'.length = n → Q d S') : Ok (r S) Q := by
  obtain ⟨d, S', e, hF', hp⟩ := hr _ hF.pot
  exact k_eq e (h d S' hp (hF.trans hF') (hF'.len.trans hl))
end
theorem pow60 (S : Store) : powD (.int 10) (.int 60) S = .ok (.int 1000000000000000000000000000000000000000000000000000000000000) S := by
  have h : CPowX 10 60 := by decide +kernel
  rw [e_pow, if_pos h]
  rfl
theorem pow18 (S : Store) : powD (.int 10) (.int 18) S = .ok (.int 1000000000000000000) S := by
  have h : CPowX 10 18 := by decide +kernel
  rw [e_pow, if_pos h]
  rfl
theorem spring_new {ns : List Int} (hns : ns.length ≤ 63) {S : Store} {Q : D → Store → Prop} (h : ∀ (p q : Nat) (S' : Store), Spr S' p q 0 → Q (.loc p) S') : Ok (d_law_spring_of [.frz (ns.map D.int)] S) Q := by
  unfold d_law_spring_of
  walk_at "den"
  unfold m_law_spring_of
  walk_at "vs"
  refine k_eq (pow60 _) ?_
  walk_at "vs"
  refine rng_of (m := 6) rfl (by omega) ?_
  have lg : ∀ {f k : Nat}, 0 < f → f < 2 ^ k → f.log2 < k := fun {f k} h0 h => (Nat.log2_lt (by omega)).mpr h
  obtain ⟨c60, hc60⟩ : ∃ c : Nat, c = 1000000000000000000000000000000000000000000000000000000000000 := ⟨_, rfl⟩
  have h60 : c60 < 2 ^ 200 := by rw [hc60]; decide
  have hc0 : 0 < c60 := by rw [hc60]; decide
  refine w_each (fun l σ S' => S' = S ++ [.lst []] ∧ ∃ (f : Nat) (x4 : Option D), 0 < f ∧ f < 2 ^ (200 * (l.length + 1)) ∧ l.length ≤ 6 ∧ σ = [some (.frz (ns.map D.int)), some (.loc S.length), some (.int 4099), some (.int f), x4, none, none]) ⟨rfl, c60, none, hc0, h60, by simp, by rw [hc60]; rfl⟩ no_guardE ?_ ?_
  · rintro l k r σ S' e0 ⟨rfl, f, x4, hf0, hf, hl6, rfl⟩
    have hl5 : l.length < 6 := by
      have := congrArg List.length e0
      rw [List.length_range, List.length_append, List.length_cons] at this
      omega
    unfold b1_law_spring_of
    walk_at "vs"
    refine k_eq (pow60 _) ?_
    rw [show (1000000000000000000000000000000000000000000000000000000000000 : Int) = (c60 : Int) by rw [hc60]; rfl]
    refine p_mulW (.inr ?_) ?_
    · have h1 := lg hf0 hf
      have h2 := lg hc0 h60
      have h3 : 200 * (l.length + 1) ≤ 1200 := by omega
      unfold CMulW
      have e1 : (f : Int).natAbs = f := rfl
      have e2 : (c60 : Int).natAbs = c60 := rfl
      rw [e1, e2]
      omega
    walk_at "lk"
    refine ⟨rfl, f * c60, _, Nat.mul_pos hf0 hc0, ?_, by rw [List.length_append, List.length_singleton]; omega, rfl⟩
    rw [List.length_append, List.length_singleton, show 200 * (l.length + 1 + 1) = 200 * (l.length + 1) + 200 by omega, Nat.pow_add]
    exact Nat.mul_lt_mul'' hf h60
  rintro σ S' ⟨rfl, f, x4, hf0, hf, hl6, rfl⟩
  walk_at "vs"
  rw [← List.map_take]
  obtain ⟨ms, hms⟩ : ∃ ms, ns.take 63 = ms := ⟨_, rfl⟩
  rw [hms]
  refine w_each (fun l σ S' => S' = S ++ [.lst []] ∧ ∃ (s : Int) (x5 x6 : Option D), 0 ≤ s ∧ s < 2305843009213693951 ∧ σ = [some (.frz (ns.map D.int)), some (.loc S.length), some (.int s), some (.int f), x4, x5, x6]) ⟨rfl, 4099, none, none, by omega, by omega, rfl⟩ no_guardE ?_ ?_
  · rintro l c r σ S' e0 ⟨rfl, s, x5, x6, h0, h1, rfl⟩
    unfold b2_law_spring_of
    walk_at "vs"
    obtain ⟨x, hx, hx0, hx1⟩ : ∃ x : Int, c % 1000003 = x ∧ 0 ≤ x ∧ x < 1000003 := ⟨_, rfl, Int.emod_nonneg _ (by omega), Int.emod_lt_of_pos _ (by omega)⟩
    rw [hx]
    walk_at "vs"
    exact ⟨rfl, _, _, _, Int.emod_nonneg _ (by omega), Int.emod_lt_of_pos _ (by omega), rfl⟩
  rintro σ S' ⟨rfl, s, x5, x6, h0, h1, rfl⟩
  walk_at "vs"
  have fin : ∀ (ds : List Int) (T : Store), (∀ d ∈ ds, 0 ≤ d) → T[S.length]? = some (.lst []) → ∀ (q : Nat), T[q]? = some (.lst (ds.map D.int)) → ∀ (x5 x6 : Option D), Wf (mRet (mDispK [tx [111, 119, 110], tx [115, 101, 101, 100], tx [116, 117, 114, 110]] (mCons (mVar 1) (mCons (mVar 2) (mCons (mC (.int 0)) mNil)))) [some (.frz (ns.map D.int)), some (.loc q), some (.int s), some (.int f), x4, x5, x6] T) (fun _ S => Q .non S) Q (fun _ _ => False) (fun _ _ => False) := by
    intro ds T hd hT q hq x5 x6
    have hql := (List.getElem?_eq_some_iff.mp hq).1
    refine w_ret ?_
    unfold mDispK
    refine k_bind ?_
    walk_at "vs"
    have e1 : (T ++ [Ob.dK []])[T.length]? = some (.dK []) := get_go0 rfl rfl
    simp only [e1]
    refine k_if ⟨rfl, by decide⟩ ?_
    refine k_ok ?_
    refine h T.length q _ ⟨ds, s, 0, ?_, ?_, hd, ⟨by omega, by omega⟩, by omega⟩
    · rw [List.getElem?_set_self (by simp)]
      rfl
    · rw [List.getElem?_set_ne (by omega), List.getElem?_append_left hql]
      exact hq
  cases ns with
  | nil =>
    rw [List.map_nil, List.length_nil]
    refine br_F (by rfl) ?_
    refine br_f ?_
    refine w_skip ?_
    have hq : (S ++ [Ob.lst []])[S.length]? = some (.lst (([] : List Int).map D.int)) := get_go0 rfl rfl
    exact fin [] _ (fun _ h => (List.not_mem_nil h).elim) hq _ hq _ _
  | cons c0 ns =>
    refine br_T (decide_eq_true (by simp only [List.length_map, List.length_cons]; omega)) ?_
    rw [List.map_cons]
    refine k_mT ?_
    refine k_m2 (k_m2 ?_)
    walk_at "vs"
    refine p_ixF (d := .int c0) atI_0 ?_
    walk_at "vs"
    refine k_eq (pow18 _) ?_
    walk_at "vs"
    refine br_dec (fun h5 => ?_) (fun h5 => ?_)
    case refine_2 =>
      refine w_skip ?_
      have hq : (S ++ [Ob.lst []])[S.length]? = some (.lst (([] : List Int).map D.int)) := get_go0 rfl rfl
      exact fin [] _ (fun _ h => (List.not_mem_nil h).elim) hq _ hq _ _
    walk_at "vs"
    rw [← List.map_cons, ← List.map_take, show (D.int c0 :: List.map D.int (List.take 62 ns)) = (c0 :: ns.take 62).map D.int from rfl]
    dsimp only
    refine k_lcM1 (f := D.int) (fun c => .int ((if c < 0 then -c else c) % (f : Int))) (fun _ h => (List.not_mem_nil h).elim) (fun c hc => ?_) ?_
    · unfold e1_law_spring_of
      walk_at "vs"
      exact ⟨rfl, rfl⟩
    refine set_go ?_
    intro σ' e
    simp only [List.set_cons_zero, List.set_cons_succ] at e
    subst e
    have hz : (c0 :: ns.take 62).map (fun c => D.int ((if c < 0 then -c else c) % (f : Int))) = ((c0 :: ns.take 62).map fun c => (if c < 0 then -c else c) % (f : Int)).map D.int := by rw [List.map_map]; rfl
    rw [hz]
    refine fin _ _ (fun d hd => ?_) ?_ _ (get_go0 rfl rfl) _ _
    · obtain ⟨c, _, rfl⟩ := List.mem_map.mp hd
      exact Int.emod_nonneg _ (by omega)
    · rw [List.append_assoc]
      exact get_go0 rfl rfl
/-! ### data of any kind, shown: numbers to 10^34, texts, tuples, lists -/
mutual
def D.rq (k : Nat) : D → Bool
  | .non => true
  | .bl _ => true
  | .int i => decide (i.natAbs < 10 ^ 34)
  | .str x => x.cps.all (· < 1114112)
  | .tup ds => match k with
    | 0 => false
    | k + 1 => D.rqs k ds
  | .lst ds => match k with
    | 0 => false
    | k + 1 => D.rqs k ds
  | _ => false
def D.rqs (k : Nat) : List D → Bool
  | [] => true
  | d :: ds => D.rq k d && D.rqs k ds
end
mutual
def D.wu : D → Nat
  | .int _ => 120
  | .str x => x.cps.size
  | .tup ds => D.wus ds
  | .lst ds => D.wus ds
  | _ => 0
def D.wus : List D → Nat
  | [] => 0
  | d :: ds => D.wu d + 1 + D.wus ds
end
theorem short_int {i : Int} (h : i.natAbs < 10 ^ 34) : (PyData.shown (.int i)).length ≤ 40 := by
  show (Str.ofString (toString i)).length ≤ 40
  rcases Int.lt_or_le i 0 with h0 | h0
  · obtain ⟨n, rfl⟩ : ∃ n : Nat, i = Int.negSucc n := by
      cases i with
      | ofNat n => exact absurd h0 (by simp)
      | negSucc n => exact ⟨n, rfl⟩
    have e : toString (Int.negSucc n) = "-" ++ toString ((n + 1 : Nat) : Int) := rfl
    have h2 := PyProof.Rows.toString_length_le (v := ((n + 1 : Nat) : Int)) (by omega) (k := 34) (by decide) (by
      have : (Int.negSucc n).natAbs = n + 1 := rfl
      rw [this] at h
      exact_mod_cast h)
    rw [e]
    rw [PyProof.Rows.ofString_length] at h2 ⊢
    rw [String.toList_append, List.length_append]
    have : ("-" : String).toList.length = 1 := rfl
    omega
  · have h2 := PyProof.Rows.toString_length_le h0 (k := 34) (by decide) (by
      have : ((i.natAbs : Nat) : Int) = i := Int.natAbs_of_nonneg h0
      rw [← this]
      exact_mod_cast h)
    omega
mutual
theorem rq_py : ∀ (k : Nat) (d : D), D.rq k d = true → ∃ p, toPy d = some p ∧ (p.showable = true ∧ p.hasDict = false) ∧ p.depth ≤ k ∧ p.canLay0 = true ∧ p.intsShort 40 = true ∧ p.weight ≤ D.wu d ∧ ∀ S, pyS S d = toPy d
  | k, .int i, h => by
    have h' : i.natAbs < 10 ^ 34 := by cases k <;> simpa [D.rq] using h
    have hlog : i.natAbs.log2 < 113 := by
      rcases Nat.eq_zero_or_pos i.natAbs with z | z
      · rw [z]; decide
      · exact (Nat.log2_lt (by omega)).mpr (Nat.lt_of_lt_of_le h' (by decide))
    refine ⟨.int i, rfl, ⟨by simp only [PyData.showable, decide_eq_true_eq]; omega, rfl⟩, by simp [PyData.depth], rfl, by simp only [PyData.intsShort, decide_eq_true_eq]; exact short_int h', ?_, fun _ => rfl⟩
    simp only [PyData.weight, D.wu]
    split <;> omega
  | k, .str x, h => by
    have h' : x.cps.all (· < 1114112) = true := by cases k <;> simpa [D.rq] using h
    refine ⟨.str x, rfl, ⟨rfl, rfl⟩, by simp [PyData.depth], h', rfl, by simp [PyData.weight, D.wu], fun _ => rfl⟩
  | 0, .tup _, h => by simp [D.rq] at h
  | k + 1, .tup ds, h => by
    obtain ⟨ps, e, h1, h2, h3, h4, h5⟩ := rqs_py k ds (by simpa [D.rq] using h)
    refine ⟨.tuple ps, by simp only [toPy, e] <;> rfl, ⟨by simpa [PyData.showable] using h1.1, by simpa [PyData.hasDict] using h1.2⟩, by simp only [PyData.depth]; omega, by simpa [PyData.canLay0] using h3, by simpa [PyData.intsShort] using h4, by simpa [PyData.weight, D.wu] using h5, fun _ => rfl⟩
  | 0, .lst _, h => by simp [D.rq] at h
  | k + 1, .lst ds, h => by
    obtain ⟨ps, e, h1, h2, h3, h4, h5⟩ := rqs_py k ds (by simpa [D.rq] using h)
    refine ⟨.list ps, by simp only [toPy, e] <;> rfl, ⟨by simpa [PyData.showable] using h1.1, by simpa [PyData.hasDict] using h1.2⟩, by simp only [PyData.depth]; omega, by simpa [PyData.canLay0] using h3, by simpa [PyData.intsShort] using h4, by simpa [PyData.weight, D.wu] using h5, fun _ => rfl⟩
  | k, .non, _ => ⟨.none, rfl, ⟨rfl, rfl⟩, by simp [PyData.depth], rfl, rfl, by simp [PyData.weight], fun _ => rfl⟩
  | k, .bl b, _ => ⟨.bool b, rfl, ⟨rfl, rfl⟩, by simp [PyData.depth], rfl, rfl, by simp [PyData.weight], fun _ => rfl⟩
  | k, .ktp _, h => by cases k <;> simp [D.rq] at h
  | k, .frz _, h => by cases k <;> simp [D.rq] at h
  | k, .loc _, h => by cases k <;> simp [D.rq] at h
  | k, .exn _, h => by cases k <;> simp [D.rq] at h
  | k, .exf _ _ _ _, h => by cases k <;> simp [D.rq] at h
theorem rqs_py : ∀ (k : Nat) (ds : List D), D.rqs k ds = true → ∃ ps, toPys ds = some ps ∧ (PyData.showableAll ps = true ∧ PyData.hasDictAll ps = false) ∧ PyData.depthAll ps ≤ k ∧ PyData.canLayAll0 ps = true ∧ PyData.intsShortAll 40 ps = true ∧ PyData.weightAll ps ≤ D.wus ds
  | k, [], _ => ⟨[], rfl, ⟨rfl, rfl⟩, by simp [PyData.depthAll], rfl, rfl, by simp [PyData.weightAll]⟩
  | k, d :: ds, h => by
    simp only [D.rqs, Bool.and_eq_true] at h
    obtain ⟨p, e, a1, a2, a3, a4, a5, a6⟩ := rq_py k d h.1
    obtain ⟨ps, e', b1, b2, b3, b4, b5⟩ := rqs_py k ds h.2
    refine ⟨p :: ps, by simp [toPys, e, e'], ⟨by simp [PyData.showableAll, a1.1, b1.1], by simp [PyData.hasDictAll, a1.2, b1.2]⟩, by simp only [PyData.depthAll]; omega, by simp [PyData.canLayAll0, a3, b3], by simp [PyData.intsShortAll, a4, b4], by simp only [PyData.weightAll, D.wus]; omega⟩
end
/-- what repr tells of it -/
theorem p_reprQ {S : Store} {Q : D → Store → Prop} {d : D} (h : D.rq 60 d = true) (hw : D.wu d ≤ 300000) (q : ∀ x, (∀ S', reprXD [d] S' = .ok (.str x) S') → Q (.str x) S) : Ok (reprXD [d] S) Q := by
  obtain ⟨p, e, a1, a2, a3, a4, a5, a6⟩ := rq_py 60 d h
  have hs : p.shown.length ≤ sizeLine := by
    have h2 := PyData.shown_le 40 (by decide) p (PyData.leavesShort_of_canLay0 40 p a3 a4)
    rw [size_eq]
    omega
  have key : ∃ x, ∀ S', reprXD [d] S' = .ok (.str x) S' := by
    refine ⟨p.shown, fun S' => ?_⟩
    have h1 : pyS S' d = some p := by rw [a6 S', e]
    cases d with
    | non => cases e; rfl
    | bl b => cases e; simp only [reprXD, reprD, h1, reprOk, if_true]
    | int i =>
      cases e
      have hk := a1.1
      simp only [PyData.showable] at hk
      simp only [reprXD, reprD, h1, reprOk, hk, if_true]
    | str x =>
      cases e
      exact if_pos hs
    | tup ds =>
      simp only [toPy] at e
      cases z : toPys ds with
      | none => rw [z] at e; cases e
      | some ps =>
        rw [z] at e
        cases e
        have ok : reprOk (.tuple ps) = true := by
          simp only [reprOk, a1.1, a1.2, Bool.true_and, Bool.not_false, Bool.and_eq_true, decide_eq_true_eq]
          exact ⟨a2, hs⟩
        simp only [reprXD, reprD, h1, ok, if_true]
    | lst ds =>
      simp only [toPy] at e
      cases z : toPys ds with
      | none => rw [z] at e; cases e
      | some ps =>
        rw [z] at e
        cases e
        have ok : reprOk (.list ps) = true := by
          simp only [reprOk, a1.1, a1.2, Bool.true_and, Bool.not_false, Bool.and_eq_true, decide_eq_true_eq]
          exact ⟨a2, hs⟩
        simp only [reprXD, reprD, h1, ok, if_true]
    | ktp ds => simp [D.rq] at h
    | frz ds => simp [D.rq] at h
    | loc ds => simp [D.rq] at h
    | exn a => simp [D.rq] at h
    | exf a b c d => simp [D.rq] at h
  obtain ⟨x, hx⟩ := key
  exact k_eq (hx S) (q x hx)
mutual
theorem rq_sc (n : Nat) : ∀ (k : Nat) (d : D), D.rq k d = true → d.sc n = true
  | _, .non, _ => rfl
  | _, .bl _, _ => rfl
  | _, .int _, _ => rfl
  | _, .str _, _ => rfl
  | 0, .tup _, h => by simp [D.rq] at h
  | k + 1, .tup ds, h => by simp only [D.sc]; exact rqs_sc n k ds (by simpa [D.rq] using h)
  | 0, .lst _, h => by simp [D.rq] at h
  | k + 1, .lst ds, h => by simp only [D.sc]; exact rqs_sc n k ds (by simpa [D.rq] using h)
  | k, .ktp _, h => by cases k <;> simp [D.rq] at h
  | k, .frz _, h => by cases k <;> simp [D.rq] at h
  | k, .loc _, h => by cases k <;> simp [D.rq] at h
  | k, .exn _, h => by cases k <;> simp [D.rq] at h
  | k, .exf _ _ _ _, h => by cases k <;> simp [D.rq] at h
theorem rqs_sc (n : Nat) : ∀ (k : Nat) (ds : List D), D.rqs k ds = true → D.scs n ds = true
  | _, [], _ => rfl
  | k, d :: ds, h => by
    simp only [D.rqs, Bool.and_eq_true] at h
    simp only [D.scs, Bool.and_eq_true]
    exact ⟨rq_sc n k d h.1, rqs_sc n k ds h.2⟩
end
mutual
theorem rq_mono : ∀ {k m : Nat} (d : D), k ≤ m → D.rq k d = true → D.rq m d = true
  | k, m, .non, _, _ => by cases m <;> simp [D.rq]
  | k, m, .bl _, _, _ => by cases m <;> simp [D.rq]
  | k, m, .int i, _, h => by
    have h' : i.natAbs < 10 ^ 34 := by cases k <;> simpa [D.rq] using h
    cases m <;> simpa [D.rq] using h'
  | k, m, .str x, _, h => by
    have h' : x.cps.all (· < 1114112) = true := by cases k <;> simpa [D.rq] using h
    cases m <;> simpa [D.rq] using h'
  | 0, _, .tup _, _, h => by simp [D.rq] at h
  | k + 1, 0, .tup ds, hm, h => by omega
  | k + 1, m + 1, .tup ds, hm, h => by
    have := rqs_mono (m := m) ds (by omega) (show D.rqs k ds = true by simpa [D.rq] using h)
    simpa [D.rq] using this
  | 0, _, .lst _, _, h => by simp [D.rq] at h
  | k + 1, 0, .lst ds, hm, h => by omega
  | k + 1, m + 1, .lst ds, hm, h => by
    have := rqs_mono (m := m) ds (by omega) (show D.rqs k ds = true by simpa [D.rq] using h)
    simpa [D.rq] using this
  | k, _, .ktp _, _, h => by cases k <;> simp [D.rq] at h
  | k, _, .frz _, _, h => by cases k <;> simp [D.rq] at h
  | k, _, .loc _, _, h => by cases k <;> simp [D.rq] at h
  | k, _, .exn _, _, h => by cases k <;> simp [D.rq] at h
  | k, _, .exf _ _ _ _, _, h => by cases k <;> simp [D.rq] at h
theorem rqs_mono : ∀ {k m : Nat} (ds : List D), k ≤ m → D.rqs k ds = true → D.rqs m ds = true
  | _, _, [], _, _ => rfl
  | k, m, d :: ds, hm, h => by
    simp only [D.rqs, Bool.and_eq_true] at h ⊢
    exact ⟨rq_mono d hm h.1, rqs_mono ds hm h.2⟩
end
theorem rqs_of {k : Nat} : ∀ {ds : List D}, (∀ d ∈ ds, D.rq k d = true) → D.rqs k ds = true
  | [], _ => rfl
  | d :: ds, h => by
    simp only [D.rqs, Bool.and_eq_true]
    exact ⟨h d List.mem_cons_self, rqs_of fun e he => h e (List.mem_cons_of_mem _ he)⟩
theorem rqs_mem {k : Nat} : ∀ {ds : List D}, D.rqs k ds = true → ∀ d ∈ ds, D.rq k d = true
  | [], _, _, h => (List.not_mem_nil h).elim
  | d :: ds, h, e, he => by
    simp only [D.rqs, Bool.and_eq_true] at h
    rcases List.mem_cons.mp he with rfl | he
    · exact h.1
    · exact rqs_mem h.2 e he
theorem wus_le {c : Nat} : ∀ {ds : List D}, (∀ d ∈ ds, D.wu d ≤ c) → D.wus ds ≤ (c + 1) * ds.length
  | [], _ => by simp [D.wus]
  | d :: ds, h => by
    have h1 := h d List.mem_cons_self
    have h2 := wus_le fun y hy => h y (List.mem_cons_of_mem _ hy)
    rw [List.length_cons, Nat.mul_succ]
    simp only [D.wus]
    omega
theorem rq_str {k : Nat} {l : List Nat} (h : ∀ c ∈ l, c < 1114112) : D.rq k (.str (tx l)) = true := by
  have : (tx l).cps.all (· < 1114112) = true := by
    rw [← Array.all_toList, tx_cps, List.all_eq_true]
    exact fun c hc => decide_eq_true (h c hc)
  cases k <;> simpa [D.rq] using this
/-! ### places in order -/
def kp (p : Pl) : List Int := [p.1, p.2]
def sortPl (xs : List Pl) : List Pl := sortBy kp xs
theorem kp_inj {a b : Pl} (h : kp a = kp b) : a = b := by
  rcases a with ⟨x, y⟩
  rcases b with ⟨x', y'⟩
  simp [kp] at h
  simp [h]
theorem sorted_pl {xs : List Pl} {S : Store} (hl : xs.length ≤ 16777216) : sortedD [.lst (xs.map pl)] S = .ok (.lst ((sortPl xs).map pl)) S := sorted_it kp (fun _ _ => by simp [kp]) hl
theorem sortPl_eq {xs ys : List Pl} (h : xs.Perm ys) : sortPl xs = sortPl ys := sortBy_eq kp (fun _ _ _ _ => kp_inj) h
theorem sortPl_len (xs : List Pl) : (sortPl xs).length = xs.length := sortBy_len kp xs
def risesB (ps : List Pl) : Bool := (ps.zip (ps.drop 1)).all fun x => HT.lexLt [x.1.1, x.1.2] [x.2.1, x.2.2]
theorem lexLt_lt : ∀ a c : List Int, HT.lexLt a c = decide (a < c)
  | [], [] => by simp [HT.lexLt]
  | [], _ :: _ => by simp [HT.lexLt]
  | _ :: _, [] => by simp [HT.lexLt]
  | x :: xs, y :: ys => by
    rw [HT.lexLt, lexLt_lt xs ys]
    by_cases h : x = y
    · subst h
      simp
    · simp [h, List.cons_lt_cons_iff]
theorem rises_sorted {ps : List Pl} (h : ps.Pairwise fun p q => [p.1, p.2] < [q.1, q.2]) : risesB ps = true := by
  unfold risesB
  induction ps with
  | nil => rfl
  | cons p ps ih =>
    rw [List.pairwise_cons] at h
    cases ps with
    | nil => rfl
    | cons q qs =>
      have ih := ih h.2
      simp only [List.drop_succ_cons, List.drop_zero, List.zip_cons_cons, List.all_cons] at ih ⊢
      rw [ih, lexLt_lt, decide_eq_true (h.1 q List.mem_cons_self)]
      rfl
theorem sortPl_rises {ps : List Pl} (h : ps.Nodup) : risesB (sortPl ps) = true := by
  refine rises_sorted ?_
  have h1 := sortBy_le kp ps
  have h2 : (sortPl ps).Nodup := (sortBy_perm kp ps).nodup_iff.mpr h
  refine (h1.and h2).imp fun {p q} z => ?_
  have hle := of_decide_eq_true (show decide (kp p ≤ kp q) = true from z.1)
  refine Std.lt_of_le_of_ne hle fun e => z.2 (kp_inj e)
/-! ### sorted(set(places)) -/
theorem kp_inj2 {a b : Pl} : kp a = kp b ↔ a = b := ⟨fun h => kp_inj h, fun h => by rw [h]⟩
theorem pairsOf_pl : ∀ ps : List Pl, pairsOf (ps.map pl) = some (ps.map kp)
  | [] => rfl
  | p :: ps => by
    rw [List.map_cons, List.map_cons]
    show (pairsOf (ps.map pl)).map _ = _
    rw [pairsOf_pl ps]
    rfl
theorem undup_kp : ∀ ps : List Pl, undup (ps.map kp) = (undup ps).map kp
  | [] => rfl
  | p :: ps => by
    have h : kp p ∈ ps.map kp ↔ p ∈ ps := ⟨fun h => by
      obtain ⟨q, hq, e⟩ := List.mem_map.mp h
      rw [← kp_inj e]; exact hq, fun h => List.mem_map.mpr ⟨p, h, rfl⟩⟩
    rw [List.map_cons]
    unfold undup
    by_cases c : p ∈ ps
    · rw [if_pos c, if_pos (h.mpr c), undup_kp ps]
    · rw [if_neg c, if_neg (fun z => c (h.mp z)), undup_kp ps, List.map_cons]
theorem sort_kp (ps : List Pl) : ((ps.map kp).mergeSort ptLe).map ptD = (sortPl ps).map pl := by
  have h : (ps.map kp).mergeSort ptLe = (sortPl ps).map kp := by
    unfold sortPl sortBy
    rw [List.map_mergeSort (r := fun a b => ile (kp a) (kp b)) (s := ptLe) (fun _ _ _ _ => rfl)]
  rw [h, List.map_map]
  rfl
theorem p_sortSetT {ps : List Pl} {S : Store} {Q : D → Store → Prop} (h : (undup ps).length < 63) (k : Q (.lst ((sortPl (undup ps)).map pl)) S) : Ok (sortSetP (.tup (ps.map pl)) S) Q := by
  have e : placesOf S (.tup (ps.map pl)) = some (ps.map kp) := by
    show pairsOf (ps.map pl) = _
    exact pairsOf_pl ps
  refine k_eq (x := .lst ((sortPl (undup ps)).map pl)) (S := S) ?_ k
  simp only [sortSetP, e, undup_kp, List.length_map]
  rw [if_pos h, sort_kp]
theorem undup_le {α : Type} [DecidableEq α] : ∀ xs : List α, (undup xs).length ≤ xs.length
  | [] => Nat.le_refl _
  | x :: xs => by
    have := undup_le xs
    unfold undup
    split
    · exact Nat.le_succ_of_le this
    · exact Nat.succ_le_succ this
theorem rises_lt {ps : List Pl} (h : risesB ps = true) : ps.Pairwise fun p q => kp p < kp q := by
  induction ps with
  | nil => exact .nil
  | cons p ps ih =>
    cases ps with
    | nil => exact List.pairwise_singleton _ _
    | cons q qs =>
      have h' : (HT.lexLt [p.1, p.2] [q.1, q.2] && risesB (q :: qs)) = true := h
      rw [Bool.and_eq_true] at h'
      have h1 : kp p < kp q := by
        have := h'.1
        rw [lexLt_lt] at this
        exact of_decide_eq_true this
      have ih := ih h'.2
      refine List.pairwise_cons.mpr ⟨fun r hr => ?_, ih⟩
      rcases List.mem_cons.mp hr with rfl | hr
      · exact h1
      · exact List.lt_trans h1 ((List.pairwise_cons.mp ih).1 r hr)
theorem rises_iff {ps : List Pl} : risesB ps = true ↔ ps = sortPl (undup ps) := by
  constructor
  · intro h
    have h1 := rises_lt h
    have nd : ps.Nodup := h1.imp fun {p q} z e => by
      rw [e] at z
      exact List.lt_irrefl _ z
    rw [undup_nodup nd]
    exact (sortBy_id kp (h1.imp fun {p q} z => decide_eq_true (List.le_of_lt z))).symm
  · intro h
    rw [h]
    exact sortPl_rises (nodup_undup ps)
theorem pls_pl (k : Nat) (ps : List Pl) : D.pls (k + 1) (ps.map pl) = true := pls_map fun p _ => by simp [D.pl, D.pls]
theorem eq_pls {ps qs : List Pl} : D.lst (ps.map pl) = D.lst (qs.map pl) ↔ ps = qs := by
  constructor
  · intro h
    have h1 := D.lst.inj h
    clear h
    induction ps generalizing qs with
    | nil => cases qs with
      | nil => rfl
      | cons q qs => simp at h1
    | cons p ps ih => cases qs with
      | nil => simp at h1
      | cons q qs =>
        simp only [List.map_cons, List.cons.injEq, D.tup.injEq, D.int.injEq] at h1
        rw [ih h1.2]
        congr 1
        exact Prod.ext h1.1.1 h1.1.2.1
  · intro h; rw [h]
theorem p_sortSetL {ps : List Pl} {S : Store} {Q : D → Store → Prop} (h : (undup ps).length < 63) (k : Q (.lst ((sortPl (undup ps)).map pl)) S) : Ok (sortSetP (.lst (ps.map pl)) S) Q := by
  have e : placesOf S (.lst (ps.map pl)) = some (ps.map kp) := by
    show pairsOf (ps.map pl) = _
    exact pairsOf_pl ps
  refine k_eq (x := .lst ((sortPl (undup ps)).map pl)) (S := S) ?_ k
  simp only [sortSetP, e, undup_kp, List.length_map]
  rw [if_pos h, sort_kp]
/-! ### is it in a list of plain data -/
theorem any_eqv {d : D} {p : PyData} (h : D.pl 63 d = true) (hp : toPy d = some p) : ∀ (ds : List D) (ps : List PyData), D.pls 63 ds = true → toPys ds = some ps → ((ps.any fun z => PyData.eqv z p) = true ↔ d ∈ ds)
  | [], ps, _, e => by
    simp only [toPys, Option.some.injEq] at e
    subst e
    simp
  | a :: ds, ps, hd, e => by
    simp only [pls_cons, Bool.and_eq_true] at hd
    simp only [toPys] at e
    split at e
    · rename_i q qs h1 h2
      cases e
      rw [List.any_cons, Bool.or_eq_true, any_eqv h hp ds qs hd.2 h2, eqv_pl 63 63 a d q p hd.1 h h1 hp, List.mem_cons]
      exact ⟨fun z => z.imp_left Eq.symm, fun z => z.imp_left Eq.symm⟩
    · cases e
open Classical in
theorem p_inPL {S : Store} {Q : D → Store → Prop} {n : Bool} {d : D} {ds : List D} (h : D.pl 63 d = true) (hs : D.pls 63 ds = true) (k : Q (.bl (xor n (decide (d ∈ ds)))) S) : Ok (inD n d (.lst ds) S) Q := by
  obtain ⟨p, r1, r2, r3⟩ := pl_py 63 d h
  obtain ⟨ps, q1, q2, q3⟩ := pls_py 63 ds hs
  have h1 : pyS S d = some p := by rw [pyS_pl S h, r1]
  have h2 : pyS S (.lst ds) = some (.list ps) := by
    rw [pyS_pl (k := 64) S (by rw [pl_lst]; exact hs)]
    simp only [toPy, q1]
    rfl
  have e : inD n d (.lst ds) S = match pyS S d, pyS S (.lst ds) with
    | some p, some (.list ds) => if SeqAt.shaped p = true ∧ SeqAt.shaped (.list ds) = true then .ok (.bl (xor n (ds.any fun z => PyData.eqv z p))) S else .stuck
    | some p, some (.tuple ds) => if SeqAt.shaped p = true ∧ SeqAt.shaped (.tuple ds) = true then .ok (.bl (xor n (ds.any fun z => PyData.eqv z p))) S else .stuck
    | _, _ => match dlook S (.lst ds) d with
      | some r => .ok (.bl (xor n r.isSome)) S
      | none => .stuck := by cases d <;> rfl
  refine k_eq ?_ k
  rw [e, h1, h2]
  simp only
  rw [if_pos ⟨by simp [SeqAt.shaped, r2]; omega, by simp [SeqAt.shaped, PyData.canLay0, q2, PyData.depth]; omega⟩]
  congr 3
  rw [Bool.eq_iff_iff, any_eqv h r1 ds ps hs q1, decide_eq_true_eq]
theorem sd_inj {a b : List Nat} (h : sd a = sd b) : a = b := tx_inj (D.str.inj h)
theorem sd_mem {a : List Nat} {xs : List (List Nat)} : sd a ∈ xs.map sd ↔ a ∈ xs := by
  rw [List.mem_map]
  exact ⟨fun ⟨b, hb, e⟩ => sd_inj e ▸ hb, fun h => ⟨a, h, rfl⟩⟩
open Classical in
theorem p_inSL {S : Store} {Q : D → Store → Prop} {n : Bool} {x : List Nat} {xs : List (List Nat)} (h : ∀ c ∈ x, c < 1114112) (hs : ∀ y ∈ xs, ∀ c ∈ y, c < 1114112) (k : Q (.bl (xor n (decide (x ∈ xs)))) S) : Ok (inD n (.str (tx x)) (.lst (xs.map sd)) S) Q := by
  refine p_inPL (pl_tx h) (pls_map fun y hy => pl_tx (hs y hy)) ?_
  have : (decide (D.str (tx x) ∈ xs.map sd)) = decide (x ∈ xs) := by
    rw [Bool.eq_iff_iff, decide_eq_true_eq, decide_eq_true_eq]
    exact sd_mem
  rw [this]
  exact k
open Classical in
theorem p_inPT {S : Store} {Q : D → Store → Prop} {n : Bool} {d : D} {ds : List D} (h : D.pl 63 d = true) (hs : D.pls 63 ds = true) (k : Q (.bl (xor n (decide (d ∈ ds)))) S) : Ok (inD n d (.tup ds) S) Q := by
  obtain ⟨p, r1, r2, r3⟩ := pl_py 63 d h
  obtain ⟨ps, q1, q2, q3⟩ := pls_py 63 ds hs
  have h1 : pyS S d = some p := by rw [pyS_pl S h, r1]
  have h2 : pyS S (.tup ds) = some (.tuple ps) := by
    rw [pyS_pl (k := 64) S (by rw [pl_tup]; exact hs)]
    simp only [toPy, q1]
    rfl
  have e : inD n d (.tup ds) S = match pyS S d, pyS S (.tup ds) with
    | some p, some (.list ds) => if SeqAt.shaped p = true ∧ SeqAt.shaped (.list ds) = true then .ok (.bl (xor n (ds.any fun z => PyData.eqv z p))) S else .stuck
    | some p, some (.tuple ds) => if SeqAt.shaped p = true ∧ SeqAt.shaped (.tuple ds) = true then .ok (.bl (xor n (ds.any fun z => PyData.eqv z p))) S else .stuck
    | _, _ => match dlook S (.tup ds) d with
      | some r => .ok (.bl (xor n r.isSome)) S
      | none => .stuck := by cases d <;> rfl
  refine k_eq ?_ k
  rw [e, h1, h2]
  simp only
  rw [if_pos ⟨by simp [SeqAt.shaped, r2]; omega, by simp [SeqAt.shaped, PyData.canLay0, q2, PyData.depth]; omega⟩]
  congr 3
  rw [Bool.eq_iff_iff, any_eqv h r1 ds ps hs q1, decide_eq_true_eq]
theorem tl_inj {a b : Tl} (h : tl a = tl b) : a = b := by
  rcases a with ⟨x, y, z⟩
  rcases b with ⟨x', y', z'⟩
  simp [tl] at h
  simp [h]
theorem tl_mem {a : Tl} {ts : List Tl} : tl a ∈ ts.map tl ↔ a ∈ ts := by
  rw [List.mem_map]
  exact ⟨fun ⟨b, hb, e⟩ => tl_inj e ▸ hb, fun h => ⟨a, h, rfl⟩⟩
open Classical in
theorem p_inTl {S : Store} {Q : D → Store → Prop} {n : Bool} {t : Tl} {ts : List Tl} (k : Q (.bl (xor n (decide (t ∈ ts)))) S) : Ok (inD n (tl t) (.tup (ts.map tl)) S) Q := by
  refine p_inPT (pl_tl _ _) (pls_map fun _ _ => pl_tl _ _) ?_
  have : (decide (tl t ∈ ts.map tl)) = decide (t ∈ ts) := by
    rw [Bool.eq_iff_iff, decide_eq_true_eq, decide_eq_true_eq]
    exact tl_mem
  rw [this]
  exact k
theorem pl_eqd {p q : Pl} : ((D.tup [.int p.1, .int p.2]) = D.tup [.int q.1, .int q.2]) ↔ p = q := by
  rcases p with ⟨a, b⟩
  rcases q with ⟨c, d⟩
  simp
open Classical in
theorem p_inPl {S : Store} {Q : D → Store → Prop} {n : Bool} {q : Pl} {ps : List Pl} (k : Q (.bl (xor n (decide (q ∈ ps)))) S) : Ok (inD n (pl q) (.tup (ps.map pl)) S) Q := by
  refine p_inPT (by simp [D.pl, D.pls]) (pls_map fun _ _ => by simp [D.pl, D.pls]) ?_
  have : (decide (pl q ∈ ps.map pl)) = decide (q ∈ ps) := by
    rw [Bool.eq_iff_iff, decide_eq_true_eq, decide_eq_true_eq, List.mem_map]
    exact ⟨fun ⟨x, hx, e⟩ => pl_eqd.mp e ▸ hx, fun h => ⟨q, h, rfl⟩⟩
  rw [this]
  exact k
open Classical in
theorem p_inLO {S : Store} {Q : D → Store → Prop} {n : Bool} {d : D} {l : Nat} {ds : List D} (hS : S[l]? = some (.lst ds)) (h : D.pl 63 d = true) (hs : D.pls 63 ds = true) (k : Q (.bl (xor n (decide (d ∈ ds)))) S) : Ok (inD n d (.loc l) S) Q := by
  obtain ⟨p, r1, r2, r3⟩ := pl_py 63 d h
  obtain ⟨ps, q1, q2, q3⟩ := pls_py 63 ds hs
  have h1 : pyS S d = some p := by rw [pyS_pl S h, r1]
  have h2 : pyS S (.loc l) = some (.list ps) := by
    simp only [pyS, hS, q1]
    rfl
  have e : inD n d (.loc l) S = match pyS S d, pyS S (.loc l) with
    | some p, some (.list ds) => if SeqAt.shaped p = true ∧ SeqAt.shaped (.list ds) = true then .ok (.bl (xor n (ds.any fun z => PyData.eqv z p))) S else .stuck
    | some p, some (.tuple ds) => if SeqAt.shaped p = true ∧ SeqAt.shaped (.tuple ds) = true then .ok (.bl (xor n (ds.any fun z => PyData.eqv z p))) S else .stuck
    | _, _ => match dlook S (.loc l) d with
      | some r => .ok (.bl (xor n r.isSome)) S
      | none => .stuck := by cases d <;> rfl
  refine k_eq ?_ k
  rw [e, h1, h2]
  simp only
  rw [if_pos ⟨by simp [SeqAt.shaped, r2]; omega, by simp [SeqAt.shaped, PyData.canLay0, q2, PyData.depth]; omega⟩]
  congr 3
  rw [Bool.eq_iff_iff, any_eqv h r1 ds ps hs q1, decide_eq_true_eq]
theorem pl_mem {q : Pl} {ps : List Pl} : pl q ∈ ps.map pl ↔ q ∈ ps := by
  rw [List.mem_map]
  exact ⟨fun ⟨x, hx, e⟩ => pl_eqd.mp e ▸ hx, fun h => ⟨q, h, rfl⟩⟩
open Classical in
theorem p_inPLO {S : Store} {Q : D → Store → Prop} {n : Bool} {q : Pl} {l : Nat} {ps : List Pl} (hS : S[l]? = some (.lst (ps.map pl))) (k : Q (.bl (xor n (decide (q ∈ ps)))) S) : Ok (inD n (pl q) (.loc l) S) Q := by
  refine p_inLO hS (by simp [D.pl, D.pls]) (pls_map fun _ _ => by simp [D.pl, D.pls]) ?_
  have : (decide (pl q ∈ ps.map pl)) = decide (q ∈ ps) := by
    rw [Bool.eq_iff_iff, decide_eq_true_eq, decide_eq_true_eq, pl_mem]
  rw [this]
  exact k
def stp (q : Pl) : Nat → Pl
  | 0 => (q.1, q.2 + 1)
  | 1 => (q.1 + 1, q.2)
  | 2 => (q.1, q.2 - 1)
  | _ => (q.1 - 1, q.2)
theorem step_ok {q : Pl} {s : Nat} (hs : s < 4) (S : Store) : Ok (d_step_of [pl q, .int s] S) fun d S' => d = pl (stp q s) ∧ S' = S := by
  unfold d_step_of
  refine gc_pure ?_
  walk_at "den"
  unfold m_step_of
  have : s = 0 ∨ s = 1 ∨ s = 2 ∨ s = 3 := by omega
  rcases this with rfl | rfl | rfl | rfl
  all_goals
    walk_at "vs"
    refine ⟨⟨[], (List.append_nil _).symm⟩, rfl, ?_, rfl⟩
    simp [stp] <;> omega
/-! ### what is led to in a set of places -/
def ClosedIn (ps : List Pl) (C : Pl → Prop) : Prop := ∀ a, C a → ∀ s < 4, stp a s ∈ ps → C (stp a s)
structure Span (ps : List Pl) (p0 : Pl) (M : List Pl) : Prop where
  nd : M.Nodup
  sub : ∀ a ∈ M, a ∈ ps
  st : p0 ∈ M
  cl : ClosedIn ps (· ∈ M)
  least : ∀ C : Pl → Prop, C p0 → ClosedIn ps C → ∀ a ∈ M, C a
theorem Span.perm {ps : List Pl} {p0 : Pl} {M M' : List Pl} (h : Span ps p0 M) (h' : Span ps p0 M') : M.Perm M' :=
  (List.perm_ext_iff_of_nodup h.nd h'.nd).mpr fun a => ⟨fun ha => h.least (· ∈ M') h'.st h'.cl a ha, fun ha => h'.least (· ∈ M) h.st h.cl a ha⟩
theorem stp_back (q : Pl) {s : Nat} (hs : s < 4) : stp (stp q s) ((s + 2) % 4) = q := by
  have : s = 0 ∨ s = 1 ∨ s = 2 ∨ s = 3 := by omega
  rcases this with rfl | rfl | rfl | rfl
  all_goals
    simp only [stp, Nat.reduceAdd, Nat.reduceMod]
    refine Prod.ext ?_ ?_ <;> simp only [] <;> omega
theorem nodup_lenP {α : Type} [BEq α] [LawfulBEq α] : ∀ {l1 l2 : List α}, l1.Nodup → (∀ x ∈ l1, x ∈ l2) → l1.length ≤ l2.length
  | [], _, _, _ => Nat.zero_le _
  | a :: l1, l2, hn, hs => by
    have h1 := List.nodup_cons.mp hn
    have h2 : l1.length ≤ (l2.erase a).length := nodup_lenP h1.2 fun x hx => (List.mem_erase_of_ne fun e => h1.1 (by rw [← e]; exact hx)).mpr (hs x (List.mem_cons_of_mem _ hx))
    have h3 := List.length_erase_of_mem (hs a List.mem_cons_self)
    have h4 := List.length_pos_of_mem (hs a List.mem_cons_self)
    rw [List.length_cons]
    omega
/-- the links that are found: a place that is led to already, a side, the place there -/
abbrev Lk := Pl × Nat × Pl
abbrev lkD (x : Lk) : D := .tup [pl x.1, .int x.2.1, pl x.2.2]
def metL (p0 : Pl) (fs : List Lk) : List Pl := p0 :: fs.map (·.2.2)
theorem metL_app (p0 : Pl) (fs gs : List Lk) : metL p0 (fs ++ gs) = metL p0 fs ++ gs.map (·.2.2) := by simp [metL]
structure Lnk (ps : List Pl) (p0 : Pl) (fs : List Lk) : Prop where
  nd : (metL p0 fs).Nodup
  sub : ∀ a ∈ metL p0 fs, a ∈ ps
  lk : ∀ i x, fs[i]? = some x → x.2.1 < 4 ∧ x.2.2 = stp x.1 x.2.1 ∧ x.1 ∈ metL p0 (fs.take i)
theorem Lnk.least {ps : List Pl} {p0 : Pl} {fs : List Lk} (h : Lnk ps p0 fs) {C : Pl → Prop} (h0 : C p0) (hC : ClosedIn ps C) : ∀ a ∈ metL p0 fs, C a := by
  have key : ∀ n, ∀ a ∈ metL p0 (fs.take n), C a := by
    intro n
    induction n with
    | zero =>
      intro a ha
      simp only [List.take_zero, metL, List.map_nil, List.mem_singleton] at ha
      rw [ha]; exact h0
    | succ n ih =>
      intro a ha
      by_cases hn : n < fs.length
      · rw [List.take_succ, List.getElem?_eq_getElem hn] at ha
        simp only [Option.toList_some] at ha
        rw [metL_app] at ha
        rcases List.mem_append.mp ha with ha | ha
        · exact ih a ha
        · simp only [List.map_cons, List.map_nil, List.mem_singleton] at ha
          subst ha
          obtain ⟨h1, h2, h3⟩ := h.lk n fs[n] (List.getElem?_eq_getElem hn)
          have hm : fs[n].2.2 ∈ ps := h.sub _ (List.mem_cons_of_mem _ (List.mem_map.mpr ⟨_, List.getElem_mem hn, rfl⟩))
          rw [h2] at hm ⊢
          exact hC _ (ih _ h3) _ h1 hm
      · rw [List.take_of_length_le (by omega)] at ha
        rw [List.take_of_length_le (by omega)] at ih
        exact ih a ha
  have := key fs.length
  rwa [List.take_length] at this
theorem Lnk.add {ps : List Pl} {p0 : Pl} {fs : List Lk} (h : Lnk ps p0 fs) {a : Pl} {s : Nat} (hs : s < 4) (ha : a ∈ metL p0 fs) (ho : stp a s ∈ ps) (hn : stp a s ∉ metL p0 fs) : Lnk ps p0 (fs ++ [(a, s, stp a s)]) := by
  refine ⟨?_, fun b hb => ?_, fun i x hx => ?_⟩
  · rw [metL_app, List.nodup_append]
    exact ⟨h.nd, by simp, fun b hb c hc => by
      simp only [List.map_cons, List.map_nil, List.mem_singleton] at hc
      subst hc
      exact fun e => hn (e ▸ hb)⟩
  · rw [metL_app] at hb
    rcases List.mem_append.mp hb with hb | hb
    · exact h.sub b hb
    · simp only [List.map_cons, List.map_nil, List.mem_singleton] at hb
      rw [hb]; exact ho
  · by_cases hi : i < fs.length
    · rw [List.getElem?_append_left hi] at hx
      obtain ⟨h1, h2, h3⟩ := h.lk i x hx
      refine ⟨h1, h2, ?_⟩
      rw [List.take_append_of_le_length (by omega)]
      exact h3
    · rw [List.getElem?_append_right (by omega)] at hx
      have hi0 : i - fs.length = 0 := by
        cases hq : i - fs.length with
        | zero => rfl
        | succ n => rw [hq] at hx; simp at hx
      rw [hi0] at hx
      simp only [List.getElem?_cons_zero, Option.some.injEq] at hx
      subst hx
      refine ⟨hs, rfl, ?_⟩
      rw [show i = fs.length by omega, List.take_left' rfl]
      exact ha
theorem Lnk.start {ps : List Pl} {p0 : Pl} (h : p0 ∈ ps) : Lnk ps p0 [] := ⟨by simp [metL], fun a ha => by simp only [metL, List.map_nil, List.mem_singleton] at ha; rw [ha]; exact h, fun i x hx => by simp at hx⟩
theorem Lnk.len {ps : List Pl} {p0 : Pl} {fs : List Lk} (h : Lnk ps p0 fs) : fs.length + 1 ≤ ps.length := by
  have := nodup_lenP h.nd h.sub
  simpa [metL] using this
theorem Lnk.span {ps : List Pl} {p0 : Pl} {fs : List Lk} (h : Lnk ps p0 fs) (hc : ClosedIn ps (· ∈ metL p0 fs)) : Span ps p0 (metL p0 fs) := ⟨h.nd, h.sub, List.mem_cons_self, hc, fun _ h0 hC => h.least h0 hC⟩
theorem w_augI {i : Nat} {mv : DSt → Store → Res D} {σ : DSt} {S : Store} {E : XEv} {N B C : DSt → Store → Prop} {R : D → Store → Prop} {a : Int} (e : σ[i]? = some (some (.int a))) (h : Ok (mv σ S) fun d S => ∃ j, d = .int j ∧ ∀ σ', σ.set i (some (.int (a + j))) = σ' → N σ' S) : WfX E (mAug i mv σ S) N R B C := by
  unfold mAug
  rw [e]
  refine w_lift (h.imp ?_)
  rintro d S1 ⟨j, rfl, h⟩
  exact h _ rfl
/-! ### links_of -/
theorem scs_lk (n : Nat) (fs : List Lk) : D.scs n (fs.map lkD) = true := sc_map fun _ => by simp [D.sc, D.scs]
theorem links_ok {ps : List Pl} {p0 : Pl} (h0 : ps[0]? = some p0) (hl : ps.length ≤ 1000) (S : Store) : Ok (d_links_of [.tup (ps.map pl)] S) fun d S' => S' = S ∧ ∃ fs : List Lk, d = .lst (fs.map lkD) ∧ Lnk ps p0 fs ∧ ClosedIn ps (· ∈ metL p0 fs) := by
  unfold d_links_of
  refine gcF_pure ?_
  walk_at "den"
  unfold m_links_of
  have hp0 : p0 ∈ ps := List.mem_of_getElem? h0
  obtain ⟨n, hn⟩ : ∃ n, S.length = n := ⟨_, rfl⟩
  walk_at "vs"
  refine p_ixT (d := pl p0) (by rw [show (0 : Int) = ((0 : Nat) : Int) from rfl, atI_nat, List.getElem?_map, h0]; rfl) ?_
  walk_at "vs"
  rw [List.length_append, hn, List.append_assoc]
  refine (w_while (fun k σ S' => ∃ (fs : List Lk) (at' : Nat) (x4 x5 : Option D), S' = S ++ [.lst ((metL p0 fs).map pl), .lst (fs.map lkD)] ∧ Lnk ps p0 fs ∧ at' ≤ (metL p0 fs).length ∧ (∀ a ∈ (metL p0 fs).take at', ∀ s < 4, stp a s ∈ ps → stp a s ∈ metL p0 fs) ∧ ps.length - at' = k ∧
      σ = [some (.tup (ps.map pl)), some (.loc n), some (.loc (n + 1)), some (.int at'), x4, x5]) (ps.length - 0) ⟨[], 0, none, none, rfl, .start hp0, Nat.zero_le _, fun a ha => by simp at ha, rfl, rfl⟩ ?_ : Wf _ (fun σ S' => ∃ (fs : List Lk) (x3 x4 x5 : Option D), S' = S ++ [.lst ((metL p0 fs).map pl), .lst (fs.map lkD)] ∧ Lnk ps p0 fs ∧ ClosedIn ps (· ∈ metL p0 fs) ∧
      σ = [some (.tup (ps.map pl)), some (.loc n), some (.loc (n + 1)), x3, x4, x5]) _ _ _).imp ?_ (fun _ _ h => h) (fun _ _ h => h) (fun _ _ h => h)
  · rintro k σ S' ⟨fs, at', x4, x5, rfl, hL, hat, hcl, rfl, rfl⟩
    unfold t1_links_of
    walk_at "vs"
    rw [List.length_map]
    refine br_dec (fun h1 => ?_) (fun h1 => ?_)
    case refine_2 =>
      refine ⟨fs, _, _, _, rfl, hL, fun a ha s hs ho => hcl a ?_ s hs ho, rfl⟩
      rw [List.take_of_length_le (by omega)]
      exact ha
    have hlt : at' < (metL p0 fs).length := by omega
    obtain ⟨a, ha⟩ : ∃ a, (metL p0 fs)[at']? = some a := ⟨_, List.getElem?_eq_getElem hlt⟩
    unfold b2_links_of
    walk_at "vs"
    dsimp only
    refine w_each (xs := [0, 1, 2, 3]) (f := fun k : Nat => D.int k) (fun l σ S' => ∃ (gs : List Lk) (x4 x5 : Option D), S' = S ++ [.lst ((metL p0 (fs ++ gs)).map pl), .lst ((fs ++ gs).map lkD)] ∧ Lnk ps p0 (fs ++ gs) ∧ (∀ s ∈ l, stp a s ∈ ps → stp a s ∈ metL p0 (fs ++ gs)) ∧
      σ = [some (.tup (ps.map pl)), some (.loc n), some (.loc (n + 1)), some (.int at'), x4, x5]) ⟨[], x4, x5, by rw [List.append_nil], by rw [List.append_nil]; exact hL, fun _ h => (List.not_mem_nil h).elim, rfl⟩ no_guardE ?_ ?_
    · rintro l s r σ S' e0 ⟨gs, x4, x5, rfl, hL2, hcl2, rfl⟩
      have hs : s < 4 := by
        have : s ∈ [0, 1, 2, 3] := by rw [e0]; simp
        simp at this
        omega
      have ha2 : (metL p0 (fs ++ gs))[at']? = some a := by
        rw [metL_app, List.getElem?_append_left hlt]; exact ha
      have hix : ∀ T : Store, T[n]? = some (.lst ((metL p0 (fs ++ gs)).map pl)) → ∀ {Q : D → Store → Prop}, Q (pl a) T → Ok (ixD (.loc n) (.int at') T) Q := fun T e {Q} q => p_ixO e (by rw [atI_nat, List.getElem?_map, ha2]; rfl) q
      unfold b1_links_of
      walk_at "vs"
      refine hix _ (get_go0 hn rfl) ?_
      walk_at "vs"
      refine (step_ok hs _).imp ?_
      rintro _ _ ⟨rfl, rfl⟩
      walk_at "vs"
      refine p_inPl ?_
      walk_at "vs"
      have keep : stp a s ∈ metL p0 (fs ++ gs) ∨ stp a s ∉ ps → ∀ t ∈ l ++ [s], stp a t ∈ ps → stp a t ∈ metL p0 (fs ++ gs) := fun h t ht hp => by
        rcases List.mem_append.mp ht with ht | ht
        · exact hcl2 t ht hp
        · rw [List.mem_singleton.mp ht] at hp ⊢
          exact h.resolve_right fun z => z hp
      refine br_dec (fun h2 => ?_) (fun h2 => ?_)
      case refine_2 =>
        walk_at "vs"
        exact ⟨gs, _, _, rfl, hL2, keep (.inr h2), rfl⟩
      walk_at "vs"
      refine p_inPLO (get_go0 hn rfl) ?_
      walk_at "vs"
      refine br_dec (fun h3 => ?_) (fun h3 => ?_)
      · walk_at "vs"
        exact ⟨gs, _, _, rfl, hL2, keep (.inl h3), rfl⟩
      have ha3 : a ∈ metL p0 (fs ++ gs) := List.mem_of_getElem? ha2
      have hL3 := hL2.add hs ha3 h2 h3
      have hlen := hL2.len
      have hml : (metL p0 (fs ++ gs)).length = (fs ++ gs).length + 1 := by simp [metL]
      walk_at "vs"
      have e1 : (metL p0 (fs ++ gs)).map pl ++ [pl (stp a s)] = (metL p0 (fs ++ (gs ++ [(a, s, stp a s)]))).map pl := by
        rw [← List.append_assoc, metL_app p0 (fs ++ gs), List.map_append]; rfl
      rw [e1]
      refine p_ixO (d := pl a) (get_go0 hn rfl) (by
        rw [atI_nat, List.getElem?_map, ← List.append_assoc, metL_app p0 (fs ++ gs), List.getElem?_append_left (List.getElem?_eq_some_iff.mp ha2).1, ha2]; rfl) ?_
      walk_at "vs"
      refine p_app (ds := (fs ++ gs).map lkD) (show (S ++ [Ob.lst ((metL p0 (fs ++ (gs ++ [(a, s, stp a s)]))).map pl), Ob.lst ((fs ++ gs).map lkD)])[n + 1]? = _ from get_go hn rfl) (by rw [List.length_map]; omega) ?_
      refine setS_go hn (by simp only [List.set_cons_zero, List.set_cons_succ]; exact rfl) ?_
      refine ⟨gs ++ [(a, s, stp a s)], _, _, ?_, by rw [← List.append_assoc]; exact hL3, fun t ht hp => ?_, rfl⟩
      · rw [← List.append_assoc, List.map_append (l₁ := fs ++ gs)]
        rfl
      · rw [← List.append_assoc, metL_app p0 (fs ++ gs)]
        rcases List.mem_append.mp ht with ht | ht
        · exact List.mem_append_left _ (hcl2 t ht hp)
        · rw [List.mem_singleton.mp ht]
          simp
    · rintro σ S' ⟨gs, x4, x5, rfl, hL2, hcl2, rfl⟩
      refine w_augI rfl ?_
      walk_at "vs"
      have hml : (metL p0 (fs ++ gs)).length = (metL p0 fs).length + gs.length := by rw [metL_app, List.length_append, List.length_map]
      have hps : (metL p0 fs).length ≤ ps.length := by have := hL.len; simp [metL]; omega
      refine ⟨ps.length - (at' + 1), by omega, fs ++ gs, at' + 1, _, _, rfl, hL2, by omega, fun b hb s hs ho => ?_, rfl, by push_cast; rfl⟩
      rw [metL_app, List.take_append_of_le_length (by omega), List.take_succ, ha] at hb
      rcases List.mem_append.mp hb with hb | hb
      · rw [metL_app]
        exact List.mem_append_left _ (hcl b hb s hs ho)
      · simp only [Option.toList_some, List.mem_singleton] at hb
        subst hb
        exact hcl2 s (by simp; omega) ho
  · rintro σ S' ⟨fs, x3, x4, x5, rfl, hL, hcl, rfl⟩
    walk_at "vs"
    exact ⟨_, 1, _, rfl, rfl, rfl, scs_lk _ fs, rfl, fs, rfl, hL, hcl⟩
/-! ### the law's own look: what is led to -/
structure Led (ps : List Pl) (p0 : Pl) (M : List Pl) : Prop where
  nd : M.Nodup
  sub : ∀ a ∈ M, a ∈ ps
  st : p0 ∈ M
  least : ∀ C : Pl → Prop, C p0 → ClosedIn ps C → ∀ a ∈ M, C a
theorem Led.add {ps : List Pl} {p0 : Pl} {M : List Pl} (h : Led ps p0 M) {q : Pl} {s : Nat} (hs : s < 4) (hq : q ∈ ps) (hm : stp q s ∈ M) (hn : q ∉ M) : Led ps p0 (M ++ [q]) := by
  refine ⟨?_, fun a ha => ?_, List.mem_append_left _ h.st, fun C h0 hC a ha => ?_⟩
  · rw [List.nodup_append]
    exact ⟨h.nd, by simp, fun b hb c hc => by rw [List.mem_singleton.mp hc]; exact fun e => hn (e ▸ hb)⟩
  · rcases List.mem_append.mp ha with ha | ha
    · exact h.sub a ha
    · rw [List.mem_singleton.mp ha]; exact hq
  · rcases List.mem_append.mp ha with ha | ha
    · exact h.least C h0 hC a ha
    · rw [List.mem_singleton.mp ha]
      have h1 := h.least C h0 hC _ hm
      have h2 := hC _ h1 ((s + 2) % 4) (by omega)
      rw [stp_back q hs] at h2
      exact h2 hq
theorem Led.len {ps : List Pl} {p0 : Pl} {M : List Pl} (h : Led ps p0 M) : M.length ≤ ps.length := nodup_lenP h.nd h.sub
/-- one place looked at -/
theorem near_map (x y : Int) : ([.tup [.int x, .int (y + 1)], .tup [.int x, .int (y - 1)], .tup [.int (x + 1), .int y], .tup [.int (x - 1), .int y]] : List D) = [stp (x, y) 0, stp (x, y) 2, stp (x, y) 1, stp (x, y) 3].map pl := rfl
open Classical in
theorem law_led_ok {ps : List Pl} {p0 : Pl} (h0 : ps[0]? = some p0) (hl : ps.length ≤ 1000) (S : Store) : Ok (d_law_led [.tup (ps.map pl)] S) fun d S' => S' = S ∧ ∃ M : List Pl, d = .int M.length ∧ Span ps p0 M := by
  unfold d_law_led
  refine gc_pure ?_
  walk_at "den"
  unfold m_law_led
  have hp0 : p0 ∈ ps := List.mem_of_getElem? h0
  obtain ⟨n, hn⟩ : ∃ n, S.length = n := ⟨_, rfl⟩
  walk_at "vs"
  refine p_ixT (d := pl p0) (by rw [show (0 : Int) = ((0 : Nat) : Int) from rfl, atI_nat, List.getElem?_map, h0]; rfl) ?_
  walk_at "vs"
  rw [List.length_map, hn]
  refine rng_of (m := ps.length) rfl (by omega) ?_
  refine w_each (xs := List.range ps.length) (f := fun k : Nat => D.int k) (fun l σ S' => ∃ (M : List Pl) (x2 x3 x4 x5 x6 : Option D), S' = S ++ [.lst (M.map pl)] ∧ Led ps p0 M ∧ (ClosedIn ps (· ∈ M) ∨ l.length + 1 ≤ M.length) ∧
      σ = [some (.tup (ps.map pl)), some (.loc n), x2, x3, x4, x5, x6]) ⟨[p0], none, none, none, none, none, rfl, ⟨by simp, fun a ha => by rw [List.mem_singleton.mp ha]; exact hp0, by simp, fun C h0 _ a ha => by rw [List.mem_singleton.mp ha]; exact h0⟩, .inr (by simp), rfl⟩ no_guardE ?_ ?_
  · rintro l k r σ S' e0 ⟨M, x2, x3, x4, x5, x6, rfl, hM, hc, rfl⟩
    unfold b2_law_led
    walk_at "vs"
    dsimp only
    refine w_each (xs := ps) (f := pl) (fun l σ S' => ∃ (G : List Pl) (x3 x4 x5 x6 : Option D), S' = S ++ [.lst ((M ++ G).map pl)] ∧ Led ps p0 (M ++ G) ∧ (ClosedIn ps (· ∈ M) → G = []) ∧ (G = [] → ∀ q ∈ l, q ∉ M → ∀ s < 4, stp q s ∉ M) ∧
      σ = [some (.tup (ps.map pl)), some (.loc n), some (.int k), x3, x4, x5, x6]) ⟨[], x3, x4, x5, x6, by rw [List.append_nil], by rw [List.append_nil]; exact hM, fun _ => rfl, fun _ _ h => (List.not_mem_nil h).elim, rfl⟩ no_guardE ?_ ?_
    · rintro l q r σ S' e1 ⟨G, x3, x4, x5, x6, rfl, hG, hcl, hno, rfl⟩
      have hq : q ∈ ps := by rw [show ps = l ++ q :: r from e1]; simp
      have hlen := hG.len
      have hlen2 : M.length + G.length ≤ ps.length := by rw [← List.length_append]; exact hlen
      unfold b1_law_led
      walk_at "vs"
      rw [show (D.tup [.int q.1, .int q.2]) = pl q from rfl]
      refine p_inPLO (get_go0 hn rfl) ?_
      walk_at "vs"
      refine br_dec (fun h1 => ?_) (fun h1 => ?_)
      · walk_at "vs"
        refine ⟨G, _, _, _, _, rfl, hG, hcl, fun hg z hz => ?_, rfl⟩
        rcases List.mem_append.mp hz with hz | hz
        · exact hno hg z hz
        · rw [List.mem_singleton.mp hz]
          subst hg
          rw [List.append_nil] at h1
          exact fun h => absurd h1 h
      walk_at "vs"
      dsimp only
      rw [near_map]
      refine k_lcP (xs := [stp q 0, stp q 2, stp q 1, stp q 3]) (f := pl) (fun z => decide (z ∈ M ++ G)) pl (fun _ h => (List.not_mem_nil h).elim) (fun z hz => ?_) ?_
      · unfold t1_law_led e1_law_led
        walk_at "vs"
        refine p_inPLO (get_go0 hn rfl) ?_
        rw [Bool.false_xor]
        refine ⟨_, rfl, rfl, br_dec (fun _ => ?_) (fun _ => rfl)⟩
        walk_at "vs"
        exact ⟨rfl, rfl⟩
      walk_at "vs"
      refine p_eqP (by simp only [D.pl]; exact pls_map fun _ _ => by simp [D.pl, D.pls]) (by simp [D.pl, D.pls]) ?_
      walk_at "vs"
      refine br_dec (fun h2 => ?_) (fun h2 => ?_)
      · walk_at "vs"
        refine ⟨G, _, _, _, _, rfl, hG, hcl, fun hg z hz => ?_, rfl⟩
        rcases List.mem_append.mp hz with hz | hz
        · exact hno hg z hz
        · rw [List.mem_singleton.mp hz]
          subst hg
          rw [List.append_nil] at h2
          intro _ s hs hm
          have h3 := List.map_eq_nil_iff.mp (D.lst.inj h2)
          rw [List.filter_eq_nil_iff] at h3
          refine h3 (stp q s) ?_ (decide_eq_true hm)
          have : s = 0 ∨ s = 1 ∨ s = 2 ∨ s = 3 := by omega
          rcases this with rfl | rfl | rfl | rfl <;> simp
      obtain ⟨s, hs, hm⟩ : ∃ s, s < 4 ∧ stp q s ∈ M ++ G := by
        apply Classical.byContradiction
        intro hx
        apply h2
        congr 1
        rw [List.map_eq_nil_iff, List.filter_eq_nil_iff]
        intro z hz hm
        have hm := of_decide_eq_true hm
        simp only [List.mem_cons, List.not_mem_nil, or_false] at hz
        rcases hz with rfl | rfl | rfl | rfl
        · exact hx ⟨0, by omega, hm⟩
        · exact hx ⟨2, by omega, hm⟩
        · exact hx ⟨1, by omega, hm⟩
        · exact hx ⟨3, by omega, hm⟩
      have hG2 := hG.add hs hq hm h1
      walk_at "vs"
      rw [show (D.tup [.int q.1, .int q.2]) = pl q from rfl]
      refine ⟨G ++ [q], _, _, _, _, ?_, by rw [← List.append_assoc]; exact hG2, fun hC => ?_, fun hg => ?_, rfl⟩
      · rw [← List.append_assoc, List.map_append (l₁ := M ++ G)]
        rfl
      · exfalso
        have hg := hcl hC
        subst hg
        rw [List.append_nil] at h1 hm
        have h2 := hC _ hm ((s + 2) % 4) (by omega)
        rw [stp_back q hs] at h2
        exact h1 (h2 hq)
      · simp at hg
    · rintro σ S' ⟨G, x3, x4, x5, x6, rfl, hG, hcl, hno, rfl⟩
      refine ⟨M ++ G, _, _, _, _, _, rfl, hG, ?_, rfl⟩
      rcases hc with hc | hc
      · rw [hcl hc, List.append_nil]
        exact .inl hc
      · cases G with
        | nil =>
          left
          rw [List.append_nil]
          intro a ha s hs ho
          apply Classical.byContradiction
          intro hn
          refine hno rfl _ ho hn ((s + 2) % 4) (by omega) ?_
          rw [stp_back a hs]
          exact ha
        | cons g G =>
          right
          simp only [List.length_append, List.length_cons, List.length_nil]
          omega
  · rintro σ S' ⟨M, x2, x3, x4, x5, x6, rfl, hM, hc, rfl⟩
    walk_at "vs"
    rw [List.length_map]
    refine ⟨⟨_, rfl⟩, rfl, rfl, M, rfl, hM.nd, hM.sub, hM.st, ?_, hM.least⟩
    rcases hc with hc | hc
    · exact hc
    · exfalso
      have := hM.len
      rw [List.length_range] at hc
      omega
/-! ### shapes of anything -/
def Ty (S : Store) (d : D) : Prop := D.rq 40 d = true ∨ ∃ k, d = .loc k ∧ S[k]? = some (.dT [])
def isTup : D → Bool
  | .tup _ => true
  | _ => false
def isInt : D → Bool
  | .int _ => true
  | _ => false
def isRg (lo hi : Int) : D → Bool
  | .int i => decide (lo ≤ i ∧ i ≤ hi)
  | _ => false
theorem isi_tuple_dT {S : Store} {l : Nat} {kvs : List (List Key × D)} (h : S[l]? = some (.dT kvs)) : isiD "tuple" (.loc l) S = .ok (.bl false) S := by
  have h2 : (("dict" : String) == "tuple") = false := by decide
  simp only [isiD, tyName, h, h2]
  rfl
theorem isi_int_dT {S : Store} {l : Nat} {kvs : List (List Key × D)} (h : S[l]? = some (.dT kvs)) : isiD "int" (.loc l) S = .ok (.bl false) S := by
  simp only [isiD, tyName, h]
  rfl
theorem p_isTup {S : Store} {x : D} {Q : D → Store → Prop} (h : Ty S x) (k : Q (.bl (isTup x)) S) : Ok (isiD "tuple" x S) Q := by
  rcases h with h | ⟨l, rfl, h⟩
  · cases x with
    | loc l => simp [D.rq] at h
    | ktp l => simp [D.rq] at h
    | frz l => simp [D.rq] at h
    | exn l => simp [D.rq] at h
    | exf a b c d => simp [D.rq] at h
    | _ => exact ⟨_, _, rfl, k⟩
  · exact k_eq (isi_tuple_dT h) k
theorem is_whole_q {S : Store} {x : D} (h : D.rq 40 x = true) : Ok (d_is_whole [x] S) fun d S' => d = .bl (isInt x) ∧ S' = S := by
  unfold d_is_whole
  refine gc_pure ?_
  walk_at "den"
  unfold m_is_whole
  cases x with
  | loc l => simp [D.rq] at h
  | ktp l => simp [D.rq] at h
  | frz l => simp [D.rq] at h
  | exn l => simp [D.rq] at h
  | exf a b c d => simp [D.rq] at h
  | _ =>
    walk_at "vs"
    exact ⟨⟨[], (List.append_nil _).symm⟩, rfl, rfl, rfl⟩
theorem is_within_q {S : Store} {x : D} (h : D.rq 40 x = true) (lo hi : Int) : Ok (d_is_within [x, .int lo, .int hi] S) fun d S' => d = .bl (isRg lo hi x) ∧ S' = S := by
  unfold d_is_within
  refine gc_pure ?_
  walk_at "den"
  unfold m_is_within
  walk_at "vs"
  refine (is_whole_q h).imp ?_
  rintro _ _ ⟨rfl, rfl⟩
  walk_at "vs"
  cases x with
  | int i =>
    refine br_T rfl ?_
    walk_at "vs"
    refine br_dec (fun h1 => ?_) (fun h1 => ?_)
    · walk_at "vs"
      refine ⟨⟨[], (List.append_nil _).symm⟩, rfl, ?_, rfl⟩
      congr 1
      unfold isRg
      rw [Bool.eq_iff_iff, decide_eq_true_eq, decide_eq_true_eq]
      omega
    · walk_at "vs"
      refine ⟨⟨[], (List.append_nil _).symm⟩, rfl, ?_, rfl⟩
      congr 1
      exact (decide_eq_false (by omega)).symm
  | _ =>
    refine br_F rfl ?_
    walk_at "vs"
    exact ⟨⟨[], (List.append_nil _).symm⟩, rfl, rfl, rfl⟩
theorem law_whole_q {S : Store} {x : D} (h : D.rq 40 x = true) : Ok (d_law_whole [x] S) fun d S' => d = .bl (isRg 1 6 x) ∧ S' = S := by
  unfold d_law_whole
  refine gc_pure ?_
  walk_at "den"
  unfold m_law_whole
  cases x with
  | loc l => simp [D.rq] at h
  | ktp l => simp [D.rq] at h
  | frz l => simp [D.rq] at h
  | exn l => simp [D.rq] at h
  | exf a b c d => simp [D.rq] at h
  | int i =>
    walk_at "vs"
    refine br_dec (fun h1 => ?_) (fun h1 => ?_)
    · walk_at "vs"
      refine ⟨⟨[], (List.append_nil _).symm⟩, rfl, ?_, rfl⟩
      congr 1
      unfold isRg
      rw [Bool.eq_iff_iff, decide_eq_true_eq, decide_eq_true_eq]
      omega
    · walk_at "vs"
      refine ⟨⟨[], (List.append_nil _).symm⟩, rfl, ?_, rfl⟩
      congr 1
      exact (decide_eq_false (by omega)).symm
  | _ =>
    walk_at "vs"
    exact ⟨⟨[], (List.append_nil _).symm⟩, rfl, rfl, rfl⟩
def isTupN (m : Nat) : D → Bool
  | .tup ds => decide (ds.length = m)
  | _ => false
theorem is_tuple_of_q {S : Store} {x : D} (h : D.rq 40 x = true) (m : Nat) : Ok (d_is_tuple_of [x, .int m] S) fun d S' => d = .bl (isTupN m x) ∧ S' = S := by
  unfold d_is_tuple_of
  refine gc_pure ?_
  walk_at "den"
  unfold m_is_tuple_of
  walk_at "vs"
  refine p_isTup (.inl h) ?_
  walk_at "vs"
  cases x with
  | tup ds =>
    refine br_T rfl ?_
    walk_at "vs"
    refine ⟨⟨[], (List.append_nil _).symm⟩, rfl, ?_, rfl⟩
    congr 1
    unfold isTupN
    rw [Bool.eq_iff_iff]
    simp only [Bool.false_xor, decide_eq_true_eq]
    omega
  | _ =>
    refine br_F rfl ?_
    walk_at "vs"
    exact ⟨⟨[], (List.append_nil _).symm⟩, rfl, rfl, rfl⟩
theorem k_lcId {gd : List (Nat × Ob)} {L : List D} {g : D → DSt → Store → Res DSt} {a : DSt → Store → Res D} {σ : DSt} {S : Store} {QL : List D → Store → Prop} (h : D → D) (hg : gOk gd S)
    (hs : ∀ x ∈ L, Ok (g x σ S) fun σ S' => Ok (a σ S') fun y S' => y = h x ∧ S' = S) (he : QL (L.map h) S) : Ok (lcGo gd g (fun _ S => .ok true S) a σ L S) QL := by
  have := k_lcM1 (f := id) (xs := L) h hg hs he
  rw [List.map_id] at this
  exact this
theorem w_eachId {σ : DSt} {S : Store} {E} {gd : List (Nat × Ob)} {xs : List D} {g : D → DSt → Store → Res DSt} {b : DSt → Store → Res Fl} {N R B C} (I : List D → DSt → Store → Prop) (h0 : I [] σ S) (hg : ∀ l σ S, I l σ S → gOk gd S)
    (hs : ∀ l x r σ S, xs = l ++ x :: r → I l σ S → Ok (g x σ S) fun σ S => Wf (b σ S) (I (l ++ [x])) R N (I (l ++ [x]))) (he : ∀ σ S, I xs σ S → N σ S) : WfX E (forGo gd g b xs σ S) N R B C := by
  have := w_each (E := E) (gd := gd) (xs := xs) (f := id) (g := g) (b := b) (N := N) (R := R) (B := B) (C := C) I h0 hg hs he
  rwa [List.map_id] at this
def spoD : D → Bool
  | .tup [a, c] => isRg 1 6 a && isRg 1 6 c
  | _ => false
def Sp6 (p : Pl) : Prop := (1 ≤ p.1 ∧ p.1 ≤ 6) ∧ 1 ≤ p.2 ∧ p.2 ≤ 6
theorem spoD_not {x : D} (hx : isTupN 2 x = false) : spoD x = false := by
  unfold spoD
  split
  · simp [isTupN] at hx
  · rfl
theorem sp_of {x : D} (hx : spoD x = true) : ∃ p : Pl, x = pl p := by
  unfold spoD at hx
  split at hx
  · rename_i a c
    rw [Bool.and_eq_true] at hx
    cases a with
    | int i =>
      cases c with
      | int j => exact ⟨(i, j), rfl⟩
      | _ => cases hx.2
    | _ => cases hx.1
  · cases hx
theorem sps_of : ∀ {ds : List D}, ds.all spoD = true → ∃ ps : List Pl, ds = ps.map pl
  | [], _ => ⟨[], rfl⟩
  | d :: ds, hd => by
    rw [List.all_cons, Bool.and_eq_true] at hd
    obtain ⟨t, rfl⟩ := sp_of hd.1
    obtain ⟨ts, rfl⟩ := sps_of hd.2
    exact ⟨t :: ts, rfl⟩
theorem pls_inj : ∀ {xs ys : List Pl}, xs.map pl = ys.map pl → xs = ys
  | [], [], _ => rfl
  | [], _ :: _, h => by simp at h
  | _ :: _, [], h => by simp at h
  | x :: xs, y :: ys, h => by
    rw [List.map_cons, List.map_cons, List.cons.injEq] at h
    rw [pls_inj h.2, pl_eqd.mp h.1]
theorem two_of {ds : List D} (h : ds.length = 2) : ∃ a c, ds = [a, c] := by
  match ds, h with
  | [a, c], _ => exact ⟨a, c, rfl⟩
theorem rq_tup {k : Nat} {ds : List D} (h : D.rq (k + 1) (.tup ds) = true) : ∀ d ∈ ds, D.rq k d = true := rqs_mem (by simpa [D.rq] using h)
theorem rq_el {ds : List D} (h : D.rq 40 (.tup ds) = true) : ∀ d ∈ ds, D.rq 40 d = true := fun d hd => rq_mono d (by omega) (rq_tup (k := 39) h d hd)
theorem is_spot_q {S : Store} {x : D} (h : D.rq 40 x = true) : Ok (d_is_spot [x] S) fun d S' => d = .bl (spoD x) ∧ S' = S := by
  unfold d_is_spot
  refine gc_pure ?_
  walk_at "den"
  unfold m_is_spot
  walk_at "vs"
  refine (is_tuple_of_q h 2).imp ?_
  rintro _ S ⟨rfl, rfl⟩
  cases h1 : isTupN 2 x with
  | false =>
    walk_at "vs"
    exact ⟨⟨[], (List.append_nil _).symm⟩, rfl, by rw [spoD_not h1], rfl⟩
  | true =>
    cases x with
    | tup ds =>
      obtain ⟨a, c, rfl⟩ := two_of (of_decide_eq_true h1)
      walk_at "vs"
      refine k_lcId (fun x => .bl (isRg 1 6 x)) (fun _ h => (List.not_mem_nil h).elim) (fun y hy => ?_) ?_
      · unfold e1_is_spot
        walk_at "vs"
        refine (is_within_q (rq_el h y hy) 1 6).imp ?_
        rintro _ _ ⟨rfl, rfl⟩
        exact ⟨rfl, rfl⟩
      rw [show ([a, c].map fun x => D.bl (isRg 1 6 x)) = ([a, c].map (isRg 1 6)).map D.bl by rw [List.map_map]; rfl]
      walk_at "vs"
      refine p_all ?_
      refine ⟨⟨[], (List.append_nil _).symm⟩, rfl, ?_, rfl⟩
      simp [spoD]
    | _ => cases h1
theorem rises_tup (ps : List Pl) (S : Store) : Ok (d_rises [.tup (ps.map pl)] S) fun d S' => d = .bl (risesB ps) ∧ S' = S := by
  unfold d_rises
  refine gc_pure ?_
  walk_at "den"
  unfold m_rises
  walk_at "vs"
  refine k_zipT ?_
  walk_at "vs"
  rw [← List.map_drop]
  refine ⟨_, _, rfl, ?_⟩
  dsimp only
  rw [List.zip_map, List.map_map]
  walk_at "vs"
  refine k_lcM1 (fun x : Pl × Pl => .bl (HT.lexLt [x.1.1, x.1.2] [x.2.1, x.2.2])) (fun _ h => (List.not_mem_nil h).elim) (fun x hx => ?_) ?_
  · unfold e1_rises
    simp only [Function.comp, Prod.map]
    walk_at "vs"
    refine p_ltT (ns := [x.1.1, x.1.2]) (ms := [x.2.1, x.2.2]) ?_
    exact ⟨rfl, rfl⟩
  rw [show ((ps.zip (ps.drop 1)).map fun x : Pl × Pl => D.bl (HT.lexLt [x.1.1, x.1.2] [x.2.1, x.2.2])) = ((ps.zip (ps.drop 1)).map fun x : Pl × Pl => HT.lexLt [x.1.1, x.1.2] [x.2.1, x.2.2]).map D.bl by rw [List.map_map]; rfl]
  walk_at "vs"
  refine p_all ?_
  exact ⟨⟨[], (List.append_nil _).symm⟩, rfl, by unfold risesB; rw [List.all_map]; rfl, rfl⟩
/-- what a shape is -/
def ShP (x : D) : Prop := ∃ (ps : List Pl) (p0 : Pl) (M : List Pl), x = .tup (ps.map pl) ∧ ps.length ≤ 12 ∧ (ps.map pl).all spoD = true ∧ risesB ps = true ∧ ps[0]? = some p0 ∧ Span ps p0 M ∧ M.length = ps.length
theorem ShP.tup {ds : List D} (h : ShP (.tup ds)) : (1 ≤ ds.length ∧ ds.length ≤ 12) ∧ ds.all spoD = true := by
  obtain ⟨ps, p0, M, e, h1, h2, h3, h4, h5⟩ := h
  have e := D.tup.inj e
  subst e
  have := (List.getElem?_eq_some_iff.mp h4).1
  exact ⟨by rw [List.length_map]; omega, h2⟩
theorem ShP.pls {ps : List Pl} (h : ShP (.tup (ps.map pl))) {p0 : Pl} (h0 : ps[0]? = some p0) {M : List Pl} (hM : Span ps p0 M) : risesB ps = true ∧ M.length = ps.length := by
  obtain ⟨qs, q0, L, e, h1, h2, h3, h4, h5, h6⟩ := h
  have e := pls_inj (D.tup.inj e)
  subst e
  rw [h0] at h4
  cases h4
  exact ⟨h3, by rw [(hM.perm h5).length_eq, h6]⟩
open Classical in
theorem is_shape_q {S : Store} {x : D} (h : Ty S x) : Ok (d_is_shape [x] S) fun d S' => d = .bl (decide (ShP x)) ∧ S' = S := by
  unfold d_is_shape
  refine gc_pure ?_
  walk_at "den"
  unfold m_is_shape
  walk_at "vs"
  have no : ¬ ShP x → (∃ g, S = S ++ g) ∧ D.sc S.length (.bl false) = true ∧ (D.bl false) = .bl (decide (ShP x)) ∧ S = S := fun h => ⟨⟨[], (List.append_nil _).symm⟩, rfl, by rw [decide_eq_false h], rfl⟩
  refine p_isTup h ?_
  walk_at "vs"
  cases x with
  | tup ds =>
    have hq : D.rq 40 (.tup ds) = true := by
      rcases h with h | ⟨k, e, _⟩
      · exact h
      · cases e
    refine br_T rfl ?_
    walk_at "vs"
    refine br_dec (fun h1 => ?_) (fun h1 => ?_)
    case refine_2 =>
      walk_at "vs"
      exact no fun hs => by have := hs.tup.1; omega
    walk_at "vs"
    refine br_dec (fun h2 => ?_) (fun h2 => ?_)
    case refine_2 =>
      walk_at "vs"
      exact no fun hs => by have := hs.tup.1; omega
    walk_at "vs"
    refine k_lcId (fun x => .bl (spoD x)) (fun _ h => (List.not_mem_nil h).elim) (fun y hy => ?_) ?_
    · unfold e1_is_shape
      walk_at "vs"
      refine (is_spot_q (rq_el hq y hy)).imp ?_
      rintro _ _ ⟨rfl, rfl⟩
      exact ⟨rfl, rfl⟩
    rw [show (ds.map fun x => D.bl (spoD x)) = (ds.map spoD).map D.bl by rw [List.map_map]; rfl]
    walk_at "vs"
    refine p_all ?_
    rw [List.all_map]
    walk_at "vs"
    refine br_if (fun h3 => ?_) (fun h3 => ?_)
    case refine_2 =>
      walk_at "vs"
      exact no fun hs => by
        have h4 : ds.all spoD = true := hs.tup.2
        rw [Bool.eq_false_iff] at h3
        exact h3 h4
    have h3 : ds.all spoD = true := h3
    obtain ⟨ps, rfl⟩ := sps_of h3
    rw [List.length_map] at h1 h2
    obtain ⟨p0, hp0⟩ : ∃ p0, ps[0]? = some p0 := ⟨_, List.getElem?_eq_getElem (by omega)⟩
    walk_at "vs"
    refine (rises_tup ps S).imp ?_
    rintro _ _ ⟨rfl, rfl⟩
    walk_at "vs"
    refine br_if (fun h4 => ?_) (fun h4 => ?_)
    case refine_2 =>
      walk_at "vs"
      exact no fun hs => by
        obtain ⟨qs, q0, L, e, _, _, h6, _⟩ := hs
        rw [← pls_inj (D.tup.inj e), h4] at h6
        cases h6
    walk_at "vs"
    refine (links_ok hp0 (by omega) _).imp ?_
    rintro _ _ ⟨rfl, fs, rfl, hL, hC⟩
    walk_at "vs"
    have hsp := hL.span hC
    have hml : (metL p0 fs).length = fs.length + 1 := by simp [metL]
    refine ⟨⟨[], (List.append_nil _).symm⟩, rfl, ?_, rfl⟩
    congr 1
    rw [Bool.false_xor, Bool.eq_iff_iff, decide_eq_true_eq, decide_eq_true_eq, List.length_map, List.length_map]
    constructor
    · intro h5
      exact ⟨ps, p0, _, rfl, by omega, h3, h4, hp0, hsp, by omega⟩
    · intro hs
      have := (hs.pls hp0 hsp).2
      omega
  | _ =>
    refine br_F rfl ?_
    walk_at "vs"
    refine no ?_
    rintro ⟨ps, p0, M, e, _⟩
    cases e
open Classical in
theorem law_looked_q {S : Store} {x : D} (h : Ty S x) : Ok (d_law_looked [x] S) fun d S' => d = .bl (decide (ShP x)) ∧ S' = S := by
  unfold d_law_looked
  refine gc_pure ?_
  walk_at "den"
  unfold m_law_looked
  walk_at "vs"
  have no : ¬ ShP x → (∃ g, S = S ++ g) ∧ D.sc S.length (.bl false) = true ∧ (D.bl false) = .bl (decide (ShP x)) ∧ S = S := fun h => ⟨⟨[], (List.append_nil _).symm⟩, rfl, by rw [decide_eq_false h], rfl⟩
  refine p_isTup h ?_
  walk_at "vs"
  cases x with
  | tup ds =>
    have hq : D.rq 40 (.tup ds) = true := by
      rcases h with h | ⟨k, e, _⟩
      · exact h
      · cases e
    refine br_T rfl ?_
    walk_at "vs"
    refine br_dec (fun h1 => ?_) (fun h1 => ?_)
    case refine_2 =>
      walk_at "vs"
      exact no fun hs => by have := hs.tup.1; omega
    walk_at "vs"
    refine br_dec (fun h2 => ?_) (fun h2 => ?_)
    case refine_2 =>
      walk_at "vs"
      exact no fun hs => by have := hs.tup.1; omega
    walk_at "vs"
    refine w_eachId (fun l σ S' => S' = S ∧ (∀ y ∈ l, spoD y = true) ∧ ∃ x1 : Option D, σ = [some (.tup ds), x1, none, none]) ⟨rfl, fun _ h => (List.not_mem_nil h).elim, _, rfl⟩ no_guardE ?_ ?_
    · rintro l y r σ S' e0 ⟨rfl, hd, x1, rfl⟩
      have hym : y ∈ ds := by rw [show ds = l ++ y :: r from e0]; simp
      have hy := rq_el hq y hym
      have no2 : spoD y = false → (∃ g, S' = S' ++ g) ∧ D.sc S'.length (.bl false) = true ∧ (D.bl false) = .bl (decide (ShP (.tup ds))) ∧ S' = S' := fun hf => no fun hs => by
        have := List.all_eq_true.mp hs.tup.2 y hym
        rw [hf] at this
        cases this
      unfold b1_law_looked
      walk_at "vs"
      refine p_isTup (.inl hy) ?_
      walk_at "vs"
      cases y with
      | tup es =>
        refine br_T rfl ?_
        walk_at "vs"
        refine br_dec (fun h3 => ?_) (fun h3 => ?_)
        case refine_2 =>
          walk_at "vs"
          exact no2 (spoD_not (decide_eq_false (by omega)))
        obtain ⟨a, c, rfl⟩ := two_of (ds := es) (by omega)
        walk_at "vs"
        refine (law_whole_q (rq_el hy a (by simp))).imp ?_
        rintro _ S ⟨rfl, rfl⟩
        walk_at "vs"
        refine br_if (fun h4 => ?_) (fun h4 => ?_)
        case refine_2 =>
          walk_at "vs"
          exact no2 (by simp [spoD, h4])
        walk_at "vs"
        refine (law_whole_q (rq_el hy c (by simp))).imp ?_
        rintro _ S ⟨rfl, rfl⟩
        walk_at "vs"
        refine br_if (fun h5 => ?_) (fun h5 => ?_)
        case refine_2 =>
          walk_at "vs"
          exact no2 (by simp [spoD, h5])
        walk_at "vs"
        refine ⟨rfl, fun z hz => ?_, _, rfl⟩
        rcases List.mem_append.mp hz with hz | hz
        · exact hd z hz
        · rw [List.mem_singleton.mp hz]
          simp [spoD, h4, h5]
      | _ =>
        refine br_F rfl ?_
        walk_at "vs"
        exact no2 rfl
    · rintro σ S' ⟨rfl, hd, x1, rfl⟩
      have h3 : ds.all spoD = true := List.all_eq_true.mpr hd
      obtain ⟨ps, rfl⟩ := sps_of h3
      rw [List.length_map] at h1 h2
      obtain ⟨p0, hp0⟩ : ∃ p0, ps[0]? = some p0 := ⟨_, List.getElem?_eq_getElem (by omega)⟩
      walk_at "vs"
      refine k_zipT ?_
      walk_at "vs"
      rw [← List.map_drop]
      refine ⟨_, _, rfl, ?_⟩
      dsimp only
      rw [List.zip_map, List.map_map]
      refine w_each (xs := ps.zip (ps.drop 1)) (f := (fun p : D × D => D.tup [p.1, p.2]) ∘ Prod.map pl pl) (fun l σ T => T = S' ∧ (l.all fun x => HT.lexLt [x.1.1, x.1.2] [x.2.1, x.2.2]) = true ∧ ∃ x1 x2 x3 : Option D, σ = [some (.tup (ps.map pl)), x1, x2, x3]) ⟨rfl, rfl, _, _, _, rfl⟩ no_guardE ?_ ?_
      · rintro l y r σ T e0 ⟨rfl, hr, x1, x2, x3, rfl⟩
        unfold b2_law_looked
        rw [show ((fun p : D × D => D.tup [p.1, p.2]) ∘ Prod.map pl pl) y = D.tup [pl y.1, pl y.2] from rfl]
        walk_at "vs"
        refine p_ltT (ns := [y.1.1, y.1.2]) (ms := [y.2.1, y.2.2]) ?_
        walk_at "vs"
        refine br_if (fun h4 => ?_) (fun h4 => ?_)
        · walk_at "vs"
          refine ⟨rfl, ?_, _, _, _, rfl⟩
          rw [List.all_append, hr]
          simpa using h4
        · walk_at "vs"
          refine no fun hs => ?_
          obtain ⟨qs, q0, L, e, _, _, h6, _⟩ := hs
          rw [← pls_inj (D.tup.inj e)] at h6
          unfold risesB at h6
          rw [show ps.zip (ps.drop 1) = l ++ y :: r from e0, List.all_append, List.all_cons, h4] at h6
          simp at h6
      · rintro σ T ⟨rfl, hr, x1, x2, x3, rfl⟩
        walk_at "vs"
        refine (law_led_ok hp0 (by omega) _).imp ?_
        rintro _ _ ⟨rfl, M, rfl, hM⟩
        walk_at "vs"
        refine ⟨⟨[], (List.append_nil _).symm⟩, rfl, ?_, rfl⟩
        congr 1
        rw [Bool.false_xor, Bool.eq_iff_iff, decide_eq_true_eq, decide_eq_true_eq, List.length_map]
        constructor
        · intro h5
          exact ⟨ps, p0, M, rfl, by omega, h3, hr, hp0, hM, by omega⟩
        · intro hs
          have := (hs.pls hp0 hM).2
          omega
  | _ =>
    refine br_F rfl ?_
    walk_at "vs"
    refine no ?_
    rintro ⟨ps, p0, M, e, _⟩
    cases e
/-! ### one of a list, drawn -/
theorem scs_mem {n : Nat} : ∀ {ds : List D}, D.scs n ds = true → ∀ d ∈ ds, d.sc n = true
  | [], _, _, h => (List.not_mem_nil h).elim
  | a :: ds, h, d, hd => by
    simp only [D.scs, Bool.and_eq_true] at h
    rcases List.mem_cons.mp hd with rfl | hd
    · exact h.1
    · exact scs_mem h.2 d hd
theorem of_ok {S : Store} {p q N : Nat} (h : Spr S p q N) (hN : N ≤ 1000000000000) (ds : List D) (hd : ds ≠ []) (hl : ds.length < 1000000) (hs : D.scs S.length ds = true) : ∃ (d : D) (S' : Store), d ∈ ds ∧ Fr S p q (N + 1) S' ∧ d_law_of [.loc p, .lst ds] S = .ok d S' := by
  suffices hx : Ok (d_law_of [.loc p, .lst ds] S) fun d S' => d ∈ ds ∧ Fr S p q (N + 1) S' by
    obtain ⟨d, S', e, h1, h2⟩ := hx
    exact ⟨d, S', h1, h2, e⟩
  unfold d_law_of
  refine gc_fr (p := p) (q := q) (M := N + 1) h ?_
  walk_at "den"
  unfold m_law_of
  have hF := Fr.refl h
  have hp := List.length_pos_iff.mpr hd
  walk_at "vs"
  refine k_next0 hF rfl (fun v S1 hv hF1 hl1 => ?_) (by omega)
  have hv' : v < ds.length := by omega
  refine p_ixL (d := ds[v]) (by rw [atI_nat, List.getElem?_eq_getElem hv']) ?_
  exact ⟨S1, [], (List.append_nil _).symm, hF1, scs_mem hs _ (List.getElem_mem hv'), List.getElem_mem hv', hF1⟩
theorem of_okO {S : Store} {p q N l : Nat} (h : Spr S p q N) (hN : N ≤ 1000000000000) (ds : List D) (hlp : l ≠ p ∧ l ≠ q) (he : S[l]? = some (.lst ds)) (hd : ds ≠ []) (hl : ds.length < 1000000) (hs : D.scs S.length ds = true) : ∃ (d : D) (S' : Store), d ∈ ds ∧ Fr S p q (N + 1) S' ∧ d_law_of [.loc p, .loc l] S = .ok d S' := by
  suffices hx : Ok (d_law_of [.loc p, .loc l] S) fun d S' => d ∈ ds ∧ Fr S p q (N + 1) S' by
    obtain ⟨d, S', e, h1, h2⟩ := hx
    exact ⟨d, S', h1, h2, e⟩
  unfold d_law_of
  refine gc_fr (p := p) (q := q) (M := N + 1) h ?_
  walk_at "den"
  unfold m_law_of
  have hF := Fr.refl h
  have hp := List.length_pos_iff.mpr hd
  walk_at "vs"
  refine k_next0 hF rfl (fun v S1 hv hF1 hl1 => ?_) (by omega)
  have hv' : v < ds.length := by omega
  refine p_ixO (ds := ds) (d := ds[v]) (by rw [hF1.oth _ hlp.1 hlp.2]; exact he) (by rw [atI_nat, List.getElem?_eq_getElem hv']) ?_
  exact ⟨S1, [], (List.append_nil _).symm, hF1, scs_mem hs _ (List.getElem_mem hv'), List.getElem_mem hv', hF1⟩
section
variable {S0 S t : Store} {p q n N : Nat} {Q : D → Store → Prop}
theorem k_of (hF : Fr S0 p q N S) (hl : S.length = n) {ds : List D} (hs : ∀ m, D.scs m ds = true) (h : ∀ (d : D) (S' : Store), d ∈ ds → Fr S0 p q (N + 1) S' → S'.length = n → Q d (S' ++ t)) (hd : (ds ≠ [] ∧ ds.length < 1000000) := by simp) (hN : N ≤ 1000000000000 := by omega) : Ok (d_law_of [.loc p, .lst ds] (S ++ t)) Q := by
  obtain ⟨d, S', hm, hF', e⟩ := of_ok (hF.pot.app (t := t)) hN ds hd.1 hd.2 (hs _)
  obtain ⟨S1, rfl, hF1⟩ := hF'.split hF.pot
  exact k_eq e (h d S1 hm (hF.trans hF1) (hF1.len.trans hl))
theorem k_of0 (hF : Fr S0 p q N S) (hl : S.length = n) {ds : List D} (hs : ∀ m, D.scs m ds = true) (h : ∀ (d : D) (S' : Store), d ∈ ds → Fr S0 p q (N + 1) S' → S'.length = n → Q d S') (hd : (ds ≠ [] ∧ ds.length < 1000000) := by simp) (hN : N ≤ 1000000000000 := by omega) : Ok (d_law_of [.loc p, .lst ds] S) Q := by
  obtain ⟨d, S', hm, hF', e⟩ := of_ok hF.pot hN ds hd.1 hd.2 (hs _)
  exact k_eq e (h d S' hm (hF.trans hF') (hF'.len.trans hl))
theorem k_ofO (hF : Fr S0 p q N S) (hl : S.length = n) {k : Nat} {ds : List D} (he : t[k]? = some (.lst ds)) (hs : ∀ m, D.scs m ds = true) (hd : ds ≠ [] ∧ ds.length < 1000000) (h : ∀ (d : D) (S' : Store), d ∈ ds → Fr S0 p q (N + 1) S' → S'.length = n → Q d (S' ++ t)) (hN : N ≤ 1000000000000 := by omega) : Ok (d_law_of [.loc p, .loc (n + k)] (S ++ t)) Q := by
  have h1 := hF.pot.lt
  have h2 := hF.pot.lt2
  obtain ⟨d, S', hm, hF', e⟩ := of_okO (hF.pot.app (t := t)) hN ds ⟨by omega, by omega⟩ (get_go hl he) hd.1 hd.2 (hs _)
  obtain ⟨S1, rfl, hF1⟩ := hF'.split hF.pot
  exact k_eq e (h d S1 hm (hF.trans hF1) (hF1.len.trans hl))
end
/-! ### shapes drawn -/
structure Shp (m : Nat) (ps : List Pl) : Prop where
  ne : ps ≠ []
  len : ps.length ≤ m
  sp : ∀ p ∈ ps, (1 ≤ p.1 ∧ p.1 ≤ 6) ∧ 1 ≤ p.2 ∧ p.2 ≤ 6
theorem sc_pls (n : Nat) (ps : List Pl) : D.scs n (ps.map pl) = true := sc_map fun _ => by simp [D.sc, D.scs]
theorem p_minT2 {S : Store} {Q : D → Store → Prop} {a b : Int} (h : Q (.int (min a b)) S) : Ok (minTD [.tup [.int a, .int b]] S) Q := ⟨_, _, rfl, h⟩
theorem p_maxT2 {S : Store} {Q : D → Store → Prop} {a b : Int} (h : Q (.int (max a b)) S) : Ok (maxTD [.tup [.int a, .int b]] S) Q := ⟨_, _, rfl, h⟩
theorem grown_shape_ok {p q N m : Nat} (hm : 1 ≤ m ∧ m ≤ 12) (hN : N ≤ 900000000000) : ∀ S, Spr S p q N → Ok (d_law_grown_shape [.loc p, .int m] S) fun d S' => Fr S p q (N + 40) S' ∧ ∃ ps : List Pl, Shp m ps ∧ ps.Nodup ∧ d = .tup (ps.map pl) := by
  intro S0 h
  unfold d_law_grown_shape
  refine gc_fr (p := p) (q := q) (M := N + 40) h ?_
  walk_at "den"
  unfold m_law_grown_shape
  have hF := Fr.refl h
  obtain ⟨n, hl⟩ : ∃ n, S0.length = n := ⟨_, rfl⟩
  walk_at "vs"
  refine k_next0 hF hl (fun a S ha hF hl => ?_) (by omega)
  walk_at "vs"
  refine k_next0 hF hl (fun c S hc hF hl => ?_) (by omega)
  walk_at "vs"
  rw [hl]
  refine rng_of (m := m - 1) (by omega) (by omega) ?_
  refine w_each (xs := List.range (m - 1)) (f := fun k : Nat => D.int k) (fun l σ S' => ∃ (S : Store) (ps : List Pl) (x3 x4 x5 x6 x7 x8 : Option D), S' = S ++ [.lst (ps.map pl)] ∧ Fr S0 p q (N + 2 + 2 * l.length) S ∧ S.length = n ∧ Shp (l.length + 1) ps ∧ ps.Nodup ∧ l.length ≤ 12 ∧
      σ = [some (.loc p), some (.int m), some (.loc n), x3, x4, x5, x6, x7, x8]) ⟨S, [(1 + (a : Int), 1 + (c : Int))], none, none, none, none, none, none, rfl, hF, hl, ⟨by simp, by simp, fun p hp => by rw [List.mem_singleton.mp hp]; simp only []; omega⟩, by simp, by simp, rfl⟩ no_guardE ?_ ?_
  · rintro l k r σ S' e0 ⟨S, ps, x3, x4, x5, x6, x7, x8, rfl, hF, hl, hps, hnd, hl12, rfl⟩
    have hl2 : l.length < m - 1 := by
      have := congrArg List.length e0
      rw [List.length_range, List.length_append, List.length_cons] at this
      omega
    have hpl := hps.len
    unfold b1_law_grown_shape
    walk_at "vs"
    refine k_ofO (k := 0) hF hl rfl (fun n => sc_pls n ps) ⟨by have := hps.ne; simpa using this, by rw [List.length_map]; omega⟩ (fun d S hd hF hl => ?_) (by omega)
    obtain ⟨z, hz, rfl⟩ := List.mem_map.mp hd
    walk_at "vs"
    refine k_of hF hl (fun n => rfl) (fun d S hd hF hl => ?_) (by simp) (by omega)
    obtain ⟨u, v, rfl, hu, hv⟩ : ∃ u v : Int, d = .tup [.int u, .int v] ∧ (-1 ≤ u ∧ u ≤ 1) ∧ -1 ≤ v ∧ v ≤ 1 := by
      simp only [List.mem_cons, List.not_mem_nil, or_false] at hd
      rcases hd with rfl | rfl | rfl | rfl
      · exact ⟨0, 1, rfl, by omega, by omega⟩
      · exact ⟨1, 0, rfl, by omega, by omega⟩
      · exact ⟨0, -1, rfl, by omega, by omega⟩
      · exact ⟨-1, 0, rfl, by omega, by omega⟩
    walk_at "vs"
    rw [show (D.tup [.int (z.1 + u), .int (z.2 + v)]) = pl (z.1 + u, z.2 + v) from rfl]
    have hF2 : Fr S0 p q (N + 2 + 2 * (l.length + 1)) S := hF.mono (by omega)
    have same : ∃ (S_1 : Store) (ps' : List Pl) (x3 x4 x5 x6 x7 x8 : Option D), S ++ [Ob.lst (ps.map pl)] = S_1 ++ [.lst (ps'.map pl)] ∧ Fr S0 p q (N + 2 + 2 * (l ++ [k]).length) S_1 ∧ S_1.length = n ∧ Shp ((l ++ [k]).length + 1) ps' ∧ ps'.Nodup ∧ (l ++ [k]).length ≤ 12 ∧
      [some (D.loc p), some (.int m), some (.loc n), some (.int k), some (.int z.1), some (.int z.2), some (.int u), some (.int v), some (pl (z.1 + u, z.2 + v))] = [some (.loc p), some (.int m), some (.loc n), x3, x4, x5, x6, x7, x8] := by
      refine ⟨S, ps, _, _, _, _, _, _, rfl, ?_, hl, ⟨hps.ne, ?_, hps.sp⟩, hnd, ?_, rfl⟩
      · rw [List.length_append]; exact hF2
      · rw [List.length_append]; omega
      · rw [List.length_append, List.length_singleton]; omega
    refine p_inPLO (get_go0 hl rfl) ?_
    walk_at "vs"
    refine br_dec (fun h1 => ?_) (fun h1 => ?_)
    · walk_at "vs"
      exact same
    walk_at "vs"
    refine p_minT2 ?_
    walk_at "vs"
    refine br_dec (fun h2 => ?_) (fun h2 => ?_)
    case refine_2 =>
      walk_at "vs"
      exact same
    walk_at "vs"
    refine p_maxT2 ?_
    walk_at "vs"
    refine br_dec (fun h3 => ?_) (fun h3 => ?_)
    case refine_2 =>
      walk_at "vs"
      exact same
    walk_at "vs"
    refine ⟨S, ps ++ [(z.1 + u, z.2 + v)], _, _, _, _, _, _, ?_, by rw [List.length_append]; exact hF2, hl, ⟨by simp, ?_, fun w hw => ?_⟩, ?_, ?_, rfl⟩
    · rw [List.map_append]; rfl
    · rw [List.length_append, List.length_append, List.length_singleton, List.length_singleton]; omega
    · rcases List.mem_append.mp hw with hw | hw
      · exact hps.sp w hw
      · rw [List.mem_singleton.mp hw]
        simp only []
        omega
    · rw [List.nodup_append]
      exact ⟨hnd, by simp, fun b hb c hc => by rw [List.mem_singleton.mp hc]; exact fun e => h1 (e ▸ hb)⟩
    · rw [List.length_append, List.length_singleton]; omega
  · rintro σ S' ⟨S, ps, x3, x4, x5, x6, x7, x8, rfl, hF, hl, hps, hnd, hl12, rfl⟩
    rw [List.length_range] at *
    have hpl := hps.len
    walk_at "vs"
    refine k_eq (sorted_pl (by omega)) ?_
    walk_at "vs"
    have hsp := sortBy_perm kp ps
    refine ⟨S, _, rfl, hF.mono (by omega), sc_pls _ _, hF.mono (by omega), sortPl ps, ⟨fun e => hps.ne (by have := hsp.length_eq; rw [show sortBy kp ps = [] from e] at this; exact List.length_eq_zero_iff.mp this.symm), by rw [sortPl_len]; omega, fun w hw => hps.sp w (hsp.mem_iff.mp hw)⟩, hsp.nodup_iff.mpr hnd, rfl⟩
open Classical in
theorem rings_ok {p q N : Nat} (hN : N ≤ 900000000000) : ∀ S, Spr S p q N → Ok (d_law_rings [.loc p] S) fun d S' => Fr S p q (N + 2) S' ∧ ∃ ps : List Pl, Shp 25 ps ∧ d = .tup (ps.map pl) := by
  intro S0 h
  unfold d_law_rings
  refine gc_fr (p := p) (q := q) (M := N + 2) h ?_
  walk_at "den"
  unfold m_law_rings
  have hF := Fr.refl h
  obtain ⟨n, hl⟩ : ∃ n, S0.length = n := ⟨_, rfl⟩
  walk_at "vs"
  refine k_next0 hF hl (fun a S ha hF hl => ?_) (by omega)
  walk_at "vs"
  refine k_next0 hF hl (fun c S hc hF hl => ?_) (by omega)
  walk_at "vs"
  rw [hl]
  refine k_rng2 ?_
  walk_at "vs"
  refine ⟨_, _, a + 2, rfl, by omega, by omega, by omega, ?_⟩
  dsimp only
  refine w_each (xs := List.range (a + 2)) (f := fun k : Nat => D.int (1 + (k : Int))) (fun l σ S' => ∃ (ps : List Pl) (x4 x5 : Option D), S' = S ++ [.lst (ps.map pl)] ∧ ps.length ≤ 5 * l.length ∧ (l ≠ [] → ps ≠ []) ∧ (∀ p ∈ ps, (1 ≤ p.1 ∧ p.1 ≤ 6) ∧ 1 ≤ p.2 ∧ p.2 ≤ 6) ∧ (∀ k r, List.range (a + 2) = l ++ k :: r → l = [] → k = 0) ∧
    σ = [some (.loc p), some (.int (1 + (a : Int))), some (.int (1 + (c : Int))), some (.loc n), x4, x5]) ⟨[], none, none, rfl, by simp, fun h => absurd rfl h, fun _ h => (List.not_mem_nil h).elim, fun k r e _ => ?_, rfl⟩ no_guardE ?_ ?_
  · rw [List.nil_append, List.range_succ_eq_map] at e
    exact (List.cons.inj e).1.symm
  · rintro l k r σ S' e0 ⟨ps, x4, x5, rfl, hpl, hne, hsp, hk0, rfl⟩
    have hk : k < a + 2 := List.mem_range.mp (by rw [e0]; simp)
    have hll : l.length < 5 := by
      have := congrArg List.length e0
      rw [List.length_range, List.length_append, List.length_cons] at this
      omega
    unfold b1_law_rings
    walk_at "vs"
    refine k_rng2 ?_
    walk_at "vs"
    refine ⟨_, _, c + 2, rfl, by omega, by omega, by omega, ?_⟩
    walk_at "vs"
    dsimp only
    refine k_lcP (xs := List.range (c + 2)) (f := fun j : Nat => D.int (1 + (j : Int))) (fun j => decide (D.int (1 + (k : Int)) ∈ [D.int 1, D.int (1 + (1 + (a : Int)))]) || decide (D.int (1 + (j : Int)) ∈ [D.int 1, D.int (1 + (1 + (c : Int)))])) (fun j => pl (1 + (k : Int), 1 + (j : Int))) (fun _ h => (List.not_mem_nil h).elim) (fun j hj => ?_) ?_
    · have hj := List.mem_range.mp hj
      have fin : ∀ σ', σ' = [some (D.loc p), some (.int (1 + (a : Int))), some (.int (1 + (c : Int))), some (.loc n), some (.int (1 + (k : Int))), some (.int (1 + (j : Int)))] → Ok (e1_law_rings σ' (S ++ [Ob.lst (ps.map pl)])) fun y S' => y = pl (1 + (k : Int), 1 + (j : Int)) ∧ S' = S ++ [Ob.lst (ps.map pl)] := by
        rintro _ rfl
        unfold e1_law_rings
        walk_at "vs"
        exact ⟨rfl, rfl⟩
      unfold t1_law_rings
      walk_at "vs"
      refine p_inPT (by simp [D.pl]) (by simp [D.pl, D.pls]) ?_
      walk_at "vs"
      refine br_dec (fun h1 => ?_) (fun h1 => ?_)
      · refine ⟨by rw [decide_eq_true h1]; rfl, br_T (by rw [decide_eq_true h1]; rfl) (fin _ rfl)⟩
      · walk_at "vs"
        refine p_inPT (by simp [D.pl]) (by simp [D.pl, D.pls]) ?_
        rw [Bool.false_xor]
        refine ⟨_, rfl, by rw [decide_eq_false h1, Bool.false_or], ?_⟩
        rw [decide_eq_false h1, Bool.false_or]
        exact br_dec (fun h2 => fin _ rfl) fun h2 => rfl
    generalize hg : List.filter _ (List.range (c + 2)) = G
    have hGl : G.length ≤ 5 := by
      rw [← hg]
      have := List.length_filter_le (fun j : Nat => decide (D.int (1 + (k : Int)) ∈ [D.int 1, D.int (1 + (1 + (a : Int)))]) || decide (D.int (1 + (j : Int)) ∈ [D.int 1, D.int (1 + (1 + (c : Int)))])) (List.range (c + 2))
      rw [List.length_range] at this
      omega
    have hG : ∀ j ∈ G, j < c + 2 := fun j hj => by
      rw [← hg] at hj
      exact List.mem_range.mp (List.mem_filter.mp hj).1
    have e1 : (G.map fun j : Nat => pl (1 + (k : Int), 1 + (j : Int))) = (G.map fun j : Nat => ((1 + (k : Int), 1 + (j : Int)) : Pl)).map pl := by rw [List.map_map]; rfl
    rw [e1]
    walk_at "vs"
    rw [← List.map_append]
    refine ⟨ps ++ G.map fun j : Nat => ((1 + (k : Int), 1 + (j : Int)) : Pl), _, _, rfl, ?_, fun _ => ?_, fun w hw => ?_, fun k r e z => ?_, rfl⟩
    · simp only [List.length_append, List.length_map, List.length_cons, List.length_nil]
      omega
    · cases l with
      | cons _ _ => simp [hne]
      | nil =>
        have hk := hk0 k r e0 rfl
        subst hk
        have : G ≠ [] := by
          rw [← hg]
          intro z
          have := List.filter_eq_nil_iff.mp z 0 (by simp)
          simp at this
        simp [this]
    · rcases List.mem_append.mp hw with hw | hw
      · exact hsp w hw
      · obtain ⟨j, hj, rfl⟩ := List.mem_map.mp hw
        have := hG j hj
        simp only []
        omega
    · simp at z
  · rintro σ S' ⟨ps, x4, x5, rfl, hpl, hne, hsp, hk0, rfl⟩
    rw [List.length_range] at hpl
    have hne := hne (by rw [List.range_succ_eq_map]; simp)
    walk_at "vs"
    refine k_eq (sorted_pl (by omega)) ?_
    walk_at "vs"
    have hspm := sortBy_perm kp ps
    exact ⟨S, _, rfl, hF, sc_pls _ _, hF, sortPl ps, ⟨fun e => hne (by have := hspm.length_eq; rw [show sortBy kp ps = [] from e] at this; exact List.length_eq_zero_iff.mp this.symm), by rw [sortPl_len]; omega, fun w hw => hsp w (hspm.mem_iff.mp hw)⟩, rfl⟩
/-! ### a shape with one thing otherwise -/
def El (d : D) : Prop := D.rq 5 d = true ∧ D.wu d ≤ 600
def Gt (d : D) : Prop := D.rq 8 d = true ∧ D.wu d ≤ 30000
theorem El.tup {ds : List D} (h : ∀ d ∈ ds, El d) (hl : ds.length ≤ 30) : Gt (.tup ds) := by
  refine ⟨rq_mono (k := 6) _ (by omega) (by simp only [D.rq]; exact rqs_of fun d hd => (h d hd).1), ?_⟩
  have := wus_le (c := 600) fun d hd => (h d hd).2
  simp only [D.wu]
  have : 601 * ds.length ≤ 601 * 30 := Nat.mul_le_mul_left _ hl
  omega
theorem El.lst {ds : List D} (h : ∀ d ∈ ds, El d) (hl : ds.length ≤ 30) : Gt (.lst ds) := by
  refine ⟨rq_mono (k := 6) _ (by omega) (by simp only [D.rq]; exact rqs_of fun d hd => (h d hd).1), ?_⟩
  have := wus_le (c := 600) fun d hd => (h d hd).2
  simp only [D.wu]
  have : 601 * ds.length ≤ 601 * 30 := Nat.mul_le_mul_left _ hl
  omega
theorem rqi {k : Nat} {i : Int} (h : i.natAbs < 10 ^ 34) : D.rq k (.int i) = true := by cases k <;> simpa [D.rq] using h
theorem rqt {k : Nat} {ds : List D} (h : ∀ d ∈ ds, D.rq k d = true) : D.rq (k + 1) (.tup ds) = true := by
  simp only [D.rq]; exact rqs_of h
theorem rql {k : Nat} {ds : List D} (h : ∀ d ∈ ds, D.rq k d = true) : D.rq (k + 1) (.lst ds) = true := by
  simp only [D.rq]; exact rqs_of h
theorem el_pl {p : Pl} (h : p.1.natAbs ≤ 100 ∧ p.2.natAbs ≤ 100) : El (pl p) := by
  refine ⟨rqt (k := 4) fun d hd => ?_, by simp [D.wu, D.wus]⟩
  simp only [List.mem_cons, List.not_mem_nil, or_false] at hd
  rcases hd with rfl | rfl
  · exact rqi (by omega)
  · exact rqi (by omega)
theorem els_pl {ps : List Pl} {m : Nat} (h : Shp m ps) : ∀ d ∈ ps.map pl, El d := fun d hd => by
  obtain ⟨p, hp, rfl⟩ := List.mem_map.mp hd
  have := h.sp p hp
  exact el_pl (by omega)
/-- an odd part -/
def Od (d : D) : Prop := D.rq 2 d = true ∧ D.wu d ≤ 200
theorem Od.el {d : D} (h : Od d) : El d := ⟨rq_mono _ (by omega) h.1, by have := h.2; omega⟩
theorem od_int {i : Int} (h : i.natAbs < 10 ^ 34) : Od (.int i) := ⟨rqi h, by simp [D.wu]⟩
theorem od_two {a c : D} (ha : Od a) (hc : Od c) : El (.tup [a, c]) := by
  refine ⟨rqt (k := 4) fun d hd => ?_, by have := ha.2; have := hc.2; simp only [D.wu, D.wus]; omega⟩
  simp only [List.mem_cons, List.not_mem_nil, or_false] at hd
  rcases hd with rfl | rfl
  · exact rq_mono _ (by omega) ha.1
  · exact rq_mono _ (by omega) hc.1
theorem scs_of {n : Nat} : ∀ {ds : List D}, (∀ d ∈ ds, d.sc n = true) → D.scs n ds = true
  | [], _ => rfl
  | d :: ds, h => by
    simp only [D.scs, Bool.and_eq_true]
    exact ⟨h d List.mem_cons_self, scs_of fun e he => h e (List.mem_cons_of_mem _ he)⟩
theorem law_put_ok {ds : List D} (hl : ds.length ≤ 1000) {a : Nat} (d : D) (S : Store) (hs : ∀ n, D.scs n ds = true) (hd : ∀ n, d.sc n = true) : Ok (d_law_put [.tup ds, .int a, d] S) fun e S' => e = .tup (ds.take a ++ [d] ++ ds.drop (a + 1)) ∧ S' = S := by
  unfold d_law_put
  refine gc_pure ?_
  walk_at "den"
  unfold m_law_put
  walk_at "vs"
  rw [show ((a : Int) + 1) = ((a + 1 : Nat) : Int) by push_cast; rfl, cutL_from]
  refine p_addT (by rw [List.length_append, List.length_take, List.length_drop]; simp only [List.length_singleton]; omega) ?_
  refine ⟨⟨[], (List.append_nil _).symm⟩, ?_, rfl, rfl⟩
  simp only [D.sc]
  refine scs_of fun e he => ?_
  rcases List.mem_append.mp he with he | he
  · rcases List.mem_append.mp he with he | he
    · exact scs_mem (hs _) _ (List.mem_of_mem_take he)
    · rw [List.mem_singleton.mp he]; exact hd _
  · exact scs_mem (hs _) _ (List.mem_of_mem_drop he)
theorem p_revTT {S : Store} {Q : D → Store → Prop} {ds : List D} (h : Q (.tup ds.reverse) S) : Ok (revTD (.tup ds) S) Q := ⟨_, _, rfl, h⟩
theorem pow30 (S : Store) : powD (.int 10) (.int 30) S = .ok (.int 1000000000000000000000000000000) S := by
  have h : CPowX 10 30 := by decide +kernel
  rw [e_pow, if_pos h]
  rfl
theorem el_sc {d : D} (h : El d) (n : Nat) : d.sc n = true := rq_sc n 5 d h.1
theorem cut_mem {ds : List D} {lo hi : Option Int} {x : D} (h : x ∈ L3.cut ds lo hi) : x ∈ ds := by
  unfold L3.cut at h
  exact List.mem_of_mem_drop (List.mem_of_mem_take h)
theorem cut_len (ds : List D) (lo hi : Option Int) : (L3.cut ds lo hi).length ≤ ds.length := by
  unfold L3.cut
  rw [List.length_take, List.length_drop]
  omega
/-- put among them -/
theorem put_gt {ds : List D} (hds : ∀ d ∈ ds, El d) {m : Nat} (hl : ds.length ≤ m) (hm : m ≤ 100) {a : Nat} {d : D} (hd : El d) (S : Store) : Ok (d_law_put [.tup ds, .int a, d] S) fun e S' => (∃ es, e = .tup es ∧ es.length ≤ m + 1 ∧ ∀ d ∈ es, El d) ∧ S' = S :=
  (law_put_ok (by omega) d S (fun n => scs_of fun e he => el_sc (hds e he) n) (el_sc hd)).imp fun e S' h => by
    obtain ⟨rfl, rfl⟩ := h
    refine ⟨⟨_, rfl, ?_, fun x hx => ?_⟩, rfl⟩
    · simp only [List.length_append, List.length_take, List.length_drop, List.length_singleton]; omega
    · rcases List.mem_append.mp hx with hx | hx
      · rcases List.mem_append.mp hx with hx | hx
        · exact hds _ (List.mem_of_mem_take hx)
        · rw [List.mem_singleton.mp hx]; exact hd
      · exact hds _ (List.mem_of_mem_drop hx)
theorem bent_ok {p q N : Nat} (hN : N ≤ 900000000000) {ps : List Pl} (hps : Shp 25 ps) : ∀ S, Spr S p q N → Ok (d_law_bent [.loc p, .tup (ps.map pl)] S) fun d S' => Fr S p q (N + 8) S' ∧ Gt d := by
  intro S0 h
  unfold d_law_bent
  walk_at "den"
  unfold m_law_bent
  have hF := Fr.refl h
  have hels := els_pl hps
  have hpl := hps.len
  have hpos := List.length_pos_iff.mpr hps.ne
  have hml : (ps.map pl).length = ps.length := List.length_map _
  walk_at "vs"
  rw [hml]
  refine k_next0 hF rfl (fun a S ha hF hl => ?_) (by omega)
  walk_at "vs"
  refine k_next0 hF hl (fun u S hu hF hl => ?_) (by omega)
  walk_at "vs"
  refine k_next0 hF hl (fun v S hv hF hl => ?_) (by omega)
  walk_at "vs"
  have haL : a < ps.length := by omega
  obtain ⟨z, hz⟩ : ∃ z, ps[a]? = some z := ⟨_, List.getElem?_eq_getElem haL⟩
  have hz6 := hps.sp z (List.mem_of_getElem? hz)
  refine p_ixT (d := pl z) (by rw [atI_nat, List.getElem?_map, hz]; rfl) ?_
  walk_at "vs"
  refine k_next0 hF hl (fun w S hw hF hl => ?_) (by omega)
  walk_at "vs"
  have far : El (.tup [.int (1 + (u : Int)), .int (1 + (v : Int))]) := el_pl (p := (1 + (u : Int), 1 + (v : Int))) (by simp only []; omega)
  have nb : ∀ x y : Int, x.natAbs ≤ 100 → y.natAbs ≤ 100 → El (.tup [.int x, .int y]) := fun x y hx hy => el_pl (p := (x, y)) ⟨hx, hy⟩
  have fin : ∀ {es : List D} {S' : Store} {M : Nat}, Fr S0 p q M S' → M ≤ N + 8 → es.length ≤ 30 → (∀ d ∈ es, El d) → Fr S0 p q (N + 8) S' ∧ Gt (.tup es) := fun hF hM hl he => ⟨hF.mono hM, El.tup he (by omega)⟩
  refine br_dec (fun h0 => ?_) (fun h0 => ?_)
  · walk_at "vs"
    refine k_of0 hF hl (fun n => rfl) (fun d S hd hF hl => ?_) (by simp) (by omega)
    have hd : El d := by
      simp only [List.mem_cons, List.not_mem_nil, or_false] at hd
      rcases hd with rfl | rfl | rfl | rfl <;> exact nb _ _ (by omega) (by omega)
    walk_at "vs"
    refine (put_gt (m := 25) hels (by omega) (by omega) hd S).imp ?_
    rintro _ _ ⟨⟨es, rfl, h1, h2⟩, rfl⟩
    exact fin hF (by omega) (by omega) h2
  walk_at "vs"
  have e1 : ((a : Int) + 1) = ((a + 1 : Nat) : Int) := by push_cast; rfl
  refine br_dec (fun h1 => ?_) (fun h1 => ?_)
  · walk_at "vs"
    have hc := cut_len (ps.map pl) (some (a : Int)) (some ((a : Int) + 1))
    refine p_addT (ds := (ps.map pl).take a) (es := L3.cut (ps.map pl) (some (a : Int)) (some ((a : Int) + 1))) (by rw [List.length_take]; omega) ?_
    walk_at "vs"
    have hq1 : ((ps.map pl).take a).length = a := by rw [List.length_take]; omega
    have hq : (L3.cut (ps.map pl) (some (a : Int)) (some ((a : Int) + 1))).length ≤ 1 := by
      unfold L3.cut
      rw [List.length_take]
      have : HT.sIx (ps.map pl).length (ps.map pl).length (some ((a : Int) + 1)) - HT.sIx (ps.map pl).length 0 (some (a : Int)) ≤ 1 := by
        rw [e1, HT.sIx_nat, HT.sIx_nat]
        omega
      omega
    refine fin hF (by omega) (by rw [List.length_append, List.length_append, List.length_drop]; omega) fun x hx => ?_
    rcases List.mem_append.mp hx with hx | hx
    · rcases List.mem_append.mp hx with hx | hx
      · exact hels _ (List.mem_of_mem_take hx)
      · exact hels _ (cut_mem hx)
    · exact hels _ (List.mem_of_mem_drop hx)
  walk_at "vs"
  refine br_dec (fun h2 => ?_) (fun h2 => ?_)
  · walk_at "vs"
    rw [e1, cutL_from]
    refine p_addT (by rw [List.length_take, List.length_drop]; omega) ?_
    refine fin hF (by omega) (by rw [List.length_append, List.length_take, List.length_drop]; omega) fun x hx => ?_
    rcases List.mem_append.mp hx with hx | hx
    · exact hels _ (List.mem_of_mem_take hx)
    · exact hels _ (List.mem_of_mem_drop hx)
  walk_at "vs"
  refine br_dec (fun h3 => ?_) (fun h3 => ?_)
  · walk_at "vs"
    rw [show (ps.map pl ++ [D.tup [.int (1 + (u : Int)), .int (1 + (v : Int))]]) = (ps ++ [(1 + (u : Int), 1 + (v : Int))]).map pl by rw [List.map_append]; rfl]
    have hl2 : (ps ++ [((1 + (u : Int), 1 + (v : Int)) : Pl)]).length ≤ 26 := by rw [List.length_append, List.length_singleton]; omega
    refine k_eq ((show sortedTD [.tup ((ps ++ [((1 + (u : Int), 1 + (v : Int)) : Pl)]).map pl)] S = sortedD [.lst ((ps ++ [((1 + (u : Int), 1 + (v : Int)) : Pl)]).map pl)] S from rfl).trans (sorted_pl (by omega))) ?_
    walk_at "vs"
    refine fin hF (by omega) (by rw [List.length_map, sortPl_len]; omega) fun x hx => ?_
    obtain ⟨y, hy, rfl⟩ := List.mem_map.mp hx
    rcases List.mem_append.mp ((sortBy_perm kp _).mem_iff.mp hy) with hy | hy
    · exact hels _ (List.mem_map.mpr ⟨y, hy, rfl⟩)
    · rw [List.mem_singleton.mp hy]; exact far
  walk_at "vs"
  refine br_dec (fun h4 => ?_) (fun h4 => ?_)
  · walk_at "vs"
    refine fin hF (by omega) (by simp only [List.length_append, List.length_take, List.length_drop, List.length_singleton]; omega) fun x hx => ?_
    rcases List.mem_append.mp hx with hx | hx
    · rcases List.mem_append.mp hx with hx | hx
      · exact hels _ (List.mem_of_mem_take hx)
      · rw [List.mem_singleton.mp hx]; exact far
    · exact hels _ (List.mem_of_mem_drop hx)
  walk_at "vs"
  refine br_dec (fun h5 => ?_) (fun h5 => ?_)
  · walk_at "vs"
    rw [hml]
    refine k_next0 hF hl (fun b S hb hF hl => ?_) (by omega)
    walk_at "vs"
    have hbL : b < ps.length := by omega
    obtain ⟨y, hy⟩ : ∃ y, ps[b]? = some y := ⟨_, List.getElem?_eq_getElem hbL⟩
    refine p_ixT (d := pl y) (by rw [atI_nat, List.getElem?_map, hy]; rfl) ?_
    walk_at "vs"
    have hy6 := hps.sp y (List.mem_of_getElem? hy)
    refine (put_gt (m := 25) hels (by omega) (by omega) (el_pl (p := y) (by omega)) S).imp ?_
    rintro _ _ ⟨⟨es, rfl, h6, h7⟩, rfl⟩
    walk_at "vs"
    refine (put_gt (m := 26) h7 (by omega) (by omega) (el_pl (p := z) (by omega)) _).imp ?_
    rintro _ _ ⟨⟨es2, rfl, h8, h9⟩, rfl⟩
    exact fin hF (by omega) (by omega) h9
  walk_at "vs"
  refine k_eq (pow30 _) ?_
  walk_at "vs"
  refine k_of0 hF hl (fun n => rfl) (fun o S ho hF hl => ?_) (by simp) (by omega)
  have ho : Od o := by
    simp only [List.mem_cons, List.not_mem_nil, or_false] at ho
    rcases ho with rfl | rfl | rfl | rfl | rfl | rfl | rfl | rfl | rfl
    · exact od_int (by omega)
    · exact od_int (by omega)
    · exact od_int (by omega)
    · exact od_int (by omega)
    · exact ⟨rfl, by simp [D.wu]⟩
    · exact ⟨rq_str (by simp), by simp [D.wu, tx]⟩
    · exact ⟨rfl, by simp [D.wu]⟩
    · refine ⟨rqt (k := 1) fun d hd => ?_, by simp [D.wu, D.wus]⟩
      rw [List.mem_singleton.mp hd]
      exact rqi (by omega)
    · exact od_int (by omega)
  have oz1 : Od (.int z.1) := od_int (by omega)
  have oz2 : Od (.int z.2) := od_int (by omega)
  walk_at "vs"
  refine br_dec (fun h6 => ?_) (fun h6 => ?_)
  · walk_at "vs"
    refine k_of0 hF hl (fun n => ?_) (fun d S hd hF hl => ?_) (by simp) (by omega)
    · refine scs_of fun d hd => ?_
      simp only [List.mem_cons, List.not_mem_nil, or_false] at hd
      rcases hd with rfl | rfl
      · exact el_sc (od_two ho oz2) n
      · exact el_sc (od_two oz1 ho) n
    have hd : El d := by
      simp only [List.mem_cons, List.not_mem_nil, or_false] at hd
      rcases hd with rfl | rfl
      · exact od_two ho oz2
      · exact od_two oz1 ho
    walk_at "vs"
    refine (put_gt (m := 25) hels (by omega) (by omega) hd S).imp ?_
    rintro _ _ ⟨⟨es, rfl, h1, h2⟩, rfl⟩
    exact fin hF (by omega) (by omega) h2
  walk_at "vs"
  have o1 : El (.tup [.int z.1]) := by
    refine ⟨rqt (k := 4) fun d hd => ?_, by simp [D.wu, D.wus]⟩
    rw [List.mem_singleton.mp hd]
    exact rqi (by omega)
  have o3 : El (.tup [.int z.1, .int z.2, o]) := by
    refine ⟨rqt (k := 4) fun d hd => ?_, by have := ho.2; simp only [D.wu, D.wus]; omega⟩
    simp only [List.mem_cons, List.not_mem_nil, or_false] at hd
    rcases hd with rfl | rfl | rfl
    · exact rqi (by omega)
    · exact rqi (by omega)
    · exact rq_mono _ (by omega) ho.1
  have oL : El (.lst [.int z.1, .int z.2]) := by
    refine ⟨rql (k := 4) fun d hd => ?_, by simp [D.wu, D.wus]⟩
    simp only [List.mem_cons, List.not_mem_nil, or_false] at hd
    rcases hd with rfl | rfl
    · exact rqi (by omega)
    · exact rqi (by omega)
  refine (put_gt (m := 25) hels (by omega) (by omega) o1 S).imp ?_
  rintro _ _ ⟨⟨x1, rfl, a1, b1⟩, rfl⟩
  walk_at "vs"
  refine (put_gt (m := 25) hels (by omega) (by omega) o3 _).imp ?_
  rintro _ _ ⟨⟨x2, rfl, a2, b2⟩, rfl⟩
  walk_at "vs"
  refine (put_gt (m := 25) hels (by omega) (by omega) oL _).imp ?_
  rintro _ _ ⟨⟨x3, rfl, a3, b3⟩, rfl⟩
  walk_at "vs"
  refine (put_gt (m := 25) hels (by omega) (by omega) ho.el _).imp ?_
  rintro _ _ ⟨⟨x4, rfl, a4, b4⟩, rfl⟩
  walk_at "vs"
  refine p_revTT ?_
  walk_at "vs"
  have g1 := El.tup b1 (by omega)
  have g2 := El.tup b2 (by omega)
  have g3 := El.tup b3 (by omega)
  have g4 := El.tup b4 (by omega)
  have g5 := El.lst hels (by omega)
  have g6 : Gt (.tup [.tup (ps.map pl)]) := by
    have h1 := El.tup hels (by omega)
    have h2 : D.rq 6 (.tup (ps.map pl)) = true := by simp only [D.rq]; exact rqs_of fun d hd => (hels d hd).1
    have h3 := wus_le (c := 600) fun d hd => (hels d hd).2
    have h4 : 601 * (ps.map pl).length ≤ 601 * 30 := Nat.mul_le_mul_left _ (by omega)
    refine ⟨rqt (k := 7) fun d hd => ?_, by simp only [D.wu, D.wus]; omega⟩
    rw [List.mem_singleton.mp hd]
    exact rq_mono _ (by omega) h2
  have g7 : Gt (.tup (ps.map pl ++ [.tup []])) := El.tup (fun d hd => by
    rcases List.mem_append.mp hd with hd | hd
    · exact hels d hd
    · rw [List.mem_singleton.mp hd]
      exact ⟨rfl, by simp [D.wu, D.wus]⟩) (by rw [List.length_append, List.length_singleton]; omega)
  have g8 : Gt (.tup (ps.map pl).reverse) := El.tup (fun d hd => hels d (List.mem_reverse.mp hd)) (by rw [List.length_reverse]; omega)
  have all : ∀ d ∈ [D.tup x1, .tup x2, .tup x3, .lst (ps.map pl), .tup x4, .tup [.tup (ps.map pl)], .tup (ps.map pl ++ [.tup []]), .tup (ps.map pl).reverse], Gt d := fun d hd => by
    simp only [List.mem_cons, List.not_mem_nil, or_false] at hd
    rcases hd with rfl | rfl | rfl | rfl | rfl | rfl | rfl | rfl <;> assumption
  refine k_of0 hF hl (fun n => scs_of fun d hd => rq_sc n 8 d (all d hd).1) (fun d S hd hF hl => ⟨hF.mono (by omega), all d hd⟩) (by simp) (by omega)
/-! ### the law -/
def An (n : Nat) (d : D) : Prop := Gt d ∨ d = .loc n
theorem An.ty {n : Nat} {S : Store} {d : D} (h : An n d) (hS : S[n]? = some (.dT [])) : Ty S d := by
  rcases h with h | rfl
  · exact .inl (rq_mono d (by omega) h.1)
  · exact .inr ⟨n, rfl, hS⟩
theorem An.repr {n : Nat} {S : Store} {d : D} (h : An n d) (hS : S[n]? = some (.dT [])) : ∃ x, reprXD [d] S = .ok (.str x) S := by
  rcases h with h | rfl
  · have h1 := rq_mono (m := 60) d (by omega) h.1
    have := p_reprQ (S := S) (Q := fun y _ => ∃ x, y = .str x ∧ ∀ S', reprXD [d] S' = .ok (.str x) S') h1 (by have := h.2; omega) fun x hx => ⟨x, rfl, hx⟩
    obtain ⟨_, _, _, x, rfl, hx⟩ := this
    exact ⟨x, hx S⟩
  · refine ⟨PyData.shown (.dict []), ?_⟩
    simp only [reprXD, hS]
theorem gt_small {d : D} {k : Nat} (h : D.rq k d = true) (hk : k ≤ 8) (hw : D.wu d ≤ 30000) : Gt d := ⟨rq_mono d hk h, hw⟩
open Classical in
theorem says : Says d_law := by
  intro ns hns
  have key : Ok (d_law [.frz (ns.map D.int)] []) fun d _ => d = .bl true := by
    unfold d_law
    walk_at "den"
    unfold m_law
    walk_at "vs"
    refine spring_new hns fun p q S hS => ?_
    walk_at "vs"
    refine rng_of (m := 6) rfl (by omega) ?_
    refine w_each (xs := List.range 6) (f := fun k : Nat => D.int k) (fun l σ S' => Spr S' p q (1000 * l.length) ∧ l.length ≤ 6 ∧ ∃ x2 x3 x4 x5 x6 x7 x8 : Option D, σ = [some (.frz (ns.map D.int)), some (.loc p), x2, x3, x4, x5, x6, x7, x8]) ⟨hS, by simp, none, none, none, none, none, none, none, rfl⟩ no_guardE ?_ ?_
    · rintro l k r σ S e0 ⟨hS, hl6, x2, x3, x4, x5, x6, x7, x8, rfl⟩
      have hl5 : l.length < 6 := by
        have := congrArg List.length e0
        rw [List.length_range, List.length_append, List.length_cons] at this
        omega
      have hF := Fr.refl hS
      obtain ⟨n, hl⟩ : ∃ n, S.length = n := ⟨_, rfl⟩
      unfold b3_law
      walk_at "vs"
      refine k_next0 hF hl (fun v S hv hF hl => ?_) (by omega)
      walk_at "vs"
      rw [show (1 : Int) + (v : Int) = ((1 + v : Nat) : Int) by omega]
      refine k_lift0 (grown_shape_ok (m := 1 + v) (by omega) (by omega)) hF hl ?_
      rintro _ S ⟨p1, hp1, _, rfl⟩ hF hl
      walk_at "vs"
      refine k_lift0 (rings_ok (by omega)) hF hl ?_
      rintro _ S ⟨p2, hp2, rfl⟩ hF hl
      walk_at "vs"
      refine k_of0 hF hl (fun n => by simp [D.scs, D.sc, sc_pls]) (fun d S hd hF hl => ?_) (by simp) (by omega)
      obtain ⟨ps, hps, rfl⟩ : ∃ ps, Shp 25 ps ∧ d = .tup (ps.map pl) := by
        simp only [List.mem_cons, List.not_mem_nil, or_false] at hd
        rcases hd with rfl | rfl
        · exact ⟨p1, ⟨hp1.ne, by have := hp1.len; omega, hp1.sp⟩, rfl⟩
        · exact ⟨p2, hp2, rfl⟩
      walk_at "vs"
      have hl1 : (S ++ [Ob.dT []]).length = n + 1 := by rw [List.length_append, hl]; rfl
      rw [hl1, hl, List.append_assoc]
      generalize hA : ([D.tup (ps.map pl), .non, .tup [], .lst [], .int 7, .str (tx []), .tup [.int 1, .int 1], .tup [.tup [.int 1, .int 1]], .tup [.tup [.int 1, .int 1], .non], .bl true, .loc n] : List D) = A
      have hAl : A.length = 11 := by rw [← hA]; rfl
      have hAA : ∀ d ∈ A, An n d := by
        rw [← hA]
        have i1 : D.rq 0 (.int 1) = true := rqi (by omega)
        have p11 : D.rq 1 (.tup [.int 1, .int 1]) = true := rqt fun d hd => by
          simp only [List.mem_cons, List.not_mem_nil, or_false, or_self] at hd
          rw [hd]; exact i1
        simp only [List.mem_cons, List.not_mem_nil, or_false]
        rintro d (rfl | rfl | rfl | rfl | rfl | rfl | rfl | rfl | rfl | rfl | rfl)
        · exact .inl (El.tup (els_pl hps) (by rw [List.length_map]; have := hps.len; omega))
        · exact .inl (gt_small (k := 0) rfl (by omega) (by simp [D.wu]))
        · exact .inl (gt_small (k := 1) rfl (by omega) (by simp [D.wu, D.wus]))
        · exact .inl (gt_small (k := 1) rfl (by omega) (by simp [D.wu, D.wus]))
        · exact .inl (gt_small (k := 0) (rqi (by omega)) (by omega) (by simp [D.wu]))
        · exact .inl (gt_small (k := 0) (rq_str (by simp)) (by omega) (by simp [D.wu, tx]))
        · exact .inl (gt_small p11 (by omega) (by simp [D.wu, D.wus]))
        · exact .inl (gt_small (k := 2) (rqt fun d hd => by rw [List.mem_singleton.mp hd]; exact p11) (by omega) (by simp [D.wu, D.wus]))
        · refine .inl (gt_small (k := 2) (rqt fun d hd => ?_) (by omega) (by simp [D.wu, D.wus]))
          simp only [List.mem_cons, List.not_mem_nil, or_false] at hd
          rcases hd with rfl | rfl
          · exact p11
          · rfl
        · exact .inl (gt_small (k := 0) rfl (by omega) (by simp [D.wu]))
        · exact .inr rfl
      walk_at "vs"
      refine rng_of (m := 8) rfl (by omega) ?_
      refine w_each (xs := List.range 8) (f := fun k : Nat => D.int k) (fun l2 σ S' => ∃ (S : Store) (ds : List D) (x5 : Option D), S' = S ++ [.dT [], .lst ds] ∧ Spr S p q (1000 * l.length + 60 + 8 * l2.length) ∧ S.length = n ∧ (∀ d ∈ ds, An n d) ∧ ds.length = 11 + l2.length ∧ l2.length ≤ 8 ∧
        σ = [some (.frz (ns.map D.int)), some (.loc p), some (.int k), some (.tup (ps.map pl)), some (.loc (n + 1)), x5, x6, x7, x8]) ⟨S, A, _, rfl, hF.pot.mono (by simp only [List.length_nil]; omega), hl, hAA, by rw [hAl]; rfl, by simp, rfl⟩ no_guardE ?_ ?_
      · rintro l2 j r σ S' e1 ⟨S, ds, x5, rfl, hS, hl, hds, hdl, hl8, rfl⟩
        have hl7 : l2.length < 8 := by
          have := congrArg List.length e1
          rw [List.length_range, List.length_append, List.length_cons] at this
          omega
        have hF := Fr.refl hS
        unfold b1_law
        walk_at "vs"
        refine k_lift (bent_ok (by omega) hps) hF hl ?_
        rintro d S hd hF hl
        walk_at "vs"
        refine p_app (ds := ds) (show (S ++ [Ob.dT [], Ob.lst ds])[n + 1]? = _ from get_go hl rfl) (by omega) ?_
        refine setS_go hl (by simp only [List.set_cons_succ, List.set_cons_zero]; exact rfl) ?_
        refine ⟨S, ds ++ [d], _, rfl, hF.pot.mono (by rw [List.length_append, List.length_singleton]; omega), hl, fun e he => ?_, by rw [List.length_append, List.length_append, hdl]; rfl, by rw [List.length_append, List.length_singleton]; omega, rfl⟩
        rcases List.mem_append.mp he with he | he
        · exact hds e he
        · rw [List.mem_singleton.mp he]; exact .inl hd
      · rintro σ S' ⟨S, ds, x5, rfl, hS, hl, hds, hdl, hl8, rfl⟩
        have hD : (S ++ [Ob.dT [], Ob.lst ds])[n]? = some (.dT []) := get_go0 hl rfl
        have hL : (S ++ [Ob.dT [], Ob.lst ds])[n + 1]? = some (.lst ds) := get_go hl rfl
        have hS2 : Spr (S ++ [Ob.dT [], Ob.lst ds]) p q (1000 * (l.length + 1)) := (hS.app).mono (by omega)
        generalize (S ++ [Ob.dT [], Ob.lst ds]) = T at hD hL hS2
        walk_at "vs"
        refine w_eachId (xs := ds) (fun l σ S' => S' = T ∧ ∃ x6 x7 x8 : Option D, σ = [some (.frz (ns.map D.int)), some (.loc p), some (.int k), some (.tup (ps.map pl)), some (.loc (n + 1)), x5, x6, x7, x8]) ⟨rfl, _, _, _, rfl⟩ (fun _ _ _ h => by
          obtain ⟨rfl, _⟩ := h
          rw [gOk_cons, gOk_nil]
          exact ⟨hL, trivial⟩) ?_ ?_
        · rintro l3 d r σ S' e1 ⟨rfl, x6, x7, x8, rfl⟩
          have hd := hds d (by rw [show ds = l3 ++ d :: r from e1]; simp)
          obtain ⟨x, hx⟩ := hd.repr hD
          have ht := hd.ty hD
          unfold b2_law
          walk_at "vs"
          refine k_eq hx ?_
          walk_at "vs"
          refine (is_shape_q ht).imp ?_
          rintro _ _ ⟨rfl, rfl⟩
          walk_at "vs"
          refine (law_looked_q ht).imp ?_
          rintro _ _ ⟨rfl, rfl⟩
          walk_at "vs"
          refine br_T (decide_eq_true rfl) ?_
          walk_at "vs"
          refine k_eq hx ?_
          walk_at "vs"
          refine p_eqRS ?_
          walk_at "vs"
          exact ⟨rfl, _, _, _, rfl⟩
        · rintro σ S' ⟨rfl, x6, x7, x8, rfl⟩
          refine ⟨by rw [List.length_append, List.length_singleton]; exact hS2, by rw [List.length_append, List.length_singleton]; omega, _, _, _, _, _, _, _, rfl⟩
    · rintro σ S ⟨hS, hl6, x2, x3, x4, x5, x6, x7, x8, rfl⟩
      walk_at "vs"
      rfl
  obtain ⟨d, S', e, rfl⟩ := key
  exact ⟨S', e⟩
theorem all_mk {l : PySem.W.OpenLaw} {w : World} {K : PySem.W.Frag} {h : Heap} {mg : Str → Option Value} {fa : Addr} (X : K.In h) (G : h.Ns mainGlobals mg) (hfa : mg "law" = some (.ref fa))
    {f0 : Addr} {od0 an0 : Option Addr} {sl0 : Array (Option Value)} {oc0 kV0 dc0 pm0 cd0 ct0 : Value}
    (a0 : PySem.W.nsIn K mainGlobals "is_whole" = some (some (.ref f0))) (l0 : K.lookup f0 = some ⟨oc0, od0, .func (PySem.W.fnOf "is_whole" "is_whole" (defArgs s_is_whole) (defBody s_is_whole) (defScope s_is_whole) .none kV0 dc0 pm0 an0 cd0 ct0), sl0⟩) (c0 : PySem.W.codeIn K cd0 "is_whole" = true) (k0 : PySem.W.keepIn K (.ref f0) = true)
    {f1 : Addr} {od1 an1 : Option Addr} {sl1 : Array (Option Value)} {oc1 kV1 dc1 pm1 cd1 ct1 : Value}
    (a1 : PySem.W.nsIn K mainGlobals "is_tuple_of" = some (some (.ref f1))) (l1 : K.lookup f1 = some ⟨oc1, od1, .func (PySem.W.fnOf "is_tuple_of" "is_tuple_of" (defArgs s_is_tuple_of) (defBody s_is_tuple_of) (defScope s_is_tuple_of) .none kV1 dc1 pm1 an1 cd1 ct1), sl1⟩) (c1 : PySem.W.codeIn K cd1 "is_tuple_of" = true) (k1 : PySem.W.keepIn K (.ref f1) = true)
    {f2 : Addr} {od2 an2 : Option Addr} {sl2 : Array (Option Value)} {oc2 kV2 dc2 pm2 cd2 ct2 : Value}
    (a2 : PySem.W.nsIn K mainGlobals "rises" = some (some (.ref f2))) (l2 : K.lookup f2 = some ⟨oc2, od2, .func (PySem.W.fnOf "rises" "rises" (defArgs s_rises) (defBody s_rises) (defScope s_rises) .none kV2 dc2 pm2 an2 cd2 ct2), sl2⟩) (c2 : PySem.W.codeIn K cd2 "rises" = true) (k2 : PySem.W.keepIn K (.ref f2) = true)
    {f3 : Addr} {od3 an3 : Option Addr} {sl3 : Array (Option Value)} {oc3 kV3 dc3 pm3 cd3 ct3 : Value}
    (a3 : PySem.W.nsIn K mainGlobals "step_of" = some (some (.ref f3))) (l3 : K.lookup f3 = some ⟨oc3, od3, .func (PySem.W.fnOf "step_of" "step_of" (defArgs s_step_of) (defBody s_step_of) (defScope s_step_of) .none kV3 dc3 pm3 an3 cd3 ct3), sl3⟩) (c3 : PySem.W.codeIn K cd3 "step_of" = true) (k3 : PySem.W.keepIn K (.ref f3) = true)
    {f4 : Addr} {od4 an4 : Option Addr} {sl4 : Array (Option Value)} {oc4 kV4 dc4 pm4 cd4 ct4 : Value}
    (a4 : PySem.W.nsIn K mainGlobals "_law_spring_of" = some (some (.ref f4))) (l4 : K.lookup f4 = some ⟨oc4, od4, .func (PySem.W.fnOf "_law_spring_of" "_law_spring_of" (defArgs s_law_spring_of) (defBody s_law_spring_of) (defScope s_law_spring_of) .none kV4 dc4 pm4 an4 cd4 ct4), sl4⟩) (c4 : PySem.W.codeIn K cd4 "_law_spring_of" = true) (k4 : PySem.W.keepIn K (.ref f4) = true)
    {f5 : Addr} {od5 an5 : Option Addr} {sl5 : Array (Option Value)} {oc5 kV5 dc5 pm5 cd5 ct5 : Value}
    (a5 : PySem.W.nsIn K mainGlobals "_law_take" = some (some (.ref f5))) (l5 : K.lookup f5 = some ⟨oc5, od5, .func (PySem.W.fnOf "_law_take" "_law_take" (defArgs s_law_take) (defBody s_law_take) (defScope s_law_take) .none kV5 dc5 pm5 an5 cd5 ct5), sl5⟩) (c5 : PySem.W.codeIn K cd5 "_law_take" = true) (k5 : PySem.W.keepIn K (.ref f5) = true)
    {f6 : Addr} {od6 an6 : Option Addr} {sl6 : Array (Option Value)} {oc6 kV6 dc6 pm6 cd6 ct6 : Value}
    (a6 : PySem.W.nsIn K mainGlobals "_law_whole" = some (some (.ref f6))) (l6 : K.lookup f6 = some ⟨oc6, od6, .func (PySem.W.fnOf "_law_whole" "_law_whole" (defArgs s_law_whole) (defBody s_law_whole) (defScope s_law_whole) .none kV6 dc6 pm6 an6 cd6 ct6), sl6⟩) (c6 : PySem.W.codeIn K cd6 "_law_whole" = true) (k6 : PySem.W.keepIn K (.ref f6) = true)
    {f7 : Addr} {od7 an7 : Option Addr} {sl7 : Array (Option Value)} {oc7 kV7 dc7 pm7 cd7 ct7 : Value}
    (a7 : PySem.W.nsIn K mainGlobals "_law_led" = some (some (.ref f7))) (l7 : K.lookup f7 = some ⟨oc7, od7, .func (PySem.W.fnOf "_law_led" "_law_led" (defArgs s_law_led) (defBody s_law_led) (defScope s_law_led) .none kV7 dc7 pm7 an7 cd7 ct7), sl7⟩) (c7 : PySem.W.codeIn K cd7 "_law_led" = true) (k7 : PySem.W.keepIn K (.ref f7) = true)
    {f8 : Addr} {od8 an8 : Option Addr} {sl8 : Array (Option Value)} {oc8 kV8 dc8 pm8 cd8 ct8 : Value}
    (a8 : PySem.W.nsIn K mainGlobals "_law_put" = some (some (.ref f8))) (l8 : K.lookup f8 = some ⟨oc8, od8, .func (PySem.W.fnOf "_law_put" "_law_put" (defArgs s_law_put) (defBody s_law_put) (defScope s_law_put) .none kV8 dc8 pm8 an8 cd8 ct8), sl8⟩) (c8 : PySem.W.codeIn K cd8 "_law_put" = true) (k8 : PySem.W.keepIn K (.ref f8) = true)
    {f9 : Addr} {od9 an9 : Option Addr} {sl9 : Array (Option Value)} {oc9 kV9 dc9 pm9 cd9 ct9 : Value}
    (a9 : PySem.W.nsIn K mainGlobals "is_within" = some (some (.ref f9))) (l9 : K.lookup f9 = some ⟨oc9, od9, .func (PySem.W.fnOf "is_within" "is_within" (defArgs s_is_within) (defBody s_is_within) (defScope s_is_within) .none kV9 dc9 pm9 an9 cd9 ct9), sl9⟩) (c9 : PySem.W.codeIn K cd9 "is_within" = true) (k9 : PySem.W.keepIn K (.ref f9) = true)
    {f10 : Addr} {od10 an10 : Option Addr} {sl10 : Array (Option Value)} {oc10 kV10 dc10 pm10 cd10 ct10 : Value}
    (a10 : PySem.W.nsIn K mainGlobals "links_of" = some (some (.ref f10))) (l10 : K.lookup f10 = some ⟨oc10, od10, .func (PySem.W.fnOf "links_of" "links_of" (defArgs s_links_of) (defBody s_links_of) (defScope s_links_of) .none kV10 dc10 pm10 an10 cd10 ct10), sl10⟩) (c10 : PySem.W.codeIn K cd10 "links_of" = true) (k10 : PySem.W.keepIn K (.ref f10) = true)
    {f11 : Addr} {od11 an11 : Option Addr} {sl11 : Array (Option Value)} {oc11 kV11 dc11 pm11 cd11 ct11 : Value}
    (a11 : PySem.W.nsIn K mainGlobals "_law_of" = some (some (.ref f11))) (l11 : K.lookup f11 = some ⟨oc11, od11, .func (PySem.W.fnOf "_law_of" "_law_of" (defArgs s_law_of) (defBody s_law_of) (defScope s_law_of) .none kV11 dc11 pm11 an11 cd11 ct11), sl11⟩) (c11 : PySem.W.codeIn K cd11 "_law_of" = true) (k11 : PySem.W.keepIn K (.ref f11) = true)
    {f12 : Addr} {od12 an12 : Option Addr} {sl12 : Array (Option Value)} {oc12 kV12 dc12 pm12 cd12 ct12 : Value}
    (a12 : PySem.W.nsIn K mainGlobals "_law_looked" = some (some (.ref f12))) (l12 : K.lookup f12 = some ⟨oc12, od12, .func (PySem.W.fnOf "_law_looked" "_law_looked" (defArgs s_law_looked) (defBody s_law_looked) (defScope s_law_looked) .none kV12 dc12 pm12 an12 cd12 ct12), sl12⟩) (c12 : PySem.W.codeIn K cd12 "_law_looked" = true) (k12 : PySem.W.keepIn K (.ref f12) = true)
    {f13 : Addr} {od13 an13 : Option Addr} {sl13 : Array (Option Value)} {oc13 kV13 dc13 pm13 cd13 ct13 : Value}
    (a13 : PySem.W.nsIn K mainGlobals "_law_rings" = some (some (.ref f13))) (l13 : K.lookup f13 = some ⟨oc13, od13, .func (PySem.W.fnOf "_law_rings" "_law_rings" (defArgs s_law_rings) (defBody s_law_rings) (defScope s_law_rings) .none kV13 dc13 pm13 an13 cd13 ct13), sl13⟩) (c13 : PySem.W.codeIn K cd13 "_law_rings" = true) (k13 : PySem.W.keepIn K (.ref f13) = true)
    {f14 : Addr} {od14 an14 : Option Addr} {sl14 : Array (Option Value)} {oc14 kV14 dc14 pm14 cd14 ct14 : Value}
    (a14 : PySem.W.nsIn K mainGlobals "is_spot" = some (some (.ref f14))) (l14 : K.lookup f14 = some ⟨oc14, od14, .func (PySem.W.fnOf "is_spot" "is_spot" (defArgs s_is_spot) (defBody s_is_spot) (defScope s_is_spot) .none kV14 dc14 pm14 an14 cd14 ct14), sl14⟩) (c14 : PySem.W.codeIn K cd14 "is_spot" = true) (k14 : PySem.W.keepIn K (.ref f14) = true)
    {f15 : Addr} {od15 an15 : Option Addr} {sl15 : Array (Option Value)} {oc15 kV15 dc15 pm15 cd15 ct15 : Value}
    (a15 : PySem.W.nsIn K mainGlobals "_law_grown_shape" = some (some (.ref f15))) (l15 : K.lookup f15 = some ⟨oc15, od15, .func (PySem.W.fnOf "_law_grown_shape" "_law_grown_shape" (defArgs s_law_grown_shape) (defBody s_law_grown_shape) (defScope s_law_grown_shape) .none kV15 dc15 pm15 an15 cd15 ct15), sl15⟩) (c15 : PySem.W.codeIn K cd15 "_law_grown_shape" = true) (k15 : PySem.W.keepIn K (.ref f15) = true)
    {f16 : Addr} {od16 an16 : Option Addr} {sl16 : Array (Option Value)} {oc16 kV16 dc16 pm16 cd16 ct16 : Value}
    (a16 : PySem.W.nsIn K mainGlobals "_law_bent" = some (some (.ref f16))) (l16 : K.lookup f16 = some ⟨oc16, od16, .func (PySem.W.fnOf "_law_bent" "_law_bent" (defArgs s_law_bent) (defBody s_law_bent) (defScope s_law_bent) .none kV16 dc16 pm16 an16 cd16 ct16), sl16⟩) (c16 : PySem.W.codeIn K cd16 "_law_bent" = true) (k16 : PySem.W.keepIn K (.ref f16) = true)
    {f17 : Addr} {od17 an17 : Option Addr} {sl17 : Array (Option Value)} {oc17 kV17 dc17 pm17 cd17 ct17 : Value}
    (a17 : PySem.W.nsIn K mainGlobals "is_shape" = some (some (.ref f17))) (l17 : K.lookup f17 = some ⟨oc17, od17, .func (PySem.W.fnOf "is_shape" "is_shape" (defArgs s_is_shape) (defBody s_is_shape) (defScope s_is_shape) .none kV17 dc17 pm17 an17 cd17 ct17), sl17⟩) (c17 : PySem.W.codeIn K cd17 "is_shape" = true) (k17 : PySem.W.keepIn K (.ref f17) = true)
    {f18 : Addr} {od18 an18 : Option Addr} {sl18 : Array (Option Value)} {oc18 kV18 dc18 pm18 cd18 ct18 : Value}
    (a18 : PySem.W.nsIn K mainGlobals "law" = some (some (.ref f18))) (l18 : K.lookup f18 = some ⟨oc18, od18, .func (PySem.W.fnOf "law" "law" (defArgs s_law) (defBody s_law) (defScope s_law) .none kV18 dc18 pm18 an18 cd18 ct18), sl18⟩) (c18 : PySem.W.codeIn K cd18 "law" = true) (k18 : PySem.W.keepIn K (.ref f18) = true)
    (z0 : PySem.W.nsIn K mainGlobals "abs" = some none)
    (z1 : PySem.W.nsIn K mainGlobals "all" = some none)
    (z2 : PySem.W.nsIn K mainGlobals "bool" = some none)
    (z3 : PySem.W.nsIn K mainGlobals "int" = some none)
    (z4 : PySem.W.nsIn K mainGlobals "isinstance" = some none)
    (z5 : PySem.W.nsIn K mainGlobals "len" = some none)
    (z6 : PySem.W.nsIn K mainGlobals "list" = some none)
    (z7 : PySem.W.nsIn K mainGlobals "max" = some none)
    (z8 : PySem.W.nsIn K mainGlobals "min" = some none)
    (z9 : PySem.W.nsIn K mainGlobals "range" = some none)
    (z10 : PySem.W.nsIn K mainGlobals "repr" = some none)
    (z11 : PySem.W.nsIn K mainGlobals "sorted" = some none)
    (z12 : PySem.W.nsIn K mainGlobals "tuple" = some none)
    (z13 : PySem.W.nsIn K mainGlobals "zip" = some none)
    {t0 : _} (y0 : PySem.W.nsIn K mainGlobals "FAR" = some (some (.int 6 t0)))
    {t1 : _} (y1 : PySem.W.nsIn K mainGlobals "MOST_PLACES" = some (some (.int 12 t1)))
    {tC2_0 : Tok}
    {tC2_1 : Tok}
    {tC2_2 : Tok}
    {tC2_3 : Tok}
    {aC2 : Addr} {nC2 : Nat} {slC2 : Array (Option Value)} (yC2 : K.lookup aC2 = some ⟨.type "tuple", none, .seq [.int 0 tC2_0, .int 1 tC2_1, .int 2 tC2_2, .int 3 tC2_3].toArray nC2, slC2⟩)
    (zC2 : PySem.W.nsIn K mainGlobals "SIDES" = some (some (.ref aC2)))
    {tC3_0_0 : Tok}
    {tC3_0_1 : Tok}
    {aC3_0 : Addr} {nC3_0 : Nat} {slC3_0 : Array (Option Value)} (yC3_0 : K.lookup aC3_0 = some ⟨.type "tuple", none, .seq [.int 0 tC3_0_0, .int 1 tC3_0_1].toArray nC3_0, slC3_0⟩)
    {tC3_1_0 : Tok}
    {tC3_1_1 : Tok}
    {aC3_1 : Addr} {nC3_1 : Nat} {slC3_1 : Array (Option Value)} (yC3_1 : K.lookup aC3_1 = some ⟨.type "tuple", none, .seq [.int 1 tC3_1_0, .int 0 tC3_1_1].toArray nC3_1, slC3_1⟩)
    {tC3_2_0 : Tok}
    {tC3_2_1 : Tok}
    {aC3_2 : Addr} {nC3_2 : Nat} {slC3_2 : Array (Option Value)} (yC3_2 : K.lookup aC3_2 = some ⟨.type "tuple", none, .seq [.int 0 tC3_2_0, .int (-1) tC3_2_1].toArray nC3_2, slC3_2⟩)
    {tC3_3_0 : Tok}
    {tC3_3_1 : Tok}
    {aC3_3 : Addr} {nC3_3 : Nat} {slC3_3 : Array (Option Value)} (yC3_3 : K.lookup aC3_3 = some ⟨.type "tuple", none, .seq [.int (-1) tC3_3_0, .int 0 tC3_3_1].toArray nC3_3, slC3_3⟩)
    {aC3 : Addr} {nC3 : Nat} {slC3 : Array (Option Value)} (yC3 : K.lookup aC3 = some ⟨.type "tuple", none, .seq [.ref aC3_0, .ref aC3_1, .ref aC3_2, .ref aC3_3].toArray nC3, slC3⟩)
    (zC3 : PySem.W.nsIn K mainGlobals "STEPS" = some (some (.ref aC3)))
    : ∃ fd : FuncData, (∀ (s : Shared) (v : Value), BindsTo s fd ⟨[v], []⟩ [("_law_script", v)]) ∧ ∀ base : Heap, K.In base → base.Ns mainGlobals mg → FnG l.prog w K mg base 5 fa fd ["_law_script"] (spOut K d_law) := by
  have e := hfa.symm.trans (PySem.W.mg_of X G a18)
  cases e
  have F0 := fun_mk (st := s_is_whole) l0 c0 k0
  have b0 := F0.binds (ps := ["thing"]) fun _ _ _ _ _ _ us hl => match us, hl with | [_], _ => rfl
  have F1 := fun_mk (st := s_is_tuple_of) l1 c1 k1
  have b1 := F1.binds (ps := ["thing", "many"]) fun _ _ _ _ _ _ us hl => match us, hl with | [_, _], _ => rfl
  have F2 := fun_mk (st := s_rises) l2 c2 k2
  have b2 := F2.binds (ps := ["things"]) fun _ _ _ _ _ _ us hl => match us, hl with | [_], _ => rfl
  have F3 := fun_mk (st := s_step_of) l3 c3 k3
  have b3 := F3.binds (ps := ["place", "side"]) fun _ _ _ _ _ _ us hl => match us, hl with | [_, _], _ => rfl
  have F4 := fun_mk (st := s_law_spring_of) l4 c4 k4
  have b4 := F4.binds (ps := ["_law_script"]) fun _ _ _ _ _ _ us hl => match us, hl with | [_], _ => rfl
  have F5 := fun_mk (st := s_law_take) l5 c5 k5
  have b5 := F5.binds (ps := ["_law_spring", "_law_many"]) fun _ _ _ _ _ _ us hl => match us, hl with | [_, _], _ => rfl
  have F6 := fun_mk (st := s_law_whole) l6 c6 k6
  have b6 := F6.binds (ps := ["_law_thing"]) fun _ _ _ _ _ _ us hl => match us, hl with | [_], _ => rfl
  have F7 := fun_mk (st := s_law_led) l7 c7 k7
  have b7 := F7.binds (ps := ["_law_spots"]) fun _ _ _ _ _ _ us hl => match us, hl with | [_], _ => rfl
  have F8 := fun_mk (st := s_law_put) l8 c8 k8
  have b8 := F8.binds (ps := ["_law_some", "_law_at", "_law_thing"]) fun _ _ _ _ _ _ us hl => match us, hl with | [_, _, _], _ => rfl
  have F9 := fun_mk (st := s_is_within) l9 c9 k9
  have b9 := F9.binds (ps := ["thing", "least", "most"]) fun _ _ _ _ _ _ us hl => match us, hl with | [_, _, _], _ => rfl
  have F10 := fun_mk (st := s_links_of) l10 c10 k10
  have b10 := F10.binds (ps := ["shape"]) fun _ _ _ _ _ _ us hl => match us, hl with | [_], _ => rfl
  have F11 := fun_mk (st := s_law_of) l11 c11 k11
  have b11 := F11.binds (ps := ["_law_spring", "_law_some"]) fun _ _ _ _ _ _ us hl => match us, hl with | [_, _], _ => rfl
  have F12 := fun_mk (st := s_law_looked) l12 c12 k12
  have b12 := F12.binds (ps := ["_law_thing"]) fun _ _ _ _ _ _ us hl => match us, hl with | [_], _ => rfl
  have F13 := fun_mk (st := s_law_rings) l13 c13 k13
  have b13 := F13.binds (ps := ["_law_spring"]) fun _ _ _ _ _ _ us hl => match us, hl with | [_], _ => rfl
  have F14 := fun_mk (st := s_is_spot) l14 c14 k14
  have b14 := F14.binds (ps := ["thing"]) fun _ _ _ _ _ _ us hl => match us, hl with | [_], _ => rfl
  have F15 := fun_mk (st := s_law_grown_shape) l15 c15 k15
  have b15 := F15.binds (ps := ["_law_spring", "_law_many"]) fun _ _ _ _ _ _ us hl => match us, hl with | [_, _], _ => rfl
  have F16 := fun_mk (st := s_law_bent) l16 c16 k16
  have b16 := F16.binds (ps := ["_law_spring", "_law_shape"]) fun _ _ _ _ _ _ us hl => match us, hl with | [_, _], _ => rfl
  have F17 := fun_mk (st := s_is_shape) l17 c17 k17
  have b17 := F17.binds (ps := ["thing"]) fun _ _ _ _ _ _ us hl => match us, hl with | [_], _ => rfl
  have F18 := fun_mk (st := s_law) l18 c18 k18
  have b18 := F18.binds (ps := ["_law_script"]) fun _ _ _ _ _ _ us hl => match us, hl with | [_], _ => rfl
  refine ⟨PySem.W.fnOf "law" "law" (defArgs s_law) (defBody s_law) (defScope s_law) .none kV18 dc18 pm18 an18 cd18 ct18, fun s v => .of_eq rfl, fun base _ _ => FnG.out (ok_law (Txt.mk _ _ F0 (PySem.W.mg_of X G a0) b0 _ _ F1 (PySem.W.mg_of X G a1) b1 _ _ F2 (PySem.W.mg_of X G a2) b2 _ _ F3 (PySem.W.mg_of X G a3) b3 _ _ F4 (PySem.W.mg_of X G a4) b4 _ _ F5 (PySem.W.mg_of X G a5) b5 _ _ F6 (PySem.W.mg_of X G a6) b6 _ _ F7 (PySem.W.mg_of X G a7) b7 _ _ F8 (PySem.W.mg_of X G a8) b8 _ _ F9 (PySem.W.mg_of X G a9) b9 _ _ F10 (PySem.W.mg_of X G a10) b10 _ _ F11 (PySem.W.mg_of X G a11) b11 _ _ F12 (PySem.W.mg_of X G a12) b12 _ _ F13 (PySem.W.mg_of X G a13) b13 _ _ F14 (PySem.W.mg_of X G a14) b14 _ _ F15 (PySem.W.mg_of X G a15) b15 _ _ F16 (PySem.W.mg_of X G a16) b16 _ _ F17 (PySem.W.mg_of X G a17) b17 _ _ F18 (PySem.W.mg_of X G a18) b18 (PySem.W.mg_none_of X G z0) (PySem.W.mg_none_of X G z1) (PySem.W.mg_none_of X G z2) (PySem.W.mg_none_of X G z3) (PySem.W.mg_none_of X G z4) (PySem.W.mg_none_of X G z5) (PySem.W.mg_none_of X G z6) (PySem.W.mg_none_of X G z7) (PySem.W.mg_none_of X G z8) (PySem.W.mg_none_of X G z9) (PySem.W.mg_none_of X G z10) (PySem.W.mg_none_of X G z11) (PySem.W.mg_none_of X G z12) (PySem.W.mg_none_of X G z13) (⟨_, PySem.W.mg_of X G y0⟩) (⟨_, PySem.W.mg_of X G y1⟩) (⟨_, PySem.W.mg_of X G zC2, (krep_tup yC2 (.cons (relI _ _) (.cons (relI _ _) (.cons (relI _ _) (.cons (relI _ _) .nil)))) (Nat.le_of_ble_eq_true rfl) (KReps.cons (krep_int _) (KReps.cons (krep_int _) (KReps.cons (krep_int _) (KReps.cons (krep_int _) KReps.nil)))))⟩) (⟨_, PySem.W.mg_of X G zC3, (krep_tup yC3 (.cons (relR _) (.cons (relR _) (.cons (relR _) (.cons (relR _) .nil)))) (Nat.le_of_ble_eq_true rfl) (KReps.cons (krep_tup yC3_0 (.cons (relI _ _) (.cons (relI _ _) .nil)) (Nat.le_of_ble_eq_true rfl) (KReps.cons (krep_int _) (KReps.cons (krep_int _) KReps.nil))) (KReps.cons (krep_tup yC3_1 (.cons (relI _ _) (.cons (relI _ _) .nil)) (Nat.le_of_ble_eq_true rfl) (KReps.cons (krep_int _) (KReps.cons (krep_int _) KReps.nil))) (KReps.cons (krep_tup yC3_2 (.cons (relI _ _) (.cons (relI _ _) .nil)) (Nat.le_of_ble_eq_true rfl) (KReps.cons (krep_int _) (KReps.cons (krep_int _) KReps.nil))) (KReps.cons (krep_tup yC3_3 (.cons (relI _ _) (.cons (relI _ _) .nil)) (Nat.le_of_ble_eq_true rfl) (KReps.cons (krep_int _) (KReps.cons (krep_int _) KReps.nil))) KReps.nil)))))⟩)))⟩
end L3
open PySem PySem.W PyProof.Rows
set_option maxHeartbeats 0 in
theorem PySem.Challenge.cw_stickytiles_k52_shapes_or_not_holds : PySem.Challenge.rw_stickytiles_k52_shapes_or_not.Holds := by
  w_on; o_law; k_head; (case hw => w_witness2)
  k_fill
  refine L3.outer_walk (l := PySem.Challenge.rw_stickytiles_k52_shapes_or_not) (n := 63) (k := 5) (x := "_law_script") (sp := fun w => L3.spOut _ L3.d_law) rfl (by decide) rfl ⟨rfl, by decide, by decide⟩ (fun w h Y => PySem.W.kIn_of Y) ?F (fun _ _ a ns hl hS => L3.says_out L3.says hl hS)
  case F =>
    intro w mg fa h KX G hmg
    refine' L3.all_mk KX G hmg ?a0 ?l0 ?c0 ?k0 ?a1 ?l1 ?c1 ?k1 ?a2 ?l2 ?c2 ?k2 ?a3 ?l3 ?c3 ?k3 ?a4 ?l4 ?c4 ?k4 ?a5 ?l5 ?c5 ?k5 ?a6 ?l6 ?c6 ?k6 ?a7 ?l7 ?c7 ?k7 ?a8 ?l8 ?c8 ?k8 ?a9 ?l9 ?c9 ?k9 ?a10 ?l10 ?c10 ?k10 ?a11 ?l11 ?c11 ?k11 ?a12 ?l12 ?c12 ?k12 ?a13 ?l13 ?c13 ?k13 ?a14 ?l14 ?c14 ?k14 ?a15 ?l15 ?c15 ?k15 ?a16 ?l16 ?c16 ?k16 ?a17 ?l17 ?c17 ?k17 ?a18 ?l18 ?c18 ?k18 ?z0 ?z1 ?z2 ?z3 ?z4 ?z5 ?z6 ?z7 ?z8 ?z9 ?z10 ?z11 ?z12 ?z13 ?y0 ?y1 ?yC2 ?zC2 ?yC3_0 ?yC3_1 ?yC3_2 ?yC3_3 ?yC3 ?zC3
    (case a0 => k_is); (case l0 => k_is); (case c0 => k_is); (case k0 => k_is); (case a1 => k_is); (case l1 => k_is); (case c1 => k_is); (case k1 => k_is); (case a2 => k_is); (case l2 => k_is); (case c2 => k_is); (case k2 => k_is); (case a3 => k_is); (case l3 => k_is); (case c3 => k_is); (case k3 => k_is); (case a4 => k_is); (case l4 => k_is); (case c4 => k_is); (case k4 => k_is); (case a5 => k_is); (case l5 => k_is); (case c5 => k_is); (case k5 => k_is); (case a6 => k_is); (case l6 => k_is); (case c6 => k_is); (case k6 => k_is); (case a7 => k_is); (case l7 => k_is); (case c7 => k_is); (case k7 => k_is); (case a8 => k_is); (case l8 => k_is); (case c8 => k_is); (case k8 => k_is); (case a9 => k_is); (case l9 => k_is); (case c9 => k_is); (case k9 => k_is); (case a10 => k_is); (case l10 => k_is); (case c10 => k_is); (case k10 => k_is); (case a11 => k_is); (case l11 => k_is); (case c11 => k_is); (case k11 => k_is); (case a12 => k_is); (case l12 => k_is); (case c12 => k_is); (case k12 => k_is); (case a13 => k_is); (case l13 => k_is); (case c13 => k_is); (case k13 => k_is); (case a14 => k_is); (case l14 => k_is); (case c14 => k_is); (case k14 => k_is); (case a15 => k_is); (case l15 => k_is); (case c15 => k_is); (case k15 => k_is); (case a16 => k_is); (case l16 => k_is); (case c16 => k_is); (case k16 => k_is); (case a17 => k_is); (case l17 => k_is); (case c17 => k_is); (case k17 => k_is); (case a18 => k_is); (case l18 => k_is); (case c18 => k_is); (case k18 => k_is); (case z0 => k_is); (case z1 => k_is); (case z2 => k_is); (case z3 => k_is); (case z4 => k_is); (case z5 => k_is); (case z6 => k_is); (case z7 => k_is); (case z8 => k_is); (case z9 => k_is); (case z10 => k_is); (case z11 => k_is); (case z12 => k_is); (case z13 => k_is); (case y0 => k_is); (case y1 => k_is); (case zC2 => k_is); (case yC2 => k_is); (case zC3 => k_is); (case yC3 => k_is); (case yC3_3 => k_is); (case yC3_2 => k_is); (case yC3_1 => k_is); (case yC3_0 => k_is)
