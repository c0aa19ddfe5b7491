import PyProof.Rows.All
import Wide.All
import OpenK.AllK
import Wide.FinOn
import HandS.ForMost
import HandS.ForExc
import HandS.IsInst
import HandS.Flow
import HandS.CallSlots
import HandS.TryMany
import HandS.ExcIs
import HandS.Lambda
import HandS.More
import HandS.Dict
import HandS.Small
import HandS.Conv
import HandS.Iter
import HandS.Text
import HandS.TupAny
import HandS.Deep
import PyProof.StrOps2
import HandS.Ends
import HandS.WordsExc
import PyProof.ReprRoads
import KE.GoesMore
import KE.GoesEnum
import HandS.CallLocal
import HandS.Style
import HandS.ExcInit
import HandS.Nested
import HandS.NestedHot
import KE.KExcSuper
import HandS.EndBits
import HandS.ExcField
import HandS.Zip
import HandS.Head0
import HandS.Head1
import HandS.Head2
import HandS.HeadHook1
import HandS.HeadHook2
import HandS.HeadEnd
import PySem.Challenge.RW_whysheets_k24_errors_made_and_bases
set_option Elab.async false
set_option linter.all false
set_option maxRecDepth 100000
/-! MPBase: data, the visible store, what they say of the abstract heap. -/
namespace MP
open PySem PyProof.Rows PySem.Spec L2

/-- data: what a value is. Tuples, lists that are never changed again, dicts likewise stand inline; ref: an object of the visible store, or a thing of the module -/
inductive D where
  | non
  | bl (b : Bool)
  | int (i : Int)
  | str (x : Str)
  | ty (n : String)
  | ref (a : Addr)
  | exn (c : Value) (a : Addr) (ks : List Str) (xs : List D)
  | tup (xs : List D)
  | lst (xs : List D)
  | kls (xs : List D)
  | dct (ks : List Key) (xs : List D)

/-- an object of the visible store -/
inductive SO where
  | lst (xs : List D)
  | dct (ks : List Key) (xs : List D)
  | ins (C : Addr) (ks : List Str) (xs : List D)
  | tab (q : Str)

abbrev Store := Addr → Option SO
def Store.set (S : Store) (a : Addr) (o : SO) : Store := fun b => if b = a then some o else S b
def Store.del (S : Store) (a : Addr) : Store := fun b => if b = a then none else S b
theorem Store.set_same {S : Store} {a : Addr} {o : SO} : S.set a o a = some o := if_pos rfl
theorem Store.set_ne {S : Store} {a b : Addr} {o : SO} (h : b ≠ a) : S.set a o b = S b := if_neg h
theorem Store.del_same {S : Store} {a : Addr} : S.del a a = none := if_pos rfl
theorem Store.del_ne {S : Store} {a b : Addr} (h : b ≠ a) : S.del a b = S b := if_neg h

/-- a list that is never changed again: locked -/
def FzL (H : Hp) (a : Addr) (xs : List V) : Prop := ∃ o, H a = some (.frz o (.lst xs))
/-- .. or one of the module (the script) -/
def KsL (K : PySem.W.Frag) (H : Hp) (a : Addr) (xs : List V) : Prop := FzL H a xs ∨
  ∃ (o : Obj) (its : Array Value) (n : Nat), K.lookup a = some o ∧ o.cls = .type "list" ∧ o.dict = none ∧ o.data = .seq its n ∧
    its.size ≤ sizeLine ∧ Vals xs its.toList
theorem FzL.seq {K : PySem.W.Frag} {H : Hp} {a : Addr} {xs : List V} (h : FzL H a xs) : SqL K H a xs := let ⟨o, h⟩ := h; .inl (.inr ⟨o, h⟩)
theorem KsL.seq {K : PySem.W.Frag} {H : Hp} {a : Addr} {xs : List V} (h : KsL K H a xs) : SqL K H a xs := by
  rcases h with h | h
  · exact h.seq
  · exact .inr h
/-- a dict that is never changed again -/
def FzD (K : PySem.W.Frag) (H : Hp) (a : Addr) (kvs : List (Key × V)) : Prop := ∃ o, H a = some (.frz o (.dK kvs))
/-- at a: an exception object of the class c, its own dict at d, caught and kept -/
def exT (c : Value) (d : Option Addr) (a : Addr) : HO := .ext fun h => ∃ (oe : Obj) (vs : Array Value), h.get? a = some oe ∧ Zc c d oe ∧ oe.data = .fields vs
/-- the fields of an exception stand in its own dict -/
def XdAt (H : Hp) (ks : List Str) (d : Option Addr) (vs : List V) : Prop := (ks = [] ∧ d = none) ∨ ∃ dd, d = some dd ∧ ks ≠ [] ∧ H dd = some (.xd (ks.zip vs))

mutual
def Rel (K : PySem.W.Frag) (H : Hp) : D → V → Prop
  | .non, v => v = .non
  | .bl b, v => v = .bl b
  | .int i, v => v = .int i
  | .str x, v => v = .str x
  | .ty n, v => v = .ty n
  | .ref a, v => v = .ref a
  | .exn c a ks ds, v => v = .ref a ∧ ∃ d vs, H a = some (exT c d a) ∧ XdAt H ks d vs ∧ ks.length = ds.length ∧ Rels K H ds vs
  | .tup ds, v => ∃ a xs, v = .ref a ∧ SqT K H a xs ∧ Rels K H ds xs
  | .lst ds, v => ∃ a xs, v = .ref a ∧ FzL H a xs ∧ Rels K H ds xs
  | .kls ds, v => ∃ a xs, v = .ref a ∧ KsL K H a xs ∧ Rels K H ds xs
  | .dct ks ds, v => ∃ a xs, v = .ref a ∧ FzD K H a (ks.zip xs) ∧ ks.length = ds.length ∧ Rels K H ds xs
def Rels (K : PySem.W.Frag) (H : Hp) : List D → List V → Prop
  | [], vs => vs = []
  | d :: ds, vs => ∃ v r, vs = v :: r ∧ Rel K H d v ∧ Rels K H ds r
end

def SOk (K : PySem.W.Frag) (H : Hp) (a : Addr) : SO → Prop
  | .lst ds => ∃ xs, H a = some (.lst xs) ∧ Rels K H ds xs
  | .dct ks ds => ∃ xs, H a = some (.dK (ks.zip xs)) ∧ ks.length = ds.length ∧ Rels K H ds xs
  | .ins C ks ds => ∃ dx xs, H a = some (.ins C dx (ks.zip xs)) ∧ H dx = some (.own a) ∧ ks.length = ds.length ∧ Rels K H ds xs
  | .tab q => LamX.TabS H a q
/-- the visible store is held -/
def SRel (K : PySem.W.Frag) (S : Store) (H : Hp) : Prop := ∀ a o, S a = some o → SOk K H a o
/-- all but the visible store is kept -/
def Keep (S : Store) (H H' : Hp) : Prop := ∀ a o, H a = some o → S a = none → (∀ ps, o ≠ .tbl ps) → H' a = some o
structure Evo (S : Store) (H : Hp) (S' : Store) (H' : Hp) : Prop where
  keep : Keep S H H'
  new : ∀ a, S a = none → S' a ≠ none → ∀ o, H a = some o → (∀ ps, o ≠ .tbl ps) → False

theorem Evo.refl (S : Store) (H : Hp) : Evo S H S H := ⟨fun _ _ h _ _ => h, fun a h n => absurd h n⟩
theorem Evo.trans {S S1 S2 : Store} {H H1 H2 : Hp} (a : Evo S H S1 H1) (b : Evo S1 H1 S2 H2) : Evo S H S2 H2 where
  keep := fun x o h n nt => by
    have h1 := a.keep x o h n nt
    cases q : S1 x with
    | none => exact b.keep x o h1 q nt
    | some u =>
      exact (a.new x n (by rw [q]; exact fun z => nomatch z) o h nt).elim
  new := fun x n n2 o e nt => by
    cases q : S1 x with
    | none => exact b.new x q n2 o (a.keep x o e n nt) nt
    | some u => exact a.new x n (by rw [q]; exact fun z => nomatch z) o e nt

/-- what the store may hold -/
def mutb : HO → Bool
  | .lst _ => true
  | .dK _ => true
  | .ins _ _ _ => true
  | .tbl _ => true
  | _ => false
theorem nt_of {o : HO} (m : mutb o = false) : ∀ ps, o ≠ .tbl ps := fun ps z => by subst z; cases m
section
variable {K : PySem.W.Frag} {S S' : Store} {H H' : Hp}
theorem SRel.imm (r : SRel K S H) {a : Addr} {o : HO} (h : H a = some o) (m : mutb o = false) : S a = none := by
  cases q : S a with
  | none => rfl
  | some u =>
    have z := r a u q
    cases u with
    | lst ds => obtain ⟨xs, e, _⟩ := z; rw [h] at e; cases e; cases m
    | dct ks ds => obtain ⟨xs, e, _⟩ := z; rw [h] at e; cases e; cases m
    | ins C ks ds => obtain ⟨dx, xs, e, _⟩ := z; rw [h] at e; cases e; cases m
    | tab q => obtain ⟨ps, e, _⟩ := z; rw [h] at e; cases e; cases m
/-- what is unchangeable in H stays -/
def Imm (H H' : Hp) : Prop := ∀ a o, H a = some o → mutb o = false → H' a = some o
theorem Evo.imm (e : Evo S H S' H') (r : SRel K S H) : Imm H H' := fun a o h m => e.keep a o h (r.imm h m) (nt_of m)
theorem Imm.sqT (i : Imm H H') {a : Addr} {xs : List V} (h : SqT K H a xs) : SqT K H' a xs := by
  rcases h with (h | ⟨ob, h⟩) | h
  · exact .inl (.inl (i _ _ h rfl))
  · exact .inl (.inr ⟨ob, i _ _ h rfl⟩)
  · exact .inr h
theorem Imm.fzL (i : Imm H H') {a : Addr} {xs : List V} (h : FzL H a xs) : FzL H' a xs := let ⟨o, h⟩ := h; ⟨o, i _ _ h rfl⟩
theorem Imm.ksL (i : Imm H H') {a : Addr} {xs : List V} (h : KsL K H a xs) : KsL K H' a xs := h.elim (fun z => .inl (i.fzL z)) .inr
theorem Imm.fzD (i : Imm H H') {a : Addr} {kvs : List (Key × V)} (h : FzD K H a kvs) : FzD K H' a kvs := let ⟨o, h⟩ := h; ⟨o, i _ _ h rfl⟩
theorem Imm.xd (i : Imm H H') {ks : List Str} {d : Option Addr} {vs : List V} (h : XdAt H ks d vs) : XdAt H' ks d vs := by
  rcases h with h | ⟨dd, e, n, h⟩
  · exact .inl h
  · exact .inr ⟨dd, e, n, i _ _ h rfl⟩
mutual
theorem Rel.imm (i : Imm H H') : ∀ (d : D) (v : V), Rel K H d v → Rel K H' d v
  | .non, _, h => h
  | .bl _, _, h => h
  | .int _, _, h => h
  | .str _, _, h => h
  | .ty _, _, h => h
  | .ref _, _, h => h
  | .exn c a ks ds, _, ⟨e, d, vs, h, x, l, r⟩ => ⟨e, d, vs, i _ _ h rfl, i.xd x, l, Rels.imm i ds vs r⟩
  | .tup ds, _, ⟨a, xs, e, h, r⟩ => ⟨a, xs, e, i.sqT h, Rels.imm i ds xs r⟩
  | .lst ds, _, ⟨a, xs, e, h, r⟩ => ⟨a, xs, e, i.fzL h, Rels.imm i ds xs r⟩
  | .kls ds, _, ⟨a, xs, e, h, r⟩ => ⟨a, xs, e, i.ksL h, Rels.imm i ds xs r⟩
  | .dct ks ds, _, ⟨a, xs, e, h, l, r⟩ => ⟨a, xs, e, i.fzD h, l, Rels.imm i ds xs r⟩
theorem Rels.imm (i : Imm H H') : ∀ (ds : List D) (vs : List V), Rels K H ds vs → Rels K H' ds vs
  | [], _, h => h
  | d :: ds, _, ⟨v, r, e, h, t⟩ => ⟨v, r, e, Rel.imm i d v h, Rels.imm i ds r t⟩
end
theorem Rels.length : ∀ {ds : List D} {vs : List V}, Rels K H ds vs → ds.length = vs.length
  | [], _, h => by have e : _ = [] := h; subst e; rfl
  | d :: ds, _, ⟨v, r, e, _, t⟩ => by subst e; simp [Rels.length t]
theorem Rels.get : ∀ {ds : List D} {vs : List V} {i : Nat} {d : D}, Rels K H ds vs → ds[i]? = some d → ∃ v, vs[i]? = some v ∧ Rel K H d v
  | [], _, _, _, _, e => by simp at e
  | d :: ds, _, 0, _, ⟨v, r, e, h, t⟩, q => by subst e; simp at q; subst q; exact ⟨v, rfl, h⟩
  | d :: ds, _, i + 1, x, ⟨v, r, e, h, t⟩, q => by
    subst e
    obtain ⟨u, h1, h2⟩ := Rels.get (i := i) (d := x) t (by simpa using q)
    exact ⟨u, (by simpa using h1), h2⟩
theorem Rels.getV : ∀ {ds : List D} {vs : List V} {i : Nat} {v : V}, Rels K H ds vs → vs[i]? = some v → ∃ d, ds[i]? = some d ∧ Rel K H d v
  | [], _, _, _, h, e => by have z : _ = [] := h; subst z; simp at e
  | d :: ds, _, 0, _, ⟨v, r, e, h, t⟩, q => by subst e; simp at q; subst q; exact ⟨d, rfl, h⟩
  | d :: ds, _, i + 1, x, ⟨v, r, e, h, t⟩, q => by
    subst e
    obtain ⟨u, h1, h2⟩ := Rels.getV (i := i) (v := x) t (by simpa using q)
    exact ⟨u, (by simpa using h1), h2⟩
theorem Rels.append : ∀ {ds es : List D} {vs ws : List V}, Rels K H ds vs → Rels K H es ws → Rels K H (ds ++ es) (vs ++ ws)
  | [], _, _, _, h, k => by have e : _ = [] := h; subst e; exact k
  | d :: ds, _, _, _, ⟨v, r, e, h, t⟩, k => by subst e; exact ⟨v, r ++ _, rfl, h, Rels.append t k⟩
theorem Rels.set {x : D} {u : V} (q : Rel K H x u) : ∀ {ds : List D} {vs : List V} (i : Nat), Rels K H ds vs → Rels K H (ds.set i x) (vs.set i u)
  | [], _, _, h => by have e : _ = [] := h; subst e; exact rfl
  | d :: ds, _, 0, ⟨v, r, e, h, t⟩ => by subst e; exact ⟨u, r, rfl, q, t⟩
  | d :: ds, _, i + 1, ⟨v, r, e, h, t⟩ => by subst e; exact ⟨v, r.set i u, rfl, h, Rels.set q i t⟩
theorem Rels.take : ∀ {ds : List D} {vs : List V} (n : Nat), Rels K H ds vs → Rels K H (ds.take n) (vs.take n)
  | _, _, 0, _ => rfl
  | [], _, n + 1, h => by have e : _ = [] := h; subst e; rfl
  | d :: ds, _, n + 1, ⟨v, r, e, h, t⟩ => by subst e; exact ⟨v, r.take n, rfl, h, Rels.take n t⟩
theorem Rels.drop : ∀ {ds : List D} {vs : List V} (n : Nat), Rels K H ds vs → Rels K H (ds.drop n) (vs.drop n)
  | _, _, 0, h => h
  | [], _, n + 1, h => by have e : _ = [] := h; subst e; rfl
  | d :: ds, _, n + 1, ⟨v, r, e, h, t⟩ => by subst e; exact Rels.drop n t
theorem Rels.eraseIdx : ∀ {ds : List D} {vs : List V} (n : Nat), Rels K H ds vs → Rels K H (ds.eraseIdx n) (vs.eraseIdx n)
  | [], _, _, h => by have e : _ = [] := h; subst e; rfl
  | d :: ds, _, 0, ⟨v, r, e, h, t⟩ => by subst e; exact t
  | d :: ds, _, n + 1, ⟨v, r, e, h, t⟩ => by subst e; exact ⟨v, r.eraseIdx n, rfl, h, Rels.eraseIdx n t⟩
theorem Rels.one {d : D} {vs : List V} (h : Rels K H [d] vs) : ∃ v, vs = [v] ∧ Rel K H d v := by
  obtain ⟨v, r, rfl, h, t⟩ := h
  have e : r = [] := t
  subst e
  exact ⟨v, rfl, h⟩
theorem Rels.mk1 {d : D} {v : V} (h : Rel K H d v) : Rels K H [d] [v] := ⟨v, [], rfl, h, rfl⟩
theorem SOk.imm (i : Imm H H') {a : Addr} {o : SO} (h : SOk K H a o) (e : ∀ u, H a = some u → H' a = some u) : SOk K H' a o := by
  cases o with
  | lst ds => obtain ⟨xs, q, r⟩ := h; exact ⟨xs, e _ q, Rels.imm i _ _ r⟩
  | dct ks ds => obtain ⟨xs, q, l, r⟩ := h; exact ⟨xs, e _ q, l, Rels.imm i _ _ r⟩
  | ins C ks ds => obtain ⟨dx, xs, q, w, l, r⟩ := h; exact ⟨dx, xs, e _ q, i _ _ w rfl, l, Rels.imm i _ _ r⟩
  | tab q =>
    obtain ⟨ps, h1, h2, h3⟩ := h
    exact ⟨ps, e _ h1, h2, fun pos cv hc => let ⟨c, e1, e2⟩ := h3 pos cv hc; ⟨c, e1, i _ _ e2 rfl⟩⟩
end

/-! ### the frame -/
abbrev Env := List (Option D)
def lk : Env → Nat → Option D
  | [], _ => none
  | x :: _, 0 => x
  | _ :: r, n + 1 => lk r n
def st : Env → Nat → Option D → Env
  | [], _, _ => []
  | _ :: r, 0, y => y :: r
  | x :: r, n + 1, y => x :: st r n y
def EnvR (K : PySem.W.Frag) (H : Hp) : Env → L2.St → Prop
  | [], σ => σ = []
  | x :: ρ, σ => ∃ y r, σ = y :: r ∧ (∀ d, x = some d → ∃ v, y = some v ∧ Rel K H d v) ∧ EnvR K H ρ r
section
variable {K : PySem.W.Frag} {S S' : Store} {H H' : Hp}
theorem EnvR.imm (i : Imm H H') : ∀ {ρ : Env} {σ : L2.St}, EnvR K H ρ σ → EnvR K H' ρ σ
  | [], _, h => h
  | x :: ρ, _, ⟨y, r, e, h, t⟩ => ⟨y, r, e, fun d q => let ⟨v, a, b⟩ := h d q; ⟨v, a, Rel.imm i _ _ b⟩, EnvR.imm i t⟩
theorem EnvR.get : ∀ {ρ : Env} {σ : L2.St} {i : Nat} {d : D}, EnvR K H ρ σ → lk ρ i = some d → ∃ v, σ[i]? = some (some v) ∧ Rel K H d v
  | [], _, _, _, _, e => by cases e
  | x :: ρ, _, 0, d, ⟨y, r, e, h, t⟩, q => by
    subst e
    obtain ⟨v, a, b⟩ := h d q
    subst a
    exact ⟨v, rfl, b⟩
  | x :: ρ, _, i + 1, d, ⟨y, r, e, h, t⟩, q => by
    subst e
    obtain ⟨v, a, b⟩ := EnvR.get (i := i) t q
    exact ⟨v, by simpa using a, b⟩
theorem EnvR.set {d : D} {v : V} (h : Rel K H d v) : ∀ {ρ : Env} {σ : L2.St} (i : Nat), EnvR K H ρ σ → EnvR K H (st ρ i (some d)) (σ.set i (some v))
  | [], _, _, h => by have e : _ = [] := h; subst e; rfl
  | x :: ρ, _, 0, ⟨y, r, e, q, t⟩ => by subst e; exact ⟨some v, r, rfl, fun d' e' => by cases e'; exact ⟨v, rfl, h⟩, t⟩
  | x :: ρ, _, i + 1, ⟨y, r, e, q, t⟩ => by subst e; exact ⟨y, r.set i (some v), rfl, q, EnvR.set h i t⟩
/-- a slot forgotten, whatever stands there -/
theorem EnvR.gone : ∀ {ρ : Env} {σ : L2.St} (i : Nat) (o : Option V), EnvR K H ρ σ → EnvR K H (st ρ i none) (σ.set i o)
  | [], _, _, _, h => by have e : _ = [] := h; subst e; rfl
  | x :: ρ, _, 0, o, ⟨y, r, e, q, t⟩ => by subst e; exact ⟨o, r, rfl, (fun d' e' => nomatch e'), t⟩
  | x :: ρ, _, i + 1, o, ⟨y, r, e, q, t⟩ => by subst e; exact ⟨y, r.set i o, rfl, q, EnvR.gone i o t⟩
theorem EnvR.forget : ∀ {ρ : Env} {σ : L2.St} (i : Nat), EnvR K H ρ σ → EnvR K H (st ρ i none) σ
  | [], _, _, h => h
  | x :: ρ, _, 0, ⟨y, r, e, q, t⟩ => by subst e; exact ⟨y, r, rfl, (fun d' e' => nomatch e'), t⟩
  | x :: ρ, _, i + 1, ⟨y, r, e, q, t⟩ => by subst e; exact ⟨y, r, rfl, q, EnvR.forget i t⟩
theorem EnvR.start : ∀ {ds : List D} {vs : List V} (n : Nat), Rels K H ds vs → EnvR K H (ds.map some ++ List.replicate n none) (vs.map some ++ List.replicate n none)
  | [], _, n, h => by
    have e : _ = [] := h
    subst e
    show EnvR K H (List.replicate n none) (List.replicate n none)
    induction n with
    | zero => rfl
    | succ n ih => exact ⟨none, List.replicate n none, rfl, (fun d e => nomatch e), ih⟩
  | d :: ds, _, n, ⟨v, r, e, h, t⟩ => by
    subst e
    exact ⟨some v, r.map some ++ List.replicate n none, rfl, fun d' e' => by cases e'; exact ⟨v, rfl, h⟩, EnvR.start n t⟩

/-! ### the heap and the store grow and change -/
theorem upd_imm {a : Addr} {o : HO} (h : H a = none) : Imm H (upd H a o) := fun b u e _ => by rw [upd_ne (ne_of_none e h)]; exact e
theorem evo_new {a : Addr} {o : HO} (h : H a = none) : Evo S H S (upd H a o) := ⟨fun b u e _ _ => by rw [upd_ne (ne_of_none e h)]; exact e, fun b n n2 => absurd n n2⟩
theorem SRel.upd_new (r : SRel K S H) {a : Addr} {o : HO} (h : H a = none) : SRel K S (upd H a o) := fun b u e =>
  (r b u e).imm (upd_imm h) fun w q => by rw [upd_ne (ne_of_none q h)]; exact q
theorem SRel.free (r : SRel K S H) {a : Addr} (h : H a = none) : S a = none := by
  cases q : S a with
  | none => rfl
  | some u =>
    have z := r a u q
    cases u with
    | lst ds => obtain ⟨xs, e, _⟩ := z; rw [h] at e; cases e
    | dct ks ds => obtain ⟨xs, e, _⟩ := z; rw [h] at e; cases e
    | ins C ks ds => obtain ⟨dx, xs, e, _⟩ := z; rw [h] at e; cases e
    | tab q => obtain ⟨ps, e, _⟩ := z; rw [h] at e; cases e
/-- an object that the store holds from now on, new in H -/
theorem evo_newS {a : Addr} {o : HO} {u : SO} (h : H a = none) : Evo S H (S.set a u) (upd H a o) := ⟨fun b u e _ _ => by rw [upd_ne (ne_of_none e h)]; exact e, fun b n n2 o2 e2 _ => by
  by_cases hb : b = a
  · rw [hb, h] at e2; cases e2
  · rw [Store.set_ne hb] at n2; exact absurd n n2⟩
theorem SRel.newS (r : SRel K S H) {a : Addr} {o : HO} {u : SO} (h : H a = none) (k : SOk K (upd H a o) a u) : SRel K (S.set a u) (upd H a o) := fun b w e => by
  by_cases hb : b = a
  · subst hb
    rw [Store.set_same] at e
    cases e
    exact k
  · rw [Store.set_ne hb] at e
    exact r.upd_new h b w e
/-- an object of the store changed -/
theorem upd_immS {a : Addr} {o o' : HO} (h : H a = some o') (m : mutb o' = true) : Imm H (upd H a o) := fun b u e q => by
  by_cases hb : b = a
  · subst hb; rw [h] at e; cases e; rw [m] at q; cases q
  · rw [upd_ne hb]; exact e
theorem evo_setS {a : Addr} {o : HO} {u u' : SO} (h : S a = some u') : Evo S H (S.set a u) (upd H a o) := ⟨fun b w e n _ => by
  by_cases hb : b = a
  · subst hb; rw [h] at n; cases n
  · rw [upd_ne hb]; exact e, fun b n n2 => by
  by_cases hb : b = a
  · subst hb; rw [h] at n; cases n
  · rw [Store.set_ne hb] at n2; exact absurd n n2⟩
theorem SOk.mut {a : Addr} {u : SO} (h : SOk K H a u) : ∃ o, H a = some o ∧ mutb o = true := by
  cases u with
  | lst ds => obtain ⟨xs, e, _⟩ := h; exact ⟨_, e, rfl⟩
  | dct ks ds => obtain ⟨xs, e, _⟩ := h; exact ⟨_, e, rfl⟩
  | ins C ks ds => obtain ⟨dx, xs, e, _⟩ := h; exact ⟨_, e, rfl⟩
  | tab q => obtain ⟨ps, e, _⟩ := h; exact ⟨_, e, rfl⟩
theorem SRel.setS (r : SRel K S H) {a : Addr} {o : HO} {u u' : SO} (h : S a = some u') (k : Imm H (upd H a o) → SOk K (upd H a o) a u) : SRel K (S.set a u) (upd H a o) := by
  obtain ⟨o', e', m⟩ := (r a u' h).mut
  have i : Imm H (upd H a o) := upd_immS e' m
  intro b w e
  by_cases hb : b = a
  · subst hb
    rw [Store.set_same] at e
    cases e
    exact k i
  · rw [Store.set_ne hb] at e
    exact (r b w e).imm i fun z q => by rw [upd_ne hb]; exact q
/-- an object of the store locked for good -/
theorem evo_frz {a : Addr} {o : HO} {u' : SO} (h : S a = some u') : Evo S H (S.del a) (upd H a o) := ⟨fun b w e n _ => by
  by_cases hb : b = a
  · subst hb; rw [h] at n; cases n
  · rw [upd_ne hb]; exact e, fun b n n2 => by
  by_cases hb : b = a
  · subst hb; rw [h] at n; cases n
  · rw [Store.del_ne hb] at n2; exact absurd n n2⟩
theorem SRel.frz (r : SRel K S H) {a : Addr} {o : HO} {u' : SO} (h : S a = some u') : Imm H (upd H a o) ∧ SRel K (S.del a) (upd H a o) := by
  obtain ⟨o', e', m⟩ := (r a u' h).mut
  have i : Imm H (upd H a o) := upd_immS e' m
  refine ⟨i, fun b w e => ?_⟩
  by_cases hb : b = a
  · subst hb
    rw [Store.del_same] at e
    cases e
  · rw [Store.del_ne hb] at e
    exact (r b w e).imm i fun z q => by rw [upd_ne hb]; exact q
/-- forgetting what the store shows -/
def Sub (S S' : Store) : Prop := ∀ a o, S a = some o → S' a = some o
theorem SRel.sub (r : SRel K S' H) (s : Sub S S') : SRel K S H := fun a o e => r a o (s a o e)
end
end MP

set_option Elab.async false
set_option linter.all false
set_option maxRecDepth 100000
/-! MPExpr: the readings of expressions over data; names, constants, displays, operators, comparisons, tests. -/
namespace MP
open PySem PyProof.Rows PySem.Spec L2

/-- an exception: its class, the fields of its own dict -/
structure Exn where
  cls : Value
  ks : List Str := []
  xs : List D := []
def ExnR (K : PySem.W.Frag) (H : Hp) (x : Exn) (c : Value) (dd : Option Addr) : Prop :=
  c = x.cls ∧ ∃ vs, XdAt H x.ks dd vs ∧ x.ks.length = x.xs.length ∧ Rels K H x.xs vs
theorem ExnR.imm {K : PySem.W.Frag} {H H' : Hp} (i : Imm H H') {x : Exn} {c : Value} {dd : Option Addr} (h : ExnR K H x c dd) : ExnR K H' x c dd :=
  let ⟨e, vs, a, l, r⟩ := h
  ⟨e, vs, i.xd a, l, Rels.imm i _ _ r⟩

abbrev Post := D → Store → Prop
abbrev XPost := Exn → Store → Prop
abbrev ET := Env → Store → Post → XPost → Prop
abbrev EA := Env → Store → (List D → Store → Prop) → XPost → Prop
abbrev EB := Env → Store → (Bool → Store → Prop) → XPost → Prop

section
variable (K : PySem.W.Frag)
/-- the data's end Qd leads to the end Q -/
def LQ (S : Store) (H : Hp) (Qd : Post) (Q : VK) : Prop := ∀ d S' v H', Evo S H S' H' → SRel K S' H' → Rel K H' d v → Qd d S' → Q v H'
def LQs (n : Nat) (S : Store) (H : Hp) (Qd : List D → Store → Prop) (Q : List V → Hp → Prop) : Prop := ∀ ds S' vs H', Evo S H S' H' → SRel K S' H' → Rels K H' ds vs → ds.length = n → Qd ds S' → Q vs H'
def LQb (S : Store) (H : Hp) (Qd : Bool → Store → Prop) (Q : Bool → Hp → Prop) : Prop := ∀ b S' H', Evo S H S' H' → SRel K S' H' → Qd b S' → Q b H'
def LX (S : Store) (H : Hp) (Ed : XPost) (E : XK) : Prop := ∀ x S' c dd H', Evo S H S' H' → SRel K S' H' → ExnR K H' x c dd → Ed x S' → E c dd H'
def rdE (W : WX) (f : ET) : TE := fun σ H Q => ∃ ρ S Qd Ed, EnvR K H ρ σ ∧ SRel K S H ∧ f ρ S Qd Ed ∧ LQ K S H Qd Q ∧ LX K S H Ed (fun c dd H' => W c dd σ H')
def rdA (W : WX) (n : Nat) (f : EA) : TA := fun σ H Q => ∃ ρ S Qd Ed, EnvR K H ρ σ ∧ SRel K S H ∧ f ρ S Qd Ed ∧ LQs K n S H Qd Q ∧ LX K S H Ed (fun c dd H' => W c dd σ H')
def rdB (W : WX) (f : EB) : TT := fun σ H Q => ∃ ρ S Qd Ed, EnvR K H ρ σ ∧ SRel K S H ∧ f ρ S Qd Ed ∧ LQb K S H Qd Q ∧ LX K S H Ed (fun c dd H' => W c dd σ H')
end
section
variable {K : PySem.W.Frag} {S S1 : Store} {H H1 : Hp}
theorem LQ.mono {Qd : Post} {Q : VK} (l : LQ K S H Qd Q) (e : Evo S H S1 H1) : LQ K S1 H1 Qd Q := fun d S' v H' e' r q h => l d S' v H' (e.trans e') r q h
theorem LQs.mono {n : Nat} {Qd : List D → Store → Prop} {Q : List V → Hp → Prop} (l : LQs K n S H Qd Q) (e : Evo S H S1 H1) : LQs K n S1 H1 Qd Q := fun d S' v H' e' r q k h => l d S' v H' (e.trans e') r q k h
theorem LQb.mono {Qd : Bool → Store → Prop} {Q : Bool → Hp → Prop} (l : LQb K S H Qd Q) (e : Evo S H S1 H1) : LQb K S1 H1 Qd Q := fun d S' H' e' r h => l d S' H' (e.trans e') r h
theorem LX.mono {Ed : XPost} {E : XK} (l : LX K S H Ed E) (e : Evo S H S1 H1) : LX K S1 H1 Ed E := fun x S' c dd H' e' r q h => l x S' c dd H' (e.trans e') r q h
end

theorem PE_imp {X : Cx} {e : Expr} {t t' : TE} (h : PE X e t) (i : ∀ σ H Q, t' σ H Q → t σ H Q) : PE X e t' := ⟨fun pins s σ H Q I q => h.run pins s σ H Q I (i σ H Q q)⟩
theorem PT_imp {X : Cx} {e : Expr} {t t' : TT} (h : PT X e t) (i : ∀ σ H Q, t' σ H Q → t σ H Q) : PT X e t' := ⟨fun pins s σ H Q I q => h.run pins s σ H Q I (i σ H Q q)⟩
theorem PW_imp {X : Cx} {e : Expr} {t t' : TT} (h : PW X e t) (i : ∀ σ H Q, t' σ H Q → t σ H Q) : PW X e t' := ⟨fun w pins s σ H Q I q => h.run w pins s σ H Q I (i σ H Q q)⟩
theorem PA_imp {X : Cx} {e : List Expr} {t t' : TA} (h : PA X e t) (i : ∀ σ H Q, t' σ H Q → t σ H Q) : PA X e t' := ⟨fun p pins s σ H Q I q => h.run p pins s σ H Q I (i σ H Q q)⟩

/-! ### a new list is locked, or the store shows it -/
/-- the end Q, where a list or a dict just made may be locked first -/
def FzQ (Q : VK) (v : V) (H : Hp) : Prop := Q v H ∨ (∃ a xs, v = .ref a ∧ H a = some (.lst xs) ∧ ∀ o, Q v (upd H a (.frz o (.lst xs)))) ∨ (∃ a xs, v = .ref a ∧ H a = some (.dK xs) ∧ ∀ o, Q v (upd H a (.frz o (.dK xs))))
def tFz (te : TE) : TE := fun σ H Q => te σ H (FzQ Q)
theorem Inv.frz {X : Cx} {pins : List (Addr × Obj)} {σ : L2.St} {H : Hp} {s : Shared} {a : Addr} {u : HO} (I : Inv X pins σ H s) (h : H a = some u) (nt : ∀ xs, u ≠ .tup xs) (nf : ∀ o w, u ≠ .frz o w) (nb : ∀ ps, u ≠ .tbl ps) (no : ∀ x, u ≠ .own x) (ho : ∃ o, s.heap.get? a = some o) :
    ∃ o, Inv X pins σ (upd H a (.frz o u)) s := by
  have hok := I.hok a u h
  obtain ⟨o, ho⟩ := ho
  refine ⟨o, ?_⟩
  have un : Un X.fs [] H (upd H a (.frz o u)) s.heap s.heap := by
    refine ⟨fun b ob q _ _ _ => q, fun b ob q _ _ _ => ⟨ob.slots, q⟩, fun b ob q n _ => ?_, fun b ob q _ => ⟨ob, q⟩, fun b xs e => ?_, fun b ob w e => ?_, fun b ps e => ?_⟩
    · rw [upd_ne (fun z => by subst z; rw [h] at n; cases n)]; exact n
    · rw [upd_ne (fun z => by subst z; rw [h] at e; cases e; exact nt _ rfl)]; exact e
    · rw [upd_ne (fun z => by subst z; rw [h] at e; cases e; exact nf _ _ rfl)]; exact e
    · exact ⟨#[], by rw [upd_ne (fun z => by subst z; rw [h] at e; cases e; exact nb _ rfl), e]; simp⟩
  have hk : HOk X.prog X.w (upd H a (.frz o u)) s.heap := fun b w e => by
    by_cases hb : b = a
    · subst hb
      rw [upd_same] at e
      cases e
      refine ⟨ho, hok.stay (fun _ _ _ q => q) (fun c q => ?_) fun c xs q => ?_⟩
      · rw [upd_ne (fun z => by subst z; rw [h] at q; cases q; exact no _ rfl)]; exact q
      · rw [upd_ne (fun z => by subst z; rw [h] at q; cases q; exact nt _ rfl)]; exact q
    · rw [upd_ne hb] at e
      refine (I.hok b w e).stay (fun _ _ _ q => q) (fun c q => ?_) fun c xs q => ?_
      · rw [upd_ne (fun z => by subst z; rw [h] at q; cases q; exact no _ rfl)]; exact q
      · rw [upd_ne (fun z => by subst z; rw [h] at q; cases q; exact nt _ rfl)]; exact q
  exact I.un (t' := s.toks) un hk
theorem pe_fz {X : Cx} {e : Expr} {te : TE} (he : PE X e te) : PE X e (tFz te) := by
  refine ⟨fun pins s σ H Q I h => thn (he.run pins s σ H _ I h) fun u s1 ⟨v, H1, I1, r1, q1⟩ => ?_⟩
  rcases q1 with q1 | ⟨a, xs, e1, ha, q1⟩ | ⟨a, xs, e1, ha, q1⟩
  · exact ⟨v, H1, I1, r1, q1⟩
  · obtain ⟨o, J⟩ := Inv.frz I1 ha (fun _ => nofun) (fun _ _ => nofun) (fun _ => nofun) (fun _ => nofun) (by obtain ⟨_, its, n, _, e⟩ := I1.hok a _ ha; exact ⟨_, e⟩)
    exact ⟨v, _, J, r1, q1 o⟩
  · obtain ⟨o, J⟩ := Inv.frz I1 ha (fun _ => nofun) (fun _ _ => nofun) (fun _ => nofun) (fun _ => nofun) (by obtain ⟨_, _, vs, _, o, _, _, e, _⟩ := I1.hok a _ ha; exact ⟨o, e⟩)
    exact ⟨v, _, J, r1, q1 o⟩

/-- how a new list is kept -/
abbrev MkT := List D → Store → Post → Prop
def mkF : MkT := fun ds S Q => Q (.lst ds) S
def mkM : MkT := fun ds S Q => ∀ a, S a = none → Q (.ref a) (S.set a (.lst ds))
def MkOk (K : PySem.W.Frag) (mk : MkT) : Prop := ∀ S H ds xs p Qd Q, SRel K S H → H p = none → Rels K H ds xs → mk ds S Qd → LQ K S H Qd Q → FzQ Q (.ref p) (upd H p (.lst xs))
theorem new_tup {K : PySem.W.Frag} {S : Store} {H : Hp} {ds : List D} {xs : List V} {p : Addr} {Qd : Post} {Q : VK} (r : SRel K S H) (hp : H p = none) (rs : Rels K H ds xs) (q : Qd (.tup ds) S) (l : LQ K S H Qd Q) : Q (.ref p) (upd H p (.tup xs)) :=
  l (.tup ds) S _ _ (evo_new hp) (r.upd_new hp) ⟨p, xs, rfl, SqT.of upd_same, Rels.imm (upd_imm hp) _ _ rs⟩ q
theorem mkF_ok (K : PySem.W.Frag) : MkOk K mkF := by
  intro S H ds xs p Qd Q r hp rs q l
  refine .inr (.inl ⟨p, xs, rfl, upd_same, fun o => ?_⟩)
  rw [upd_upd]
  exact l (.lst ds) S _ _ (evo_new hp) (r.upd_new hp) ⟨p, xs, rfl, ⟨o, upd_same⟩, Rels.imm (upd_imm hp) _ _ rs⟩ q
theorem mkM_ok (K : PySem.W.Frag) : MkOk K mkM := by
  intro S H ds xs p Qd Q r hp rs q l
  exact .inl (l (.ref p) (S.set p (.lst ds)) _ _ (evo_newS hp) (r.newS hp ⟨xs, upd_same, Rels.imm (upd_imm hp) _ _ rs⟩) rfl (q p (r.free hp)))
/-- how a new dict is kept -/
abbrev MkDT := List Key → List D → Store → Post → Prop
def mkDF : MkDT := fun ks ds S Q => Q (.dct ks ds) S
def mkDM : MkDT := fun ks ds S Q => ∀ a, S a = none → Q (.ref a) (S.set a (.dct ks ds))
def MkDOk (K : PySem.W.Frag) (mk : MkDT) : Prop := ∀ S H ks ds xs p Qd Q, SRel K S H → H p = none → ks.length = ds.length → Rels K H ds xs → mk ks ds S Qd → LQ K S H Qd Q → FzQ Q (.ref p) (upd H p (.dK (ks.zip xs)))
theorem mkDF_ok (K : PySem.W.Frag) : MkDOk K mkDF := by
  intro S H ks ds xs p Qd Q r hp hl rs q l
  refine .inr (.inr ⟨p, _, rfl, upd_same, fun o => ?_⟩)
  rw [upd_upd]
  exact l (.dct ks ds) S _ _ (evo_new hp) (r.upd_new hp) ⟨p, xs, rfl, ⟨o, upd_same⟩, hl, Rels.imm (upd_imm hp) _ _ rs⟩ q
theorem mkDM_ok (K : PySem.W.Frag) : MkDOk K mkDM := by
  intro S H ks ds xs p Qd Q r hp hl rs q l
  exact .inl (l (.ref p) (S.set p (.dct ks ds)) _ _ (evo_newS hp) (r.newS hp ⟨xs, upd_same, hl, Rels.imm (upd_imm hp) _ _ rs⟩) rfl (q p (r.free hp)))

/-! ### names, constants -/
def evC (d : D) : ET := fun _ S Q _ => Q d S
def evV (i : Nat) : ET := fun ρ S Q _ => match lk ρ i with
  | some d => Q d S
  | none => False
section
variable {X : Cx} {W : WX} {pos : Pos}
theorem e_var {i : Nat} {x : Str} (h : PE X (.Name x pos) (tVar i)) : PE X (.Name x pos) (rdE X.K W (evV i)) := by
  refine PE_imp h fun σ H Q ⟨ρ, S, Qd, Ed, hρ, hS, hf, lq, _⟩ => ?_
  unfold evV at hf
  split at hf
  · rename_i d e
    obtain ⟨v, a, b⟩ := hρ.get e
    exact ⟨v, a, lq _ _ _ _ (Evo.refl _ _) hS b hf⟩
  · exact hf.elim
theorem e_const {e : Expr} {v : V} {d : D} (h : PE X e (tC v)) (r : ∀ H, Rel X.K H d v) : PE X e (rdE X.K W (evC d)) := by
  refine PE_imp h fun σ H Q ⟨ρ, S, Qd, Ed, hρ, hS, hf, lq, _⟩ => lq _ _ _ _ (Evo.refl _ _) hS (r H) hf
theorem e_int {i j} : PE X (.Constant (.int i) j pos) (rdE X.K W (evC (.int i))) := e_const pe_int fun _ => rfl
theorem e_bl {b j} : PE X (.Constant (.bool b) j pos) (rdE X.K W (evC (.bl b))) := e_const pe_bl fun _ => rfl
theorem e_non {j} : PE X (.Constant .none j pos) (rdE X.K W (evC .non)) := e_const pe_non fun _ => rfl
theorem e_str {x j} : PE X (.Constant (.str x) j pos) (rdE X.K W (evC (.str x))) := e_const pe_str fun _ => rfl
end

/-! ### arguments, displays -/
def aNil : EA := fun _ S Q _ => Q [] S
def aCons (f : ET) (g : EA) : EA := fun ρ S Q E => f ρ S (fun d S1 => g ρ S1 (fun ds S2 => Q (d :: ds) S2) E) E
def evTup (g : EA) : ET := fun ρ S Q E => g ρ S (fun ds S1 => Q (.tup ds) S1) E
def evLst (mk : MkT) (g : EA) : ET := fun ρ S Q E => g ρ S (fun ds S1 => mk ds S1 Q) E
section
variable {X : Cx} {W : WX} {pos : Pos} {e : Expr} {es : List Expr} {f : ET} {g : EA} {n : Nat}
theorem a_nil : PA X [] (rdA X.K W 0 aNil) := PA_imp pa_nil fun σ H Q ⟨ρ, S, Qd, Ed, hρ, hS, hf, lq, _⟩ => lq [] S [] H (Evo.refl _ _) hS rfl rfl hf
theorem a_cons (he : PE X e (rdE X.K W f)) (hr : PA X es (rdA X.K W n g)) (hs : starEach (e :: es) X.env = (false, eval e X.env) :: starEach es X.env := by rfl) : PA X (e :: es) (rdA X.K W (n + 1) (aCons f g)) := by
  refine PA_imp (pa_cons he hr hs) fun σ H Q ⟨ρ, S, Qd, Ed, hρ, hS, hf, lq, lx⟩ => ?_
  refine ⟨ρ, S, _, Ed, hρ, hS, hf, fun d S1 v H1 e1 r1 q1 h1 => ?_, lx⟩
  refine ⟨ρ, S1, _, Ed, hρ.imm (e1.imm hS), r1, h1, fun ds S2 vs H2 e2 r2 q2 hl h2 => ?_, lx.mono e1⟩
  exact lq (d :: ds) S2 _ H2 (e1.trans e2) r2 ⟨v, vs, rfl, Rel.imm (e2.imm r1) _ _ q1, q2⟩ (by simp [hl]) h2
theorem le_line {n : Nat} (h : n ≤ 1000) : n ≤ sizeLine := Nat.le_of_lt (small1000 h)
theorem e_tup {x1} (h : PA X es (rdA X.K W n g)) (hn : n ≤ 1000 := by decide) : PE X (.Tuple es x1 pos) (rdE X.K W (evTup g)) := by
  refine PE_imp (pe_tup h) fun σ H Q ⟨ρ, S, Qd, Ed, hρ, hS, hf, lq, lx⟩ => ?_
  refine ⟨ρ, S, _, Ed, hρ, hS, hf, fun ds S1 vs H1 e1 r1 q1 hl h1 => ⟨?_, fun p hp => new_tup r1 hp q1 h1 (lq.mono e1)⟩, lx⟩
  rw [← q1.length, hl]
  exact le_line hn
theorem e_lst {mk : MkT} (hm : MkOk X.K mk) (h : PA X es (rdA X.K W n g)) (hn : n ≤ 1000 := by decide) : PE X (.List es pos) (rdE X.K W (evLst mk g)) := by
  refine PE_imp (pe_fz (pe_lst h)) fun σ H Q ⟨ρ, S, Qd, Ed, hρ, hS, hf, lq, lx⟩ => ?_
  refine ⟨ρ, S, _, Ed, hρ, hS, hf, fun ds S1 vs H1 e1 r1 q1 hl h1 => ⟨?_, fun p hp => hm _ _ _ _ _ _ _ r1 hp q1 h1 (lq.mono e1)⟩, lx⟩
  rw [← q1.length, hl]
  exact le_line hn
end

/-! ### operators -/
abbrev G2 := D → D → Store → Post → Prop
def OpD (K : PySem.W.Frag) (r : R2) (g : G2) : Prop := ∀ x y S H dx dy Qd Q, SRel K S H → Rel K H dx x → Rel K H dy y → g dx dy S Qd → LQ K S H Qd Q → r x y H (FzQ Q)
def bin (g : G2) (fa fb : ET) : ET := fun ρ S Q E => fa ρ S (fun x S1 => fb ρ S1 (fun y S2 => g x y S2 Q) E) E
section
variable {X : Cx} {W : WX} {pos : Pos} {a b : Expr} {fa fb : ET} {g : G2} {r : R2}
theorem bin_rd (hg : OpD X.K r g) (σ : L2.St) (H : Hp) (Q : VK) (h : rdE X.K W (bin g fa fb) σ H Q) : tFz (tOp r (rdE X.K W fa) (rdE X.K W fb)) σ H Q := by
  obtain ⟨ρ, S, Qd, Ed, hρ, hS, hf, lq, lx⟩ := h
  refine ⟨ρ, S, _, Ed, hρ, hS, hf, fun d1 S1 v1 H1 e1 r1 q1 h1 => ?_, lx⟩
  refine ⟨ρ, S1, _, Ed, hρ.imm (e1.imm hS), r1, h1, fun d2 S2 v2 H2 e2 r2 q2 h2 => ?_, lx.mono e1⟩
  exact hg _ _ _ _ _ _ _ _ r2 (Rel.imm (e2.imm r1) _ _ q1) q2 h2 (lq.mono (e1.trans e2))
theorem e_op {op : Operator} (ho : OpR X (binaryOp op) r) (hg : OpD X.K r g) (ha : PE X a (rdE X.K W fa)) (hb : PE X b (rdE X.K W fb)) : PE X (.BinOp a op b pos) (rdE X.K W (bin g fa fb)) :=
  PE_imp (pe_fz (pe_op ho ha hb)) (bin_rd hg)
theorem e_cmp {op : CmpOp} (ho : OpR X (compareOp op) r) (hg : OpD X.K r g) (ha : PE X a (rdE X.K W fa)) (hb : PE X b (rdE X.K W fb)) (hm : behindInMarks op b = false := by first | exact nomark _ | rfl | with_unfolding_all rfl) : PE X (.Compare a [op] [b] pos) (rdE X.K W (bin g fa fb)) :=
  PE_imp (pe_fz (pe_cmpR ho ha hb hm)) (bin_rd hg)
theorem e_ix (ho : IxR X r) (hg : OpD X.K r g) (ha : PE X a (rdE X.K W fa)) (hb : PE X b (rdE X.K W fb)) (hs : PlainIx b := by exact fun _ _ => rfl) : PE X (.Subscript a b pos) (rdE X.K W (bin g fa fb)) :=
  PE_imp (pe_fz (pe_ix ho ha hb hs)) (bin_rd hg)
end
abbrev G1 := D → Store → Post → Prop
def UnD (K : PySem.W.Frag) (r : V → Hp → VK → Prop) (g : G1) : Prop := ∀ x S H dx Qd Q, SRel K S H → Rel K H dx x → g dx S Qd → LQ K S H Qd Q → r x H Q
def una (g : G1) (fa : ET) : ET := fun ρ S Q E => fa ρ S (fun x S1 => g x S1 Q) E
section
variable {X : Cx} {W : WX} {pos : Pos} {a : Expr} {fa : ET} {g : G1} {r : V → Hp → VK → Prop}
theorem e_un {op : UnaryOp} (ho : UnR X (unaryOp op) r) (hg : UnD X.K r g) (ha : PE X a (rdE X.K W fa)) : PE X (.UnaryOp op a pos) (rdE X.K W (una g fa)) := by
  refine PE_imp (pe_un ho ha) fun σ H Q ⟨ρ, S, Qd, Ed, hρ, hS, hf, lq, lx⟩ => ?_
  exact ⟨ρ, S, _, Ed, hρ, hS, hf, fun d1 S1 v1 H1 e1 r1 q1 h1 => hg _ _ _ _ _ _ r1 q1 h1 (lq.mono e1), lx⟩
end

/-! ### tests -/
/-- truth; a tracked object of the store by what it holds -/
def tru : D → Store → Option Bool
  | .non, _ => some false
  | .bl b, _ => some b
  | .int i, _ => some (i != 0)
  | .tup xs, _ => some (!xs.isEmpty)
  | .lst xs, _ => some (!xs.isEmpty)
  | .kls xs, _ => some (!xs.isEmpty)
  | .ref a, S => match S a with
    | some (.lst xs) => some (!xs.isEmpty)
    | some (.dct ks _) => some (!ks.isEmpty)
    | _ => none
  | _, _ => none
theorem isEmpty_rels {K : PySem.W.Frag} {H : Hp} {ds : List D} {xs : List V} (r : Rels K H ds xs) : ds.isEmpty = xs.isEmpty := by
  have := r.length
  cases ds <;> cases xs <;> simp_all
theorem tru_rel {K : PySem.W.Frag} {S : Store} {H : Hp} {d : D} {v : V} {b : Bool} (hS : SRel K S H) (r : Rel K H d v) (h : tru d S = some b) : TruV K v H b := by
  cases d with
  | non => cases h; have e : v = _ := r; subst e; rfl
  | bl b => cases h; have e : v = _ := r; subst e; rfl
  | int i => cases h; have e : v = _ := r; subst e; rfl
  | str x => cases h
  | ty n => cases h
  | exn c a ks xs => cases h
  | dct ks xs => cases h
  | tup ds => cases h; obtain ⟨a, xs, rfl, hq, rs⟩ := r; exact .inr (.inl ⟨xs, hq, by rw [isEmpty_rels rs]⟩)
  | kls ds => cases h; obtain ⟨a, xs, rfl, hq, rs⟩ := r; exact .inl ⟨xs, hq.seq, by rw [isEmpty_rels rs]⟩
  | lst ds => cases h; obtain ⟨a, xs, rfl, hq, rs⟩ := r; exact .inl ⟨xs, hq.seq, by rw [isEmpty_rels rs]⟩
  | ref a =>
    have e : v = _ := r
    subst e
    unfold tru at h
    dsimp only at h
    split at h
    · rename_i xs q
      cases h
      obtain ⟨ys, e, rs⟩ := hS _ _ q
      exact .inl ⟨ys, SqL.of e, by rw [isEmpty_rels rs]⟩
    · rename_i ks xs q
      cases h
      obtain ⟨ys, e, hl, rs⟩ := hS _ _ q
      refine .inr (.inr ⟨_, e, ?_⟩)
      have := rs.length
      cases ks <;> cases ys <;> simp_all
    · cases h
def bV (f : ET) : EB := fun ρ S Q E => f ρ S (fun d S1 => match tru d S1 with | some b => Q b S1 | none => False) E
def bAnd (f g : EB) : EB := fun ρ S Q E => f ρ S (fun b S1 => if b = true then g ρ S1 Q E else Q false S1) E
def bOr (f g : EB) : EB := fun ρ S Q E => f ρ S (fun b S1 => if b = true then Q true S1 else g ρ S1 Q E) E
def bNot (f : EB) : EB := fun ρ S Q E => f ρ S (fun b S1 => Q (!b) S1) E
section
variable {X : Cx} {W : WX} {pos : Pos} {a b c : Expr} {rest : List Expr} {fa fb fc : ET} {ga gb : EB} {g g' : G2} {r r' : R2}
theorem t_val (ha : PE X a (rdE X.K W fa)) (he : ∀ whole, isTrue a X.env whole = (do let v ← whole; standAt a.pos; holding [v] (truthy v)) := by exact fun _ => rfl) : PT X a (rdB X.K W (bV fa)) := by
  refine PT_imp (pt_truth ha he) fun σ H Q ⟨ρ, S, Qd, Ed, hρ, hS, hf, lq, lx⟩ => ?_
  refine ⟨ρ, S, _, Ed, hρ, hS, hf, fun d1 S1 v1 H1 e1 r1 q1 h1 => ?_, lx⟩
  dsimp only at h1
  split at h1
  · rename_i b hb
    exact ⟨b, tru_rel r1 q1 hb, lq b S1 H1 e1 r1 h1⟩
  · exact h1.elim
/-- a comparison as a test: its value is a bool -/
def bB (f : ET) : EB := fun ρ S Q E => f ρ S (fun d S1 => match d with | .bl b => Q b S1 | _ => False) E
def Bools (r : R2) : Prop := ∀ x y H Q, r x y H (FzQ Q) → r x y H Q
theorem t_cmp {op : CmpOp} (ho : OpR X (compareOp op) r) (hg : OpD X.K r g) (hz : Bools r) (ha : PE X a (rdE X.K W fa)) (hb : PE X b (rdE X.K W fb)) (hm : behindInMarks op b = false := by first | exact nomark _ | rfl | with_unfolding_all rfl) : PT X (.Compare a [op] [b] pos) (rdB X.K W (bB (bin g fa fb))) := by
  refine PT_imp (pt_cmpR ho ha hb hm) fun σ H Q ⟨ρ, S, Qd, Ed, hρ, hS, hf, lq, lx⟩ => ?_
  refine ⟨ρ, S, _, Ed, hρ, hS, hf, fun d1 S1 v1 H1 e1 r1 q1 h1 => ?_, lx⟩
  refine ⟨ρ, S1, _, Ed, hρ.imm (e1.imm hS), r1, h1, fun d2 S2 v2 H2 e2 r2 q2 h2 => ?_, lx.mono e1⟩
  refine hz _ _ _ _ (hg _ _ _ _ _ _ _ _ r2 (Rel.imm (e2.imm r1) _ _ q1) q2 h2 fun d3 S3 v3 H3 e3 r3 q3 h3 => ?_)
  cases d3 with
  | bl k => exact ⟨k, q3, lq k S3 H3 ((e1.trans e2).trans e3) r3 h3⟩
  | _ => exact h3.elim
theorem t_not (ha : PT X a (rdB X.K W ga)) : PT X (.UnaryOp .Not a pos) (rdB X.K W (bNot ga)) :=
  PT_imp (pt_not ha) fun σ H Q ⟨ρ, S, Qd, Ed, hρ, hS, hf, lq, lx⟩ => ⟨ρ, S, _, Ed, hρ, hS, hf, fun b S1 H1 e1 r1 h1 => lq _ _ _ e1 r1 h1, lx⟩
theorem w_and1 (ha : PT X a (rdB X.K W ga)) : PW X (.BoolOp .And [a] pos) (rdB X.K W ga) := pw_and1 ha
theorem w_or1 (ha : PT X a (rdB X.K W ga)) : PW X (.BoolOp .Or [a] pos) (rdB X.K W ga) := pw_or1 ha
theorem w_and (ha : PT X a (rdB X.K W ga)) (hb : PW X (.BoolOp .And (b :: rest) pos) (rdB X.K W gb)) : PW X (.BoolOp .And (a :: b :: rest) pos) (rdB X.K W (bAnd ga gb)) := by
  refine PW_imp (pw_and ha hb) fun σ H Q ⟨ρ, S, Qd, Ed, hρ, hS, hf, lq, lx⟩ => ?_
  refine ⟨ρ, S, _, Ed, hρ, hS, hf, fun b S1 H1 e1 r1 h1 => ?_, lx⟩
  cases b with
  | true => rw [if_pos rfl] at h1 ⊢; exact ⟨ρ, S1, _, Ed, hρ.imm (e1.imm hS), r1, h1, lq.mono e1, lx.mono e1⟩
  | false => rw [if_neg (nofun : ¬ false = true)] at h1 ⊢; exact lq _ _ _ e1 r1 h1
theorem w_or (ha : PT X a (rdB X.K W ga)) (hb : PW X (.BoolOp .Or (b :: rest) pos) (rdB X.K W gb)) : PW X (.BoolOp .Or (a :: b :: rest) pos) (rdB X.K W (bOr ga gb)) := by
  refine PW_imp (pw_or ha hb) fun σ H Q ⟨ρ, S, Qd, Ed, hρ, hS, hf, lq, lx⟩ => ?_
  refine ⟨ρ, S, _, Ed, hρ, hS, hf, fun b S1 H1 e1 r1 h1 => ?_, lx⟩
  cases b with
  | true => rw [if_pos rfl] at h1 ⊢; exact lq _ _ _ e1 r1 h1
  | false => rw [if_neg (nofun : ¬ false = true)] at h1 ⊢; exact ⟨ρ, S1, _, Ed, hρ.imm (e1.imm hS), r1, h1, lq.mono e1, lx.mono e1⟩
theorem w_pt (h : PW X a (rdB X.K W ga)) : PT X a (rdB X.K W ga) := h.pt
/-! chains -/
def chn (g g' : G2) (fa fb fc : ET) : ET := fun ρ S Q E => fa ρ S (fun x S1 => fb ρ S1 (fun y S2 => g x y S2 fun z S3 => match z with
  | .bl true => fc ρ S3 (fun u S4 => g' y u S4 Q) E
  | .bl false => Q (.bl false) S3
  | _ => False) E) E
theorem chn_rd (hg : OpD X.K r g) (hg' : OpD X.K r' g') (hz : Bools r) (hz' : Bools r') (σ : L2.St) (H : Hp) (Q : VK) (h : rdE X.K W (chn g g' fa fb fc) σ H Q) : tChain r r' (rdE X.K W fa) (rdE X.K W fb) (rdE X.K W fc) σ H Q := by
  obtain ⟨ρ, S, Qd, Ed, hρ, hS, hf, lq, lx⟩ := h
  refine ⟨ρ, S, _, Ed, hρ, hS, hf, fun d1 S1 v1 H1 e1 r1 q1 h1 => ?_, lx⟩
  refine ⟨ρ, S1, _, Ed, hρ.imm (e1.imm hS), r1, h1, fun d2 S2 v2 H2 e2 r2 q2 h2 => ?_, lx.mono e1⟩
  have e12 := e1.trans e2
  refine hz _ _ _ _ (hg _ _ _ _ _ _ _ _ r2 (Rel.imm (e2.imm r1) _ _ q1) q2 h2 fun d3 S3 v3 H3 e3 r3 q3 h3 => ?_)
  have e13 := e12.trans e3
  split at h3
  · have e : v3 = _ := q3
    subst e
    refine ⟨true, rfl, ?_⟩
    rw [if_pos rfl]
    refine ⟨ρ, S3, _, Ed, hρ.imm (e13.imm hS), r3, h3, fun d4 S4 v4 H4 e4 r4 q4 h4 => ?_, lx.mono e13⟩
    exact hz' _ _ _ _ (hg' _ _ _ _ _ _ _ _ r4 (Rel.imm ((e3.trans e4).imm r2) _ _ q2) q4 h4 (lq.mono (e13.trans e4)))
  · have e : v3 = _ := q3
    subst e
    refine ⟨false, rfl, ?_⟩
    rw [if_neg (nofun : ¬ false = true)]
    exact lq (.bl false) _ _ _ e13 r3 rfl h3
  · exact h3.elim
theorem e_chain {op op' : CmpOp} (ho : OpR X (compareOp op) r) (ho' : OpR X (compareOp op') r') (hg : OpD X.K r g) (hg' : OpD X.K r' g') (hz : Bools r) (hz' : Bools r')
    (ha : PE X a (rdE X.K W fa)) (hb : PE X b (rdE X.K W fb)) (hc : PE X c (rdE X.K W fc)) (hm : lastMarks [op, op'] [b, c] = false := by with_unfolding_all rfl) : PE X (.Compare a [op, op'] [b, c] pos) (rdE X.K W (chn g g' fa fb fc)) :=
  PE_imp (pe_chain ho ho' ha hb hc hm) (chn_rd hg hg' hz hz')
theorem t_chain {op op' : CmpOp} (ho : OpR X (compareOp op) r) (ho' : OpR X (compareOp op') r') (hg : OpD X.K r g) (hg' : OpD X.K r' g') (hz : Bools r) (hz' : Bools r')
    (ha : PE X a (rdE X.K W fa)) (hb : PE X b (rdE X.K W fb)) (hc : PE X c (rdE X.K W fc)) (hm : lastMarks [op, op'] [b, c] = false := by with_unfolding_all rfl) : PT X (.Compare a [op, op'] [b, c] pos) (rdB X.K W (bB (chn g g' fa fb fc))) := by
  refine PT_imp (pt_chain ho ho' ha hb hc hm) fun σ H Q ⟨ρ, S, Qd, Ed, hρ, hS, hf, lq, lx⟩ => ?_
  refine chn_rd hg hg' hz hz' σ H _ ⟨ρ, S, _, Ed, hρ, hS, hf, fun d1 S1 v1 H1 e1 r1 q1 h1 => ?_, lx⟩
  cases d1 with
  | bl k => exact ⟨k, q1, lq k S1 H1 e1 r1 h1⟩
  | _ => exact h1.elim
end

/-! ### and, or, not as values; a if t else b -/
def eAnd (fa fb : ET) : ET := fun ρ S Q E => fa ρ S (fun d S1 => match tru d S1 with
  | some true => fb ρ S1 Q E
  | some false => Q d S1
  | none => False) E
def eOr (fa fb : ET) : ET := fun ρ S Q E => fa ρ S (fun d S1 => match tru d S1 with
  | some true => Q d S1
  | some false => fb ρ S1 Q E
  | none => False) E
def eNot (fa : ET) : ET := fun ρ S Q E => fa ρ S (fun d S1 => match tru d S1 with
  | some b => Q (.bl (!b)) S1
  | none => False) E
def eIf (t : EB) (fa fb : ET) : ET := fun ρ S Q E => t ρ S (fun b S1 => if b = true then fa ρ S1 Q E else fb ρ S1 Q E) E
section
variable {X : Cx} {W : WX} {pos : Pos} {a b c : Expr} {rest : List Expr} {fa fb fc : ET} {ga gb : EB}
theorem e_one {op} (h : PE X a (rdE X.K W fa)) : PE X (.BoolOp op [a] pos) (rdE X.K W fa) := pe_one h
theorem e_and (ha : PE X a (rdE X.K W fa)) (hb : PE X (.BoolOp .And (b :: rest) pos) (rdE X.K W fb)) : PE X (.BoolOp .And (a :: b :: rest) pos) (rdE X.K W (eAnd fa fb)) := by
  refine PE_imp (pe_andT ha hb) fun σ H Q ⟨ρ, S, Qd, Ed, hρ, hS, hf, lq, lx⟩ => ?_
  refine ⟨ρ, S, _, Ed, hρ, hS, hf, fun d1 S1 v1 H1 e1 r1 q1 h1 => ?_, lx⟩
  dsimp only at h1
  split at h1
  · rename_i e
    exact ⟨true, tru_rel r1 q1 e, by rw [if_pos rfl]; exact ⟨ρ, S1, _, Ed, hρ.imm (e1.imm hS), r1, h1, lq.mono e1, lx.mono e1⟩⟩
  · rename_i e
    exact ⟨false, tru_rel r1 q1 e, by rw [if_neg (nofun : ¬ false = true)]; exact lq _ _ _ _ e1 r1 q1 h1⟩
  · exact h1.elim
theorem e_or (ha : PE X a (rdE X.K W fa)) (hb : PE X (.BoolOp .Or (b :: rest) pos) (rdE X.K W fb)) : PE X (.BoolOp .Or (a :: b :: rest) pos) (rdE X.K W (eOr fa fb)) := by
  refine PE_imp (pe_orT ha hb) fun σ H Q ⟨ρ, S, Qd, Ed, hρ, hS, hf, lq, lx⟩ => ?_
  refine ⟨ρ, S, _, Ed, hρ, hS, hf, fun d1 S1 v1 H1 e1 r1 q1 h1 => ?_, lx⟩
  dsimp only at h1
  split at h1
  · rename_i e
    exact ⟨true, tru_rel r1 q1 e, by rw [if_pos rfl]; exact lq _ _ _ _ e1 r1 q1 h1⟩
  · rename_i e
    exact ⟨false, tru_rel r1 q1 e, by rw [if_neg (nofun : ¬ false = true)]; exact ⟨ρ, S1, _, Ed, hρ.imm (e1.imm hS), r1, h1, lq.mono e1, lx.mono e1⟩⟩
  · exact h1.elim
theorem e_not (ha : PE X a (rdE X.K W fa)) : PE X (.UnaryOp .Not a pos) (rdE X.K W (eNot fa)) := by
  refine PE_imp (pe_notT ha) fun σ H Q ⟨ρ, S, Qd, Ed, hρ, hS, hf, lq, lx⟩ => ?_
  refine ⟨ρ, S, _, Ed, hρ, hS, hf, fun d1 S1 v1 H1 e1 r1 q1 h1 => ?_, lx⟩
  dsimp only at h1
  split at h1
  · rename_i b e
    exact ⟨b, tru_rel r1 q1 e, lq (.bl (!b)) _ _ _ e1 r1 rfl h1⟩
  · exact h1.elim
theorem e_if (hc : PT X c (rdB X.K W ga)) (ha : PE X a (rdE X.K W fa)) (hb : PE X b (rdE X.K W fb)) : PE X (.IfExp c a b pos) (rdE X.K W (eIf ga fa fb)) := by
  refine PE_imp (pe_ifExp hc ha hb) fun σ H Q ⟨ρ, S, Qd, Ed, hρ, hS, hf, lq, lx⟩ => ?_
  refine ⟨ρ, S, _, Ed, hρ, hS, hf, fun b S1 H1 e1 r1 h1 => ?_, lx⟩
  cases b with
  | true => rw [if_pos rfl] at h1 ⊢; exact ⟨ρ, S1, _, Ed, hρ.imm (e1.imm hS), r1, h1, lq.mono e1, lx.mono e1⟩
  | false => rw [if_neg (nofun : ¬ false = true)] at h1 ⊢; exact ⟨ρ, S1, _, Ed, hρ.imm (e1.imm hS), r1, h1, lq.mono e1, lx.mono e1⟩
end
end MP

set_option Elab.async false
set_option linter.all false
set_option maxRecDepth 100000
/-! MPStmt: the readings of statements over data; loops, comprehensions; a def's promise. -/
namespace MP
open PySem PyProof.Rows PySem.Spec L2

structure DEnds where
  nx : Env → Store → Prop
  rt : Post
  ex : Exn → Env → Store → Prop
  bk : Env → Store → Prop := fun _ _ => False
  ct : Env → Store → Prop := fun _ _ => False
abbrev ST := Env → Store → DEnds → Prop
section
variable (K : PySem.W.Frag)
structure LN (S : Store) (H : Hp) (N : DEnds) (W : WX) (D : Ends) : Prop where
  nx : ∀ ρ' S' σ' H', Evo S H S' H' → SRel K S' H' → EnvR K H' ρ' σ' → N.nx ρ' S' → D.nx σ' H'
  rt : LQ K S H N.rt D.rt
  ex : ∀ x ρ' S' c dd σ' H', Evo S H S' H' → SRel K S' H' → EnvR K H' ρ' σ' → ExnR K H' x c dd → N.ex x ρ' S' → W c dd σ' H'
  bk : ∀ ρ' S' σ' H', Evo S H S' H' → SRel K S' H' → EnvR K H' ρ' σ' → N.bk ρ' S' → D.bk σ' H'
  ct : ∀ ρ' S' σ' H', Evo S H S' H' → SRel K S' H' → EnvR K H' ρ' σ' → N.ct ρ' S' → D.ct σ' H'
def rdS (W : WX) (g : ST) : TS := fun D σ H => ∃ ρ S N, EnvR K H ρ σ ∧ SRel K S H ∧ g ρ S N ∧ LN K S H N W D
end
section
variable {K : PySem.W.Frag} {S S1 : Store} {H H1 : Hp} {N : DEnds} {W : WX} {D : Ends}
theorem LN.mono (l : LN K S H N W D) (e : Evo S H S1 H1) : LN K S1 H1 N W D :=
  ⟨fun ρ' S' σ' H' e' => l.nx ρ' S' σ' H' (e.trans e'), l.rt.mono e, fun x ρ' S' c dd σ' H' e' => l.ex x ρ' S' c dd σ' H' (e.trans e'), fun ρ' S' σ' H' e' => l.bk ρ' S' σ' H' (e.trans e'), fun ρ' S' σ' H' e' => l.ct ρ' S' σ' H' (e.trans e')⟩
/-- what an expression's exception leads to -/
theorem LN.lx (l : LN K S H N W D) (hS : SRel K S H) {ρ : Env} {σ : L2.St} (hρ : EnvR K H ρ σ) : LX K S H (fun x S' => N.ex x ρ S') (fun c dd H' => W c dd σ H') :=
  fun x S' c dd H' e r q h => l.ex x ρ S' c dd σ H' e r (hρ.imm (e.imm hS)) q h
end
theorem PS_imp {X : Cx} {s : Stmt} {t t' : TS} (h : PS X s t) (i : ∀ D σ H, t' D σ H → t D σ H) : PS X s t' := ⟨fun pins s σ H D I q => h.run pins s σ H D I (i D σ H q)⟩
theorem PSs_imp {X : Cx} {s : List Stmt} {t t' : TS} (h : PSs X s t) (i : ∀ D σ H, t' D σ H → t D σ H) : PSs X s t' := ⟨fun pins s σ H D I q => h.run pins s σ H D I (i D σ H q)⟩
theorem PG_imp {X : Cx} {e : Expr} {t t' : TG} (h : PG X e t) (i : ∀ v σ H Q, t' v σ H Q → t v σ H Q) : PG X e t' := ⟨fun pins s σ H v u Q I r q => h.run pins s σ H v u Q I r (i v σ H Q q)⟩
theorem PGs_imp {X : Cx} {e : List Expr} {t t' : TGs} (h : PGs X e t) (i : ∀ v σ H Q, t' v σ H Q → t v σ H Q) : PGs X e t' := ⟨fun pins s σ H v u Q I r q => h.run pins s σ H v u Q I r (i v σ H Q q)⟩
theorem PI_imp {X : Cx} {tg e : Expr} {t t' : TI} (h : PI X tg e t) (i : ∀ σ H R, t' σ H R → t σ H R) : PI X tg e t' := ⟨fun pins s σ H R I q => h.run pins s σ H R I (i σ H R q)⟩
theorem PTs_imp {X : Cx} {e : List Expr} {t t' : TT} (h : PTs X e t) (i : ∀ σ H Q, t' σ H Q → t σ H Q) : PTs X e t' := ⟨fun pins s σ H Q I q => h.run pins s σ H Q I (i σ H Q q)⟩

/-! ### blocks, small statements -/
def dNext : ST := fun ρ S N => N.nx ρ S
def dSeq (g h : ST) : ST := fun ρ S N => g ρ S { N with nx := fun ρ' S' => h ρ' S' N }
def dExpr (f : ET) : ST := fun ρ S N => f ρ S (fun _ S' => N.nx ρ S') (fun x S' => N.ex x ρ S')
def dRet (f : ET) : ST := fun ρ S N => f ρ S N.rt (fun x S' => N.ex x ρ S')
def dRetN : ST := fun _ S N => N.rt .non S
def dBrk : ST := fun ρ S N => N.bk ρ S
def dCnt : ST := fun ρ S N => N.ct ρ S
def dIf (t : EB) (g h : ST) : ST := fun ρ S N => t ρ S (fun b S' => if b = true then g ρ S' N else h ρ S' N) (fun x S' => N.ex x ρ S')
section
variable {X : Cx} {W : WX} {pos : Pos} {s : Stmt} {rest : List Stmt} {e : Expr} {f : ET} {g h : ST} {t : EB}
theorem ss_nil : PSs X [] (rdS X.K W dNext) := PSs_imp pss_nil fun D σ H ⟨ρ, S, N, hρ, hS, hf, l⟩ => l.nx ρ S σ H (Evo.refl _ _) hS hρ hf
theorem ss_one (h1 : PS X s (rdS X.K W g)) : PSs X [s] (rdS X.K W g) := pss_one h1
theorem ss_cons (h1 : PS X s (rdS X.K W g)) (h2 : PSs X rest (rdS X.K W h)) : PSs X (s :: rest) (rdS X.K W (dSeq g h)) :=
  PSs_imp (pss_cons h1 h2) fun D σ H ⟨ρ, S, N, hρ, hS, hf, l⟩ =>
    ⟨ρ, S, _, hρ, hS, hf, ⟨fun ρ' S' σ' H' e r q k => ⟨ρ', S', N, q, r, k, l.mono e⟩, l.rt, l.ex, l.bk, l.ct⟩⟩
theorem s_pass : PS X (.Pass pos) (rdS X.K W dNext) := PS_imp ps_pass fun D σ H ⟨ρ, S, N, hρ, hS, hf, l⟩ => l.nx ρ S σ H (Evo.refl _ _) hS hρ hf
theorem s_doc {x j pos'} : PS X (.Expr (.Constant (.str x) j pos) pos') (rdS X.K W dNext) := PS_imp ps_doc fun D σ H ⟨ρ, S, N, hρ, hS, hf, l⟩ => l.nx ρ S σ H (Evo.refl _ _) hS hρ hf
theorem s_break : PS X (.Break pos) (rdS X.K W dBrk) := PS_imp ps_break fun D σ H ⟨ρ, S, N, hρ, hS, hf, l⟩ => l.bk ρ S σ H (Evo.refl _ _) hS hρ hf
theorem s_continue : PS X (.Continue pos) (rdS X.K W dCnt) := PS_imp ps_continue fun D σ H ⟨ρ, S, N, hρ, hS, hf, l⟩ => l.ct ρ S σ H (Evo.refl _ _) hS hρ hf
theorem s_expr (he : PE X e (rdE X.K W f)) (hs : swapsWith e none pos.line X.env = pure false := by rfl) : PS X (.Expr e pos) (rdS X.K W (dExpr f)) :=
  PS_imp (ps_expr he hs) fun D σ H ⟨ρ, S, N, hρ, hS, hf, l⟩ =>
    ⟨ρ, S, _, _, hρ, hS, hf, fun d S' v H' e r q k => l.nx ρ S' σ H' e r (hρ.imm (e.imm hS)) k, l.lx hS hρ⟩
theorem s_ret (he : PE X e (rdE X.K W f)) : PS X (.Return (some e) pos) (rdS X.K W (dRet f)) :=
  PS_imp (ps_ret he) fun D σ H ⟨ρ, S, N, hρ, hS, hf, l⟩ => ⟨ρ, S, _, _, hρ, hS, hf, l.rt, l.lx hS hρ⟩
theorem s_retN : PS X (.Return none pos) (rdS X.K W dRetN) := PS_imp ps_retN fun D σ H ⟨ρ, S, N, hρ, hS, hf, l⟩ => l.rt .non S .non H (Evo.refl _ _) hS rfl hf
theorem s_if {c : Expr} {a b : List Stmt} (hc : PT X c (rdB X.K W t)) (ha : PSs X a (rdS X.K W g)) (hb : PSs X b (rdS X.K W h)) : PS X (.If c a b pos) (rdS X.K W (dIf t g h)) :=
  PS_imp (ps_if hc ha hb) fun D σ H ⟨ρ, S, N, hρ, hS, hf, l⟩ => by
    refine ⟨ρ, S, _, _, hρ, hS, hf, fun b S1 H1 e1 r1 h1 => ?_, l.lx hS hρ⟩
    cases b with
    | true => rw [if_pos rfl] at h1 ⊢; exact ⟨ρ, S1, N, hρ.imm (e1.imm hS), r1, h1, l.mono e1⟩
    | false => rw [if_neg Bool.false_ne_true] at h1 ⊢; exact ⟨ρ, S1, N, hρ.imm (e1.imm hS), r1, h1, l.mono e1⟩
end

/-! ### targets, assignments -/
abbrev DG := D → Env → Store → (Env → Store → Prop) → Prop
abbrev DGs := List D → Env → Store → (Env → Store → Prop) → Prop
def LE (K : PySem.W.Frag) (S : Store) (H : Hp) (Qd : Env → Store → Prop) (Q : L2.St → Hp → Prop) : Prop := ∀ ρ' S' σ' H', Evo S H S' H' → SRel K S' H' → EnvR K H' ρ' σ' → Qd ρ' S' → Q σ' H'
theorem LE.mono {K : PySem.W.Frag} {S S1 : Store} {H H1 : Hp} {Qd : Env → Store → Prop} {Q : L2.St → Hp → Prop} (l : LE K S H Qd Q) (e : Evo S H S1 H1) : LE K S1 H1 Qd Q := fun ρ' S' σ' H' e' => l ρ' S' σ' H' (e.trans e')
def rdG (K : PySem.W.Frag) (g : DG) : TG := fun v σ H Q => ∃ ρ S d Qd, EnvR K H ρ σ ∧ SRel K S H ∧ Rel K H d v ∧ g d ρ S Qd ∧ LE K S H Qd Q
def rdGs (K : PySem.W.Frag) (g : DGs) : TGs := fun vs σ H Q => ∃ ρ S ds Qd, EnvR K H ρ σ ∧ SRel K S H ∧ Rels K H ds vs ∧ g ds ρ S Qd ∧ LE K S H Qd Q
def dgName (i : Nat) : DG := fun d ρ S Q => Q (st ρ i (some d)) S
def dgNil : DGs := fun ds ρ S Q => match ds with
  | [] => Q ρ S
  | _ => False
def dgCons (g : DG) (h : DGs) : DGs := fun ds ρ S Q => match ds with
  | d :: r => g d ρ S fun ρ1 S1 => h r ρ1 S1 Q
  | [] => False
def dgTup (n : Nat) (h : DGs) : DG := fun d ρ S Q => match d with
  | .tup ds => ds.length = n ∧ h ds ρ S Q
  | _ => False
def dAsg (f : ET) (g : DG) : ST := fun ρ S N => f ρ S (fun d S' => g d ρ S' N.nx) (fun x S' => N.ex x ρ S')
def dSet (i : Nat) (f : ET) : ST := fun ρ S N => f ρ S (fun d S' => N.nx (st ρ i (some d)) S') (fun x S' => N.ex x ρ S')
def dPar (i j : Nat) (fa : EA) : ST := fun ρ S N => fa ρ S (fun ds S' => match ds with
  | [x, y] => N.nx (st (st ρ i (some x)) j (some y)) S'
  | _ => False) (fun x S' => N.ex x ρ S')
section
variable {X : Cx} {W : WX} {pos pos' : Pos} {e tg : Expr} {es : List Expr} {f : ET} {fa : EA} {g : DG} {gs : DGs}
theorem g_name {i : Nat} {x : Str} (h : PG X (.Name x pos) (gName i)) : PG X (.Name x pos) (rdG X.K (dgName i)) :=
  PG_imp h fun v σ H Q ⟨ρ, S, d, Qd, hρ, hS, hd, hg, l⟩ => l _ S _ H (Evo.refl _ _) hS (hρ.set hd i) hg
theorem gs_nil : PGs X [] (rdGs X.K dgNil) := PGs_imp pgs_nil fun v σ H Q ⟨ρ, S, ds, Qd, hρ, hS, hd, hg, l⟩ => by
  cases ds with
  | nil => exact ⟨hd, l ρ S σ H (Evo.refl _ _) hS hρ hg⟩
  | cons d r => exact hg.elim
theorem gs_cons (h1 : PG X e (rdG X.K g)) (h2 : PGs X es (rdGs X.K gs)) (hs : (assignEach (e :: es) X.env).map (·.2) = assign e X.env :: (assignEach es X.env).map (·.2) := by rfl) : PGs X (e :: es) (rdGs X.K (dgCons g gs)) :=
  PGs_imp (pgs_cons h1 h2 hs) fun vs σ H Q ⟨ρ, S, ds, Qd, hρ, hS, hd, hg, l⟩ => by
    cases ds with
    | nil => exact hg.elim
    | cons d r =>
      obtain ⟨v, vr, rfl, q1, q2⟩ := hd
      refine ⟨v, vr, rfl, ρ, S, d, _, hρ, hS, q1, hg, fun ρ1 S1 σ1 H1 e1 r1 k1 h1 => ?_⟩
      exact ⟨ρ1, S1, r, Qd, k1, r1, Rels.imm (e1.imm hS) _ _ q2, h1, l.mono e1⟩
theorem g_tup {k : Nat} {n : Nat} (hc : X.calm = true) (h : PGs X es (rdGs X.K gs)) (hn : (assignEach es X.env).length = n := by rfl) (hst : (assignEach es X.env).findIdx? (·.1) = none := by rfl) : PG X (.Tuple es k pos) (rdG X.K (dgTup n gs)) :=
  PG_imp (pg_tup hc h hn hst) fun v σ H Q ⟨ρ, S, d, Qd, hρ, hS, hd, hg, l⟩ => by
    cases d with
    | tup ds =>
      obtain ⟨a, xs, rfl, hq, rs⟩ := hd
      exact ⟨a, xs, rfl, hq, by rw [← rs.length]; exact hg.1, ρ, S, ds, Qd, hρ, hS, rs, hg.2, l⟩
    | _ => exact hg.elim
theorem s_asg (he : PE X e (rdE X.K W f)) (hg : PG X tg (rdG X.K g)) (hSole : swapsWithSole [tg] e pos.line X.env = pure false := by rfl) (hSw : swappedStores [tg] e X.env = pure none := by rfl)
    (h1 : (assignEach [tg] X.env).map (·.2) = [assign tg X.env] := by rfl) : PS X (.Assign [tg] e pos) (rdS X.K W (dAsg f g)) :=
  PS_imp (ps_asg he hg hSole hSw h1) fun D σ H ⟨ρ, S, N, hρ, hS, hf, l⟩ => by
    refine ⟨ρ, S, _, _, hρ, hS, hf, fun d S1 v H1 e1 r1 q1 h1 => ?_, l.lx hS hρ⟩
    exact ⟨ρ, S1, d, N.nx, hρ.imm (e1.imm hS), r1, q1, h1, fun ρ' S' σ' H' e' r' k' h' => l.nx ρ' S' σ' H' (e1.trans e') r' k' h'⟩
theorem s_set {i : Nat} {x : Str} (hN : X.N.Nodup) (hi : X.N[i]? = some x) (hx : Loc X.env.scope x) (he : PE X e (rdE X.K W f)) (hf : X.fn x = true ∨ X.env.scope.names.lookup x = some .local := by first | exact .inl rfl | exact .inr rfl | assumption) (hs : swapsWith e (some (.Name x pos')) pos.line X.env = pure false := by rfl) :
    PS X (.Assign [.Name x pos'] e pos) (rdS X.K W (dSet i f)) :=
  PS_imp (ps_set hN hi hx he hs hf) fun D σ H ⟨ρ, S, N, hρ, hS, hf, l⟩ =>
    ⟨ρ, S, _, _, hρ, hS, hf, fun d S1 v H1 e1 r1 q1 h1 => l.nx _ S1 _ H1 e1 r1 ((hρ.imm (e1.imm hS)).set q1 i) h1, l.lx hS hρ⟩
theorem s_par {i j : Nat} {x y : Str} {a b : Expr} {px py pt : Pos} {kt k2 pt2} (hc : X.calm = true) (hN : X.N.Nodup) (hi : X.N[i]? = some x) (hj : X.N[j]? = some y) (hij : i ≠ j)
    (hx : X.env.scope.names.lookup x = some .local) (hy : X.env.scope.names.lookup y = some .local) (ha : PA X [a, b] (rdA X.K W 2 fa))
    (hSw : swappedStores [.Tuple [.Name x px, .Name y py] kt pt] (.Tuple [a, b] k2 pt2) X.env = pure (some [x, y]))
    (hSole : swapsWithSole [.Tuple [.Name x px, .Name y py] kt pt] (.Tuple [a, b] k2 pt2) pos.line X.env = pure false := by rfl) :
    PS X (.Assign [.Tuple [.Name x px, .Name y py] kt pt] (.Tuple [a, b] k2 pt2) pos) (rdS X.K W (dPar i j fa)) :=
  PS_imp (ps_par hc hN hi hj hij hx hy ha hSw hSole) fun D σ H ⟨ρ, S, N, hρ, hS, hf, l⟩ => by
    refine ⟨ρ, S, _, _, hρ, hS, hf, fun ds S1 vs H1 e1 r1 q1 hl h1 => ?_, l.lx hS hρ⟩
    dsimp only at h1
    split at h1
    · rename_i x1 y1
      obtain ⟨v, r, rfl, k1, v2, r2, rfl, k2, z⟩ := q1
      have z' : r2 = [] := z
      subst z'
      exact ⟨v, v2, rfl, l.nx _ S1 _ H1 e1 r1 (((hρ.imm (e1.imm hS)).set k1 i).set k2 j) h1⟩
    · exact h1.elim
end

/-! ### what is walked -/
abbrev EI := Env → Store → (List D → Store → Prop) → XPost → Prop
/-- the heap as it is, or with a new object -/
def Ext (H H' : Hp) : Prop := H' = H ∨ ∃ p o, H p = none ∧ H' = upd H p o
theorem Ext.evo {H H' : Hp} (e : Ext H H') (S : Store) : Evo S H S H' := by
  rcases e with rfl | ⟨p, o, hp, rfl⟩
  · exact Evo.refl _ _
  · exact evo_new hp
theorem Ext.srel {K : PySem.W.Frag} {S : Store} {H H' : Hp} (e : Ext H H') (r : SRel K S H) : SRel K S H' := by
  rcases e with rfl | ⟨p, o, hp, rfl⟩
  · exact r
  · exact r.upd_new hp
structure Yields (K : PySem.W.Frag) (J : It) (ds : List D) (H0 : Hp) : Prop where
  go : ∀ i H, i < ds.length → Imm H0 H → J.go i H
  stop : ∀ H, Imm H0 H → J.stop ds.length H
  yld : ∀ i H x H' d, ds[i]? = some d → Imm H0 H → J.yld i H x H' → Ext H H' ∧ Rel K H' d x
def rdI (K : PySem.W.Frag) (W : WX) (f : EI) : TI := fun σ H R => ∃ ρ S Qd Ed, EnvR K H ρ σ ∧ SRel K S H ∧ f ρ S Qd Ed ∧
  (∀ ds S' J H', Evo S H S' H' → SRel K S' H' → Yields K J ds H' → Qd ds S' → R J H') ∧ LX K S H Ed (fun c dd H' => W c dd σ H')
theorem Imm.trans {H H1 H2 : Hp} (a : Imm H H1) (b : Imm H1 H2) : Imm H H2 := fun x o h m => b x o (a x o h m) m
theorem Imm.refl (H : Hp) : Imm H H := fun _ _ h _ => h

/-! ### for -/
def loop (g : DG) (b : ST) (N : DEnds) : List D → Env → Store → Prop
  | [], ρ, S => N.nx ρ S
  | d :: ds, ρ, S => g d ρ S fun ρ1 S1 => b ρ1 S1 { N with nx := loop g b N ds, ct := loop g b N ds, bk := N.nx }
def dFor (f : EI) (g : DG) (b : ST) : ST := fun ρ S N => f ρ S (fun ds S1 => loop g b N ds ρ S1) (fun x S' => N.ex x ρ S')
section
variable {X : Cx} {W : WX} {pos : Pos} {tg iter : Expr} {body : List Stmt} {fi : EI} {g : DG} {b : ST}
theorem drop_cons {α : Type} {l : List α} {i : Nat} (h : i < l.length) : l.drop i = l[i] :: l.drop (i + 1) := List.drop_eq_getElem_cons h
theorem s_for (hp : PassesOwn (model X.prog X.w) X.A X.env X.xe) (hc : X.calm = true) (hi : PI X tg iter (rdI X.K W fi)) (hg : PG X tg (rdG X.K g)) (hb : PSs X body (rdS X.K W b))
    (hs : ∀ x, foldedSetIterable iter X.env x = pure x := by exact fun _ => rfl) : PS X (.For tg iter body [] pos) (rdS X.K W (dFor fi g b)) :=
  PS_imp (ps_for hp hc hi hg hb hs) fun D σ H ⟨ρ, S, N, hρ, hS, hf, l⟩ => by
    refine ⟨ρ, S, _, _, hρ, hS, hf, fun ds S1 J H1 e1 r1 y h1 => ?_, l.lx hS hρ⟩
    refine ⟨fun i m σ' H' => m = ds.length - i ∧ i ≤ ds.length ∧ ∃ ρ' S', EnvR X.K H' ρ' σ' ∧ SRel X.K S' H' ∧ Evo S1 H1 S' H' ∧ loop g b N (ds.drop i) ρ' S', ⟨ds.length, by simp, Nat.zero_le _, ρ, S1, hρ.imm (e1.imm hS), r1, Evo.refl _ _, h1⟩, ?_⟩
    rintro i m σ' H' ⟨rfl, hle, ρ', S', k', r', e', h'⟩
    have im : Imm H1 H' := e'.imm r1
    by_cases hlt : i < ds.length
    · refine .inr ⟨y.go i H' hlt im, _, fun σ2 H2 z => ⟨ds.length - (i + 1), by omega, rfl, hlt, z⟩, fun x H2 hy => ?_⟩
      obtain ⟨ex, rx⟩ := y.yld i H' x H2 ds[i] (by simp [hlt]) im hy
      have e2 := ex.evo S'
      have r2 := ex.srel r'
      rw [drop_cons hlt] at h'
      refine ⟨ρ', S', ds[i], _, k'.imm (e2.imm r'), r2, rx, h', fun ρ3 S3 σ3 H3 e3 r3 k3 h3 => ?_⟩
      have e13 := (e'.trans e2).trans e3
      refine ⟨ρ3, S3, _, k3, r3, h3, ⟨fun ρ4 S4 σ4 H4 e4 r4 k4 h4 => ?_, ?_, ?_, ?_, fun ρ4 S4 σ4 H4 e4 r4 k4 h4 => ?_⟩⟩
      · exact ⟨ρ4, S4, k4, r4, e13.trans e4, h4⟩
      · exact l.rt.mono (e1.trans e13)
      · exact (l.mono (e1.trans e13)).ex
      · exact (l.mono (e1.trans e13)).nx
      · exact ⟨ρ4, S4, k4, r4, e13.trans e4, h4⟩
    · have ei : i = ds.length := by omega
      subst ei
      refine .inl ⟨y.stop H' im, ?_⟩
      rw [List.drop_length] at h'
      exact l.nx ρ' S' σ' H' (e1.trans e') r' k' h'
end

/-! ### while -/
def whN (t : EB) (b : ST) : Nat → ST
  | 0 => fun _ _ _ => False
  | n + 1 => fun ρ S N => t ρ S (fun c S1 => if c = true then b ρ S1 { N with nx := fun ρ2 S2 => whN t b n ρ2 S2 N, ct := fun ρ2 S2 => whN t b n ρ2 S2 N, bk := N.nx } else N.nx ρ S1) (fun x S' => N.ex x ρ S')
def dWhile (t : EB) (b : ST) : ST := fun ρ S N => ∃ n, whN t b n ρ S N
section
variable {X : Cx} {W : WX} {pos : Pos} {c : Expr} {body : List Stmt} {t : EB} {b : ST}
theorem s_while (hp : PassesOwn (model X.prog X.w) X.A X.env X.xe) (hc : PT X c (rdB X.K W t)) (hb : PSs X body (rdS X.K W b)) : PS X (.While c body [] pos) (rdS X.K W (dWhile t b)) :=
  PS_imp (ps_while hp hc hb) fun D σ H ⟨ρ, S, N, hρ, hS, ⟨n, hf⟩, l⟩ => by
    refine ⟨fun m σ' H' => ∃ ρ' S', EnvR X.K H' ρ' σ' ∧ SRel X.K S' H' ∧ Evo S H S' H' ∧ whN t b m ρ' S' N, ⟨n, ρ, S, hρ, hS, Evo.refl _ _, hf⟩, ?_⟩
    rintro m σ' H' ⟨ρ', S', k', r', e', h'⟩
    cases m with
    | zero => exact h'.elim
    | succ m =>
      have l' := l.mono e'
      refine ⟨ρ', S', _, _, k', r', h', fun c S1 H1 e1 r1 h1 => ?_, l'.lx r' k'⟩
      cases c with
      | false => rw [if_neg Bool.false_ne_true] at h1 ⊢; exact l'.nx _ _ _ _ e1 r1 (k'.imm (e1.imm r')) h1
      | true =>
        rw [if_pos rfl] at h1 ⊢
        have l1 := l'.mono e1
        have e01 := e'.trans e1
        refine ⟨_, fun σ2 H2 z => ⟨m, Nat.lt_succ_self m, z⟩, ρ', S1, _, k'.imm (e1.imm r'), r1, h1, ⟨fun ρ4 S4 σ4 H4 e4 r4 k4 h4 => ⟨ρ4, S4, k4, r4, e01.trans e4, h4⟩, l1.rt, l1.ex, l1.nx, fun ρ4 S4 σ4 H4 e4 r4 k4 h4 => ⟨ρ4, S4, k4, r4, e01.trans e4, h4⟩⟩⟩
end

/-! ### a list comprehension, one clause -/
def comp (g : DG) (t : EB) (f : ET) (Q : List D → Store → Prop) : List D → List D → Env → Store → Prop
  | [], acc, _, S => Q acc S
  | d :: ds, acc, ρ, S => g d ρ S fun ρ1 S1 => t ρ1 S1 (fun b S2 => if b = true then f ρ1 S2 (fun y S3 => acc.length < sizeLine ∧ comp g t f Q ds (acc ++ [y]) ρ S3) (fun _ _ => False) else comp g t f Q ds acc ρ S2) (fun _ _ => False)
def bYes : EB := fun _ S Q _ => Q true S
def wipeD (ρ : Env) : List Nat → Env
  | [] => ρ
  | i :: r => st (wipeD ρ r) i none
theorem EnvR.wipe {K : PySem.W.Frag} {H : Hp} {ρ : Env} {σ : L2.St} (h : EnvR K H ρ σ) : ∀ vs : List Nat, EnvR K H (wipeD ρ vs) (wipe σ vs)
  | [] => h
  | i :: r => EnvR.gone i none (EnvR.wipe h r)
/-- a target that stores into the slots vs alone -/
def TgOk (K : PySem.W.Frag) (vs : List Nat) (t : TG) (g : DG) : Prop := ∀ v σ H ρ S d Qd, EnvR K H ρ σ → Rel K H d v → g d ρ S Qd →
  t v σ H fun σ2 H2 => H2 = H ∧ L2.wipe σ2 vs = L2.wipe σ vs ∧ ∃ ρ2, EnvR K H ρ2 σ2 ∧ Qd ρ2 S
def TgsOk (K : PySem.W.Frag) (vs : List Nat) (t : TGs) (g : DGs) : Prop := ∀ us σ H ρ S ds Qd, EnvR K H ρ σ → Rels K H ds us → g ds ρ S Qd →
  t us σ H fun σ2 H2 => H2 = H ∧ L2.wipe σ2 vs = L2.wipe σ vs ∧ ∃ ρ2, EnvR K H ρ2 σ2 ∧ Qd ρ2 S
theorem wipe_set {σ : L2.St} {i : Nat} {o : Option V} : ∀ {vs : List Nat}, i ∈ vs → L2.wipe (σ.set i o) vs = L2.wipe σ vs
  | [], h => by cases h
  | j :: r, h => by
    show (L2.wipe (σ.set i o) r).set j none = (L2.wipe σ r).set j none
    by_cases hr : i ∈ r
    · rw [wipe_set hr]
    · have e : i = j := by
        rcases List.mem_cons.1 h with e | e
        · exact e
        · exact absurd e hr
      subst e
      have comm : ∀ (l : List Nat), i ∉ l → ∀ σ : L2.St, L2.wipe (σ.set i o) l = (L2.wipe σ l).set i o := by
        intro l
        induction l with
        | nil => intro _ σ; rfl
        | cons k l ih =>
          intro hk σ
          have hne : k ≠ i := fun e => hk (by simp [e])
          show (L2.wipe (σ.set i o) l).set k none = ((L2.wipe σ l).set k none).set i o
          rw [ih (fun z => hk (by simp [z])) σ, List.set_comm _ _ (Ne.symm hne)]
      rw [comm r hr σ, List.set_set]
theorem tg_name {K : PySem.W.Frag} {vs : List Nat} {i : Nat} (h : i ∈ vs := by decide) : TgOk K vs (gName i) (dgName i) :=
  fun v σ H ρ S d Qd hρ hd hg => ⟨rfl, wipe_set h, _, hρ.set hd i, hg⟩
theorem tgs_nil {K : PySem.W.Frag} {vs : List Nat} : TgsOk K vs gNil dgNil := fun us σ H ρ S ds Qd hρ hd hg => by
  cases ds with
  | nil => exact ⟨hd, rfl, rfl, ρ, hρ, hg⟩
  | cons d r => exact hg.elim
/-- a reading of a target is monotone -/
def TgMono (t : TG) : Prop := ∀ v σ H Q Q', (∀ σ' H', Q σ' H' → Q' σ' H') → t v σ H Q → t v σ H Q'
theorem mono_name {i : Nat} : TgMono (gName i) := fun v σ H Q Q' i h => i _ _ h
theorem tgs_cons {K : PySem.W.Frag} {vs : List Nat} {t : TG} {u : TGs} {g : DG} {h : DGs} (m : TgMono t) (h1 : TgOk K vs t g) (h2 : TgsOk K vs u h) : TgsOk K vs (gCons t u) (dgCons g h) := fun us σ H ρ S ds Qd hρ hd hg => by
  cases ds with
  | nil => exact hg.elim
  | cons d r =>
    obtain ⟨v, vr, rfl, q1, q2⟩ := hd
    refine ⟨v, vr, rfl, m _ _ _ _ _ (fun σ' H' z => ?_) (h1 v σ H ρ S d _ hρ q1 hg)⟩
    obtain ⟨e, w, ρ2, k2, g2⟩ := z
    subst e
    have z2 := h2 vr σ' H' ρ2 S r Qd k2 q2 g2
    rw [w] at z2
    exact z2
theorem tg_tup {K : PySem.W.Frag} {vs : List Nat} {n : Nat} {u : TGs} {h : DGs} (h2 : TgsOk K vs u h) : TgOk K vs (gTup K n u) (dgTup n h) := fun v σ H ρ S d Qd hρ hd hg => by
  cases d with
  | tup ds =>
    obtain ⟨a, xs, rfl, hq, rs⟩ := hd
    exact ⟨a, xs, rfl, hq, by rw [← rs.length]; exact hg.1, h2 xs σ H ρ S ds Qd hρ rs hg.2⟩
  | _ => exact hg.elim
theorem wipe_idem_of (σ : L2.St) (vs : List Nat) : ∀ us : List Nat, (∀ i ∈ us, i ∈ vs) → L2.wipe (L2.wipe σ us) vs = L2.wipe σ vs
  | [], _ => rfl
  | j :: r, h => by
    show L2.wipe ((L2.wipe σ r).set j none) vs = L2.wipe σ vs
    rw [wipe_set (h j (by simp)), wipe_idem_of σ vs r fun i hi => h i (by simp [hi])]
theorem wipe_idem (σ : L2.St) (vs : List Nat) : L2.wipe (L2.wipe σ vs) vs = L2.wipe σ vs := wipe_idem_of σ vs vs fun _ h => h
theorem lc_mono {wi : TI} {g : TG} {tt : TT} {te : TE} {vs : List Nat} {σ : L2.St} {H : Hp} {Q Q' : VK} (i : ∀ v H1, Q v H1 → Q' v H1) (h : tLc wi g tt te vs σ H Q) (hw : ∀ R R', (∀ J H1, R J H1 → R' J H1) → wi σ H R → wi σ H R') : tLc wi g tt te vs σ H Q' := by
  refine hw _ _ (fun J H1 z D hD => ?_) h
  obtain ⟨W, h0, hs⟩ := z D hD
  refine ⟨W, h0, fun k m H2 hW => ?_⟩
  rcases hs k m H2 hW with ⟨a, b⟩ | q
  · exact .inl ⟨a, i _ _ b⟩
  · exact .inr q
/-- the heap without a -/
def delH' (H : Hp) (a : Addr) : Hp := fun b => if b = a then none else H b
theorem delH'_upd {H : Hp} {a : Addr} {o : HO} (h : H a = some o) : upd (delH' H a) a o = H := by
  funext b
  by_cases e : b = a
  · subst e; rw [upd_same, h]
  · rw [upd_ne e]; exact if_neg e
def evComp (mk : MkT) (fi : EI) (g : DG) (t : EB) (f : ET) (vs : List Nat) : ET := fun ρ S Q E => fi ρ S (fun ds S1 => comp g t f (fun acc S2 => mk acc S2 Q) ds [] (wipeD ρ vs) S1) E
section
variable {X : Cx} {W : WX}
theorem ts_nil : PTs X [] (rdB X.K W bYes) := PTs_imp pts_nil fun σ H Q ⟨ρ, S, Qd, Ed, hρ, hS, hf, lq, _⟩ => lq true S H (Evo.refl _ _) hS hf
theorem ts_one {c : Expr} {t : EB} (h : PT X c (rdB X.K W t)) : PTs X [c] (rdB X.K W t) := pts_one h
end
theorem lc_rd {K : PySem.W.Frag} {W W1 W2 : WX} {mk : MkT} (hm : MkOk K mk) {fi : EI} {g : DG} {tg : TG} {t : EB} {f : ET} {vs : List Nat} (hmono : TgMono tg) (htg : TgOk K vs tg g) (σ : L2.St) (H : Hp) (Q : VK)
    (h : rdE K W (evComp mk fi g t f vs) σ H Q) : tFz (tLc (rdI K W fi) tg (rdB K W1 t) (rdE K W2 f) vs) σ H Q := by
  obtain ⟨ρ, S, Qd, Ed, hρ, hS, hf, lq, lx⟩ := h
  refine ⟨ρ, S, _, Ed, hρ, hS, hf, fun ds S1 J H1 e1 r1 y h1 => ?_, lx⟩
  intro D hD
  have iD : ∀ o, Imm H1 (upd H1 D o) := fun o => upd_imm hD
  have hρ1 : EnvR K H1 (wipeD ρ vs) (L2.wipe σ vs) := (hρ.imm (e1.imm hS)).wipe vs
  have lq1 := lq.mono e1
  refine ⟨fun i m H' => m = ds.length - i ∧ i ≤ ds.length ∧ ∃ S' acc accV, SRel K S' H' ∧ Evo S1 H1 S' H' ∧ S' D = none ∧ H' D = some (.lst accV) ∧ Rels K H' acc accV ∧ comp g t f (fun acc S2 => mk acc S2 Qd) (ds.drop i) acc (wipeD ρ vs) S',
    ⟨ds.length, by simp, Nat.zero_le _, S1, [], [], r1.upd_new hD, evo_new hD, r1.free hD, upd_same, rfl, h1⟩, ?_⟩
  rintro i m H' ⟨rfl, hle, S', acc, accV, r', e', nD, eD, ra, h'⟩
  have im : Imm H1 H' := e'.imm r1
  by_cases hlt : i < ds.length
  · refine .inr ⟨y.go i H' hlt im, _, fun H2 z => ⟨ds.length - (i + 1), by omega, rfl, hlt, z⟩, fun x H2 hy => ?_⟩
    obtain ⟨ex, rx⟩ := y.yld i H' x H2 ds[i] (by simp [hlt]) im hy
    have e2 := ex.evo S'
    have r2 := ex.srel r'
    rw [drop_cons hlt] at h'
    have z := htg x (L2.wipe σ vs) H2 (wipeD ρ vs) S' ds[i] _ (hρ1.imm ((e'.trans e2).imm r1)) rx h'
    refine hmono _ _ _ _ _ (fun σ3 H3 z => ?_) z
    obtain ⟨rfl, w, ρ3, k3, q3⟩ := z
    refine ⟨w.trans (wipe_idem _ _), ρ3, S', _, _, k3, r2, q3, fun b S4 H4 e4 r4 h4 => ?_, fun _ _ _ _ _ _ _ _ z => z.elim⟩
    have D2 : H3 D = some (.lst accV) := e2.keep D _ eD nD (fun _ z => nomatch z)
    have D4 : H4 D = some (.lst accV) := e4.keep D _ D2 nD (fun _ z => nomatch z)
    have nD4 : S4 D = none := by
      cases q : S4 D with
      | none => rfl
      | some u => exact (e4.new D nD (by rw [q]; exact fun z => nomatch z) _ D2 (fun _ z => nomatch z)).elim
    have e14 := (e'.trans e2).trans e4
    cases b with
    | false =>
      rw [if_neg Bool.false_ne_true] at h4
      refine L2.iteF ?_
      exact ⟨S4, acc, accV, r4, e14, nD4, D4, Rels.imm ((e2.trans e4).imm r') _ _ ra, h4⟩
    | true =>
      rw [if_pos rfl] at h4
      refine L2.iteT ?_
      refine ⟨ρ3, S4, _, _, k3.imm (e4.imm r2), r4, h4, fun d S5 v H5 e5 r5 q5 h5 => ?_, fun _ _ _ _ _ _ _ _ z => z.elim⟩
      have D5 : H5 D = some (.lst accV) := e5.keep D _ D4 nD4 (fun _ z => nomatch z)
      have nD5 : S5 D = none := by
        cases q : S5 D with
        | none => rfl
        | some u => exact (e5.new D nD4 (by rw [q]; exact fun z => nomatch z) _ D4 (fun _ z => nomatch z)).elim
      have ra5 : Rels K H5 acc accV := Rels.imm (((e2.trans e4).trans e5).imm r') _ _ ra
      have iU : Imm H5 (upd H5 D (.lst (accV ++ [v]))) := upd_immS D5 rfl
      refine ⟨accV, D5, by rw [← ra5.length]; exact h5.1, S5, acc ++ [d], accV ++ [v], fun b u q => ?_, ⟨fun b o q n nt => ?_, (e14.trans e5).new⟩, nD5, upd_same, Rels.append (Rels.imm iU _ _ ra5) (Rels.mk1 (Rel.imm iU _ _ q5)), h5.2⟩
      · have hb : b ≠ D := fun z => by subst z; rw [nD5] at q; cases q
        exact (r5 b u q).imm iU fun w q => by rw [upd_ne hb]; exact q
      · have hb : b ≠ D := fun z => by subst z; rw [hD] at q; cases q
        rw [upd_ne hb]
        exact (e14.trans e5).keep b o q n nt
  · have ei : i = ds.length := by omega
    subst ei
    rw [List.drop_length] at h'
    refine .inl ⟨y.stop H' im, ?_⟩
    have id : Imm H' (delH' H' D) := fun b o q mq => by
      have hb : b ≠ D := fun z => by subst z; rw [eD] at q; cases q; cases mq
      exact (if_neg hb : delH' H' D b = H' b).trans q
    have rd : SRel K S' (delH' H' D) := fun b u q => by
      have hb : b ≠ D := fun z => by subst z; rw [nD] at q; cases q
      exact (r' b u q).imm id fun w q => (if_neg hb : delH' H' D b = H' b).trans q
    have ed : Evo S1 H1 S' (delH' H' D) := ⟨fun b o q n nt => by
      have hb : b ≠ D := fun z => by subst z; rw [hD] at q; cases q
      exact (if_neg hb : delH' H' D b = H' b).trans (e'.keep b o q n nt), e'.new⟩
    have fin := hm S' (delH' H' D) acc accV D Qd Q rd (if_pos rfl) (Rels.imm id _ _ ra) h' (lq1.mono ed)
    rw [delH'_upd eD] at fin
    exact fin
section
variable {X : Cx} {W W1 W2 : WX} {pos : Pos} {elt tg iter : Expr} {ifs : List Expr} {scope : Scope} {own : List (Str × Nat)} {fi : EI} {g : DG} {tt : TG} {t : EB} {f : ET} {mk : MkT}
theorem e_comp (hm : MkOk X.K mk) (hc : X.calm = true) (hN : X.N.Nodup) (hi : PI X tg iter (rdI X.K W fi)) (ok : BlkOk X.N X.env.scope scope own) (hmono : TgMono tt) (htg : TgOk X.K (own.map (·.2)) tt g)
    (hg : ∀ (s : Shared) (H : Hp) (C : Addr) (cl : List (Str × Addr)) (fp : List Addr), PG (X.blk s H scope (compEnvC scope cl C X.env) fp) tg tt) (ht : ∀ (s : Shared) (H : Hp) (C : Addr) (cl : List (Str × Addr)) (fp : List Addr), PTs (X.blk s H scope (compEnvC scope cl C X.env) fp) ifs (rdB X.K W1 t))
    (he : ∀ (s : Shared) (H : Hp) (C : Addr) (cl : List (Str × Addr)) (fp : List Addr), PE (X.blk s H scope (compEnvC scope cl C X.env) fp) elt (rdE X.K W2 f)) (hs : ∀ x, foldedSetIterable iter X.env x = pure x := by intro _; rfl) :
    PE X (.ListComp elt [⟨tg, iter, ifs, 0⟩] scope pos) (rdE X.K W (evComp mk fi g t f (own.map (·.2)))) :=
  PE_imp (pe_fz (pe_lc hc hN hi ok hg ht he hs)) (lc_rd hm hmono htg)
end

/-! ### locking at a statement's end -/
def FzN (Q : L2.St → Hp → Prop) (σ : L2.St) (H : Hp) : Prop := Q σ H ∨ (∃ a xs, H a = some (.lst xs) ∧ ∀ o, Q σ (upd H a (.frz o (.lst xs)))) ∨ (∃ a xs, H a = some (.dK xs) ∧ ∀ o, Q σ (upd H a (.frz o (.dK xs))))
def tFzS (t : TS) : TS := fun D σ H => t { D with nx := FzN D.nx } σ H
theorem ps_fz {X : Cx} {s : Stmt} {t : TS} (h : PS X s t) : PS X s (tFzS t) := by
  refine ⟨fun pins s0 σ H D I q => thn (h.run pins s0 σ H _ I q) fun f s1 hq => ?_⟩
  cases f with
  | next =>
    obtain ⟨σ1, H1, I1, q1⟩ := hq
    rcases q1 with q1 | ⟨a, xs, ha, q1⟩ | ⟨a, xs, ha, q1⟩
    · exact ⟨σ1, H1, I1, q1⟩
    · obtain ⟨o, J⟩ := Inv.frz I1 ha (fun _ => nofun) (fun _ _ => nofun) (fun _ => nofun) (fun _ => nofun) (by obtain ⟨_, its, n, _, e⟩ := I1.hok a _ ha; exact ⟨_, e⟩)
      exact ⟨σ1, _, J, q1 o⟩
    · obtain ⟨o, J⟩ := Inv.frz I1 ha (fun _ => nofun) (fun _ _ => nofun) (fun _ => nofun) (fun _ => nofun) (by obtain ⟨_, _, vs, _, o, _, _, e, _⟩ := I1.hok a _ ha; exact ⟨o, e⟩)
      exact ⟨σ1, _, J, q1 o⟩
  | ret u => exact hq
  | brk => exact hq
  | cont => exact hq
section
variable {X : Cx} {W W1 W2 : WX} {pos spos py : Pos} {elt tg iter : Expr} {ifs : List Expr} {scope : Scope} {own : List (Str × Nat)} {fi : EI} {g : DG} {tt : TG} {t : EB} {f : ET} {mk : MkT} {s : Stmt} {b : ST}
theorem s_setComp {i : Nat} {y : Str} (hm : MkOk X.K mk) (hc : X.calm = true) (hN : X.N.Nodup) (hy : X.N[i]? = some y) (hyl : X.env.scope.names.lookup y = some .local) (hsw : swapsWith (.ListComp elt [⟨tg, iter, ifs, 0⟩] scope pos) (some (.Name y py)) spos.line X.env = pure true)
    (hi : PI X tg iter (rdI X.K W fi)) (ok : BlkOk X.N X.env.scope scope own) (hmono : TgMono tt) (htg : TgOk X.K (own.map (·.2)) tt g)
    (hg : ∀ (s : Shared) (H : Hp) (C : Addr) (cl : List (Str × Addr)) (fp : List Addr), PG (X.blk s H scope (compEnvC scope cl C X.env) fp) tg tt) (ht : ∀ (s : Shared) (H : Hp) (C : Addr) (cl : List (Str × Addr)) (fp : List Addr), PTs (X.blk s H scope (compEnvC scope cl C X.env) fp) ifs (rdB X.K W1 t))
    (he : ∀ (s : Shared) (H : Hp) (C : Addr) (cl : List (Str × Addr)) (fp : List Addr), PE (X.blk s H scope (compEnvC scope cl C X.env) fp) elt (rdE X.K W2 f)) (hs : ∀ x, foldedSetIterable iter X.env x = pure x := by intro _; rfl) :
    PS X (.Assign [.Name y py] (.ListComp elt [⟨tg, iter, ifs, 0⟩] scope pos) spos) (rdS X.K W (dSet i (evComp mk fi g t f (own.map (·.2))))) :=
  PS_imp (ps_fz (ps_setLc hc hN hy hyl hsw hi ok hg ht he hs)) fun D σ H ⟨ρ, S, N, hρ, hS, hf, l⟩ => by
    have z := lc_rd (W1 := W1) (W2 := W2) hm hmono htg σ H (fun v H1 => D.nx (σ.set i (some v)) H1) ⟨ρ, S, _, _, hρ, hS, hf, fun d S1 v H1 e1 r1 q1 h1 => l.nx _ S1 _ H1 e1 r1 ((hρ.imm (e1.imm hS)).set q1 i) h1, l.lx hS hρ⟩
    refine lc_mono (Q' := fun x H1 => FzN D.nx (σ.set i (some x)) H1) (fun v H1 q => ?_) z fun R R' i ⟨ρ, S, Qd, Ed, a, b, c, d, e⟩ => ⟨ρ, S, Qd, Ed, a, b, c, fun ds S' J H' x1 x2 x3 x4 => i _ _ (d ds S' J H' x1 x2 x3 x4), e⟩
    rcases q with q | ⟨a, xs, rfl, ha, q⟩ | ⟨a, xs, rfl, ha, q⟩
    · exact Or.inl q
    · exact Or.inr (Or.inl ⟨a, xs, ha, q⟩)
    · exact Or.inr (Or.inr ⟨a, xs, ha, q⟩)
/-- the list in slot i is locked behind the statement -/
def fzv (i : Nat) (Q : Env → Store → Prop) : Env → Store → Prop := fun ρ S => match lk ρ i with
  | some (.ref a) => match S a with
    | some (.lst ds) => Q (st ρ i (some (.lst ds))) (S.del a)
    | some (.dct ks ds) => Q (st ρ i (some (.dct ks ds))) (S.del a)
    | _ => False
  | _ => Q ρ S
def dFzV (i : Nat) (g : ST) : ST := fun ρ S N => g ρ S { N with nx := fzv i N.nx }
end
theorem set_same {σ : L2.St} {i : Nat} {v : V} (h : σ[i]? = some (some v)) : σ.set i (some v) = σ := by
  apply List.ext_getElem?
  intro j
  by_cases e : i = j
  · subst e
    rw [List.getElem?_set_self (List.getElem?_eq_some_iff.mp h).1, h]
  · rw [List.getElem?_set_ne e]
theorem s_fzv {X : Cx} {W : WX} {s : Stmt} {g : ST} (i : Nat) (h : PS X s (rdS X.K W g)) : PS X s (rdS X.K W (dFzV i g)) :=
  PS_imp (ps_fz h) fun D σ H ⟨ρ, S, N, hρ, hS, hf, l⟩ => by
    refine ⟨ρ, S, _, hρ, hS, hf, ⟨fun ρ1 S1 σ1 H1 e1 r1 k1 h1 => ?_, l.rt, l.ex, l.bk, l.ct⟩⟩
    have h1 : fzv i N.nx ρ1 S1 := h1
    unfold fzv at h1
    split at h1
    · rename_i a ea
      obtain ⟨v, ev, rv⟩ := k1.get ea
      have ev' : v = .ref a := rv
      subst ev'
      split at h1
      · rename_i ds ed
        obtain ⟨xs, hx, rs⟩ := r1 a _ ed
        refine .inr (.inl ⟨a, xs, hx, fun o => ?_⟩)
        obtain ⟨im, r2⟩ := r1.frz (o := .frz o (.lst xs)) ed
        refine l.nx _ _ _ _ (e1.trans (evo_frz ed)) r2 ?_ h1
        have z := (k1.imm im).set (d := .lst ds) (v := .ref a) ⟨a, xs, rfl, ⟨o, upd_same⟩, Rels.imm im _ _ rs⟩ i
        rw [set_same ev] at z
        exact z
      · rename_i ks ds ed
        obtain ⟨xs, hx, hl, rs⟩ := r1 a _ ed
        refine .inr (.inr ⟨a, _, hx, fun o => ?_⟩)
        obtain ⟨im, r2⟩ := r1.frz (o := .frz o (.dK (ks.zip xs))) ed
        refine l.nx _ _ _ _ (e1.trans (evo_frz ed)) r2 ?_ h1
        have z := (k1.imm im).set (d := .dct ks ds) (v := .ref a) ⟨a, xs, rfl, ⟨o, upd_same⟩, hl, Rels.imm im _ _ rs⟩ i
        rw [set_same ev] at z
        exact z
      · exact h1.elim
    · exact .inl (l.nx _ _ _ _ e1 r1 k1 h1)
end MP

set_option Elab.async false
set_option linter.all false
set_option maxRecDepth 100000
set_option maxHeartbeats 2100000
/-! MPFn: a def's promise, calls, exceptions. -/
namespace MP
open PySem PyProof.Rows PySem.Spec L2

abbrev DF := List D → Store → Post → XPost → Prop
/-- a def's promise over data -/
def spM (K : PySem.W.Frag) (n : Nat) (F : DF) : Sp := fun vs H Q E => ∃ ds S Qd Ed, Rels K H ds vs ∧ SRel K S H ∧ ds.length = n ∧ F ds S Qd Ed ∧ LQ K S H Qd Q ∧ LX K S H Ed E
theorem spM_len {K : PySem.W.Frag} {n : Nat} {F : DF} (vs : List V) (H : Hp) (Q : VK) (E : XK) (h : spM K n F vs H Q E) : vs.length = n := by
  obtain ⟨ds, S, Qd, Ed, r, _, l, _⟩ := h
  rw [← r.length, l]
/-- the promise by another function that promises no more -/
theorem spM_imp {K : PySem.W.Frag} {n : Nat} {F G : DF} (i : ∀ ds S Q E, ds.length = n → G ds S Q E → F ds S Q E) (vs : List V) (H : Hp) (Q : VK) (E : XK) (h : spM K n G vs H Q E) : spM K n F vs H Q E := by
  obtain ⟨ds, S, Qd, Ed, r, hS, l, h, lq, lx⟩ := h
  exact ⟨ds, S, Qd, Ed, r, hS, l, i ds S Qd Ed l h, lq, lx⟩
/-- what is left behind in the store is forgotten: G says the end of a run of F that began at S -/
def Gc (F : DF) : DF := fun ds S Q E => F ds S (fun d S' => ∃ S'', Sub S'' S' ∧ Q d S'') (fun x S' => ∃ S'', Sub S'' S' ∧ E x S'')
def runF (m : Nat) (g : ST) : DF := fun ds S Q E => g (ds.map some ++ List.replicate (m - ds.length) none) S { nx := fun _ S' => Q .non S', rt := Q, ex := fun x _ S' => E x S' }
theorem Evo.sub {S S' S'' : Store} {H H' : Hp} (e : Evo S H S' H') (s : Sub S'' S') : Evo S H S'' H' := ⟨e.keep, fun a n n2 => e.new a n (by
  cases q : S'' a with
  | none => exact absurd q n2
  | some o => rw [s a o q]; exact fun z => nomatch z)⟩
theorem spM_gc {K : PySem.W.Frag} {n : Nat} {F : DF} (vs : List V) (H : Hp) (Q : VK) (E : XK) (h : spM K n (Gc F) vs H Q E) : spM K n F vs H Q E := by
  obtain ⟨ds, S, Qd, Ed, r, hS, l, h, lq, lx⟩ := h
  refine ⟨ds, S, _, _, r, hS, l, h, fun d S' v H' e r' q ⟨S'', s, z⟩ => ?_, fun x S' c dd H' e r' q ⟨S'', s, z⟩ => ?_⟩
  · exact lq d S'' v H' (e.sub s) (r'.sub s) q z
  · exact lx x S'' c dd H' (e.sub s) (r'.sub s) q z
section
variable {K : PySem.W.Frag} {base : Heap} {mg : Str → Option Value} {P : Program} {w : World}
/-- the wish about exceptions of a def's own body -/
abbrev Wd (E : XK) : WX := fun cls d _ H => E cls d H
theorem fn_ok {x qual : Str} {st : Stmt} {f : Addr} {fd : FuncData} {N ps : List Str} {k : Nat} {g : ST} (F : Fun K x qual st f fd) (Sc : FnScope N ps (defScope st))
    (hb : ∀ (cdv : Value) (A : Around) (outer : List PySem.Env) (s : Shared) (H : Hp) (E : XK), Room k (A.deeper (envOfC qual (defScope st) s.heap.objs.size f cdv)) →
      PSs (cxOf (L2.CX P w) P w K mg base N qual (defScope st) f cdv A outer s H E) (defBody st) (rdS K (Wd E) g)) : FnOk P w K mg base (L2.CX P w) (k + 1) f fd ps (spM K ps.length (runF N.length g)) := by
  refine F.okX Sc spM_len fun cdv A outer s H vs Q E hr h => ⟨_, hb cdv A outer s H E hr, ?_⟩
  obtain ⟨ds, S, Qd, Ed, r, hS, hl, hf, lq, lx⟩ := h
  refine ⟨_, S, _, ?_, hS, hf, ⟨fun ρ' S' σ' H' e r' k' h => lq .non S' .non H' e r' rfl h, lq, fun x ρ' S' c dd σ' H' e r' k' q h => lx x S' c dd H' e r' q h, fun _ _ _ _ _ _ _ h => h.elim, fun _ _ _ _ _ _ _ h => h.elim⟩⟩
  unfold L2.start
  rw [← r.length]
  exact EnvR.start _ r
theorem fn_imp {CX : CXT} {f : Addr} {fd : FuncData} {ps : List Str} {k : Nat} {F G : DF} (h : FnOk P w K mg base CX k f fd ps (spM K ps.length F)) (i : ∀ ds S Q E, ds.length = ps.length → G ds S Q E → F ds S Q E) : FnOk P w K mg base CX k f fd ps (spM K ps.length G) :=
  h.imp (spM_imp i)
theorem fn_gc {CX : CXT} {f : Addr} {fd : FuncData} {ps : List Str} {k : Nat} {F G : DF} (h : FnOk P w K mg base CX k f fd ps (spM K ps.length F)) (i : ∀ ds S Q E, ds.length = ps.length → G ds S Q E → Gc F ds S Q E) : FnOk P w K mg base CX k f fd ps (spM K ps.length G) :=
  h.imp fun vs H Q E z => spM_gc vs H Q E (spM_imp i vs H Q E z)
end

/-! ### calls -/
def evCall (F : DF) (fa : EA) : ET := fun ρ S Q E => fa ρ S (fun ds S1 => F ds S1 Q E) E
def evCall0 (F : DF) : ET := fun ρ S Q E => F [] S Q E
section
variable {X : Cx} {W : WX} {k : Nat} {f : Addr} {fd : FuncData} {ps : List Str} {F : DF} {x : Str} {p pos : Pos} {e : Expr} {es : List Expr} {fa : EA} {n : Nat}
theorem e_call (G : FnOk X.prog X.w X.K X.mg X.base (L2.CX X.prog X.w) k f fd ps (spM X.K n F)) (hr : Room k X.A) (hg : Gl X x) (hm : X.mg x = some (.ref f)) (hk : PySem.W.keepIn X.K (.ref f) = true) (hb : Binds X.K fd ps []) (tk : Takes X W)
    (ha : PA X (e :: es) (rdA X.K W n fa)) (noDbg : (x == ("__debug__" : Str)) = false := by decide) (hst : starEach (e :: es) X.env = (false, eval e X.env) :: starEach es X.env := by rfl) (noStar : (backTo pos (starEach es X.env)).any (·.1) = false := by rfl) :
    PE X (.Call (.Name x p) (e :: es) [] pos) (rdE X.K W (evCall F fa)) :=
  PE_imp (pe_callS G hr hg hm hk hb (fun σ => passAt tk σ) ha noDbg hst noStar) fun σ H Q ⟨ρ, S, Qd, Ed, hρ, hS, hf, lq, lx⟩ =>
    ⟨ρ, S, _, Ed, hρ, hS, hf, fun ds S1 vs H1 e1 r1 q1 hl h1 => ⟨ds, S1, Qd, Ed, q1, r1, hl, h1, lq.mono e1, lx.mono e1⟩, lx⟩
theorem pe_call0S {CX : CXT} {E : L2.St → XK} {sp : Sp} (F : FnOk X.prog X.w X.K X.mg X.base CX k f fd ps sp) (hr : Room k X.A) (hg : Gl X x) (hm : X.mg x = some (.ref f)) (hk : PySem.W.keepIn X.K (.ref f) = true) (hb : Binds X.K fd ps []) (hx : ∀ σ, PassesAt CX X σ (E σ))
    (noDbg : (x == ("__debug__" : Str)) = false := by decide) : PE X (.Call (.Name x p) [] [] pos) (fun σ H Q => sp [] H Q (E σ)) := by
  refine ⟨fun pnl s σ H Q I h => ?_⟩
  refine wpAny_Call_Name_kw (ld_glob I hg hm ?_ noDbg)
  exact PySem.W.callWith_K0 I.kIn hk (run_fnS (us := []) F hr hb (hx σ) I .nil h)
theorem e_call0 (G : FnOk X.prog X.w X.K X.mg X.base (L2.CX X.prog X.w) k f fd ps (spM X.K 0 F)) (hr : Room k X.A) (hg : Gl X x) (hm : X.mg x = some (.ref f)) (hk : PySem.W.keepIn X.K (.ref f) = true) (hb : Binds X.K fd ps []) (tk : Takes X W)
    (noDbg : (x == ("__debug__" : Str)) = false := by decide) : PE X (.Call (.Name x p) [] [] pos) (rdE X.K W (evCall0 F)) :=
  PE_imp (pe_call0S G hr hg hm hk hb (fun σ => passAt tk σ) noDbg) fun σ H Q ⟨ρ, S, Qd, Ed, hρ, hS, hf, lq, lx⟩ =>
    ⟨[], S, Qd, Ed, rfl, hS, rfl, hf, lq, lx⟩
end
/-! a call by keywords alone, or with arguments ahead of them -/
section
variable {X : Cx} {W : WX} {CX : CXT} {k : Nat} {f : Addr} {fd : FuncData} {ps ks : List Str} {sp : Sp} {E : L2.St → XK} {x : Str} {p pos kpos : Pos} {e : Expr} {es : List Expr} {kws : List Keyword} {t tk : TA} {g : List Value → List Value → List Value} {gV : List V → List V → List V}
theorem run_fnkS {pnl : List (Addr × Obj)} {σ : L2.St} {H : Hp} {s : Shared} {Q : VK} {us ws : List Value} {vs zs : List V} (F : FnOk X.prog X.w X.K X.mg X.base CX k f fd ps sp) (hr : Room k X.A) (hb : KBinds X.K fd ps ks g gV) (hx : PassesAt CX X σ (E σ))
    (I : Inv X pnl σ H s) (r : Vals vs us) (rz : Vals zs ws) (h : sp (gV vs zs) H Q (E σ)) : wpAny (model X.prog X.w) X.A (call (.ref f) us (ks.zip ws)) (EP X pnl σ Q) X.xe s := by
  have r2 := hb.rel r rz
  have hl : (g us ws).length = ps.length := r2.length.symm.trans (F.len _ _ _ _ h)
  refine wpAny_call (codeAny_mono (F.run X.A X.stack s H ⟨us, ks.zip ws⟩ (g us ws) (gV vs zs) Q (E σ) hr I.env0 (hb.to s us ws I.kIn hl) r2 h) fun r s' hq => ?_)
  cases r with
  | error e => exact hx pnl H s e s' I hq
  | ok fl =>
    cases fl with
    | ret u => exact I.after hq
    | next => exact False.elim hq
    | brk => exact False.elim hq
    | cont => exact False.elim hq
theorem pe_callKS (F : FnOk X.prog X.w X.K X.mg X.base CX k f fd ps sp) (hr : Room k X.A) (hg : Gl X x) (hm : X.mg x = some (.ref f)) (hk : PySem.W.keepIn X.K (.ref f) = true) (hb : KBinds X.K fd ps ks g gV) (hx : ∀ σ, PassesAt CX X σ (E σ))
    (ha : PA X (e :: es) t) (hkws : PK X kws tk) (hall : (backToKw pos (keywordEach kws X.env)).all (·.1.isSome) = true := by rfl) (hks : (backToKw pos (keywordEach kws X.env)).filterMap (·.1) = ks := by rfl)
    (noDbg : (x == ("__debug__" : Str)) = false := by decide) (hst : starEach (e :: es) X.env = (false, eval e X.env) :: starEach es X.env := by rfl)
    (noStar : ((backTo pos (starEach (e :: es) X.env)).any (·.1) || (backToKw pos (keywordEach kws X.env)).any (·.1.isNone)) = false := by rfl) :
    PE X (.Call (.Name x p) (e :: es) kws pos) (fun σ H Q => t σ H fun vs H1 => tk σ H1 fun zs H2 => sp (gV vs zs) H2 Q (E σ)) := by
  refine ⟨fun pnl s σ H Q I h => ?_⟩
  refine wpAny_Call_Name_kw (ld_glob I hg hm ?_ noDbg)
  refine PySem.W.callWith_KW (h₀ := X.base) I.ok.mod.kin hk hall (thn (ha.run pos pnl s σ H _ I h) fun us s1 ⟨vs, H1, I1, r, q⟩ => ?_) noStar hst
  refine thn (hkws.run pos pnl s1 σ H1 _ I1 q) fun ws s2 ⟨zs, H2, I2, rz, q2⟩ => ⟨I2.kIn, ?_⟩
  rw [hks]
  exact run_fnkS F hr hb (hx σ) I2 r rz q2
theorem pe_callKS0 (F : FnOk X.prog X.w X.K X.mg X.base CX k f fd ps sp) (hr : Room k X.A) (hg : Gl X x) (hm : X.mg x = some (.ref f)) (hk : PySem.W.keepIn X.K (.ref f) = true) (hb : KBinds X.K fd ps ks g gV) (hx : ∀ σ, PassesAt CX X σ (E σ))
    (hkws : PK X kws tk) (hall : (backToKw pos (keywordEach kws X.env)).all (·.1.isSome) = true := by rfl) (hks : (backToKw pos (keywordEach kws X.env)).filterMap (·.1) = ks := by rfl)
    (noDbg : (x == ("__debug__" : Str)) = false := by decide)
    (noStar : ((backTo pos (starEach [] X.env)).any (·.1) || (backToKw pos (keywordEach kws X.env)).any (·.1.isNone)) = false := by rfl) :
    PE X (.Call (.Name x p) [] kws pos) (fun σ H Q => tk σ H fun zs H2 => sp (gV [] zs) H2 Q (E σ)) := by
  refine ⟨fun pnl s σ H Q I h => ?_⟩
  refine wpAny_Call_Name_kw (ld_glob I hg hm ?_ noDbg)
  refine PySem.W.callWith_KW0 (h₀ := X.base) I.ok.mod.kin hk hall (thn (hkws.run pos pnl s σ H _ I h) fun ws s2 ⟨zs, H2, I2, rz, q2⟩ => ⟨I2.kIn, ?_⟩) noStar
  rw [hks]
  exact run_fnkS F hr hb (hx σ) I2 .nil rz q2
end
/-- the arguments in the parameters' order -/
def pickL (is : List Nat) {α : Type} (l : List α) : List α := is.filterMap fun i => l[i]?
theorem pick_length {α : Type} {l : List α} : ∀ {is : List Nat}, (∀ i ∈ is, i < l.length) → (pickL is l).length = is.length
  | [], _ => rfl
  | i :: r, h => by
    have hi : i < l.length := h i (by simp)
    unfold pickL
    rw [List.filterMap_cons, List.getElem?_eq_getElem hi]
    show (pickL r l).length + 1 = r.length + 1
    rw [pick_length fun j hj => h j (by simp [hj])]
def gK (n m : Nat) (is : List Nat) {α : Type} (us ws : List α) : List α := if us.length = n ∧ ws.length = m then pickL is (us ++ ws) else []
theorem Vals.pick {vs : List V} {us : List Value} (h : Vals vs us) : ∀ is : List Nat, Vals (pickL is vs) (pickL is us)
  | [] => .nil
  | i :: r => by
    unfold pickL
    rw [List.filterMap_cons, List.filterMap_cons]
    cases e : vs[i]? with
    | none => rw [Vals.none_of h e]; exact Vals.pick h r
    | some v =>
      obtain ⟨u, e2, q⟩ := Vals.get h e
      rw [e2]
      exact .cons q (Vals.pick h r)
theorem Rels.pick {K : PySem.W.Frag} {H : Hp} {ds : List D} {vs : List V} (h : Rels K H ds vs) : ∀ is : List Nat, Rels K H (pickL is ds) (pickL is vs)
  | [] => rfl
  | i :: r => by
    unfold pickL
    rw [List.filterMap_cons, List.filterMap_cons]
    cases e : ds[i]? with
    | none =>
      have e2 : vs[i]? = none := by
        rw [List.getElem?_eq_none_iff] at e ⊢
        rw [← h.length]; exact e
      rw [e2]; exact Rels.pick h r
    | some d =>
      obtain ⟨u, e2, q⟩ := Rels.get h e
      rw [e2]
      exact ⟨u, _, rfl, q, Rels.pick h r⟩
theorem gK_rel {n m : Nat} {is : List Nat} {vs : List V} {us : List Value} {zs : List V} {ws : List Value} (a : Vals vs us) (b : Vals zs ws) : Vals (gK n m is vs zs) (gK n m is us ws) := by
  unfold gK
  rw [Vals.length a, Vals.length b]
  split
  · exact Vals.pick (Vals.append a b) is
  · exact .nil
def evCallK (F : DF) (is : List Nat) (fa fk : EA) : ET := fun ρ S Q E => fa ρ S (fun ds S1 => fk ρ S1 (fun zs S2 => F (pickL is (ds ++ zs)) S2 Q E) E) E
section
variable {X : Cx} {W : WX} {k : Nat} {f : Addr} {fd : FuncData} {ps ks : List Str} {F : DF} {x : Str} {p pos kpos : Pos} {e : Expr} {es : List Expr} {fa fk : EA} {n m : Nat} {is : List Nat} {kws : List Keyword} {fe : ET} {nm : Option Str}
theorem k_nil : PK X [] (rdA X.K W 0 aNil) := ⟨fun pos pnl s σ H Q I h => pk_nil.run pos pnl s σ H Q I (let ⟨ρ, S, Qd, Ed, hρ, hS, hf, lq, _⟩ := h; lq [] S [] H (Evo.refl _ _) hS rfl rfl hf)⟩
theorem k_cons (he : PE X e (rdE X.K W fe)) (hr : PK X kws (rdA X.K W n fa)) : PK X (⟨nm, e, kpos⟩ :: kws) (rdA X.K W (n + 1) (aCons fe fa)) := by
  refine ⟨fun pos pnl s σ H Q I h => (pk_cons he hr).run pos pnl s σ H Q I ?_⟩
  obtain ⟨ρ, S, Qd, Ed, hρ, hS, hf, lq, lx⟩ := h
  refine ⟨ρ, S, _, Ed, hρ, hS, hf, fun d S1 v H1 e1 r1 q1 h1 => ?_, lx⟩
  refine ⟨ρ, S1, _, Ed, hρ.imm (e1.imm hS), r1, h1, fun ds S2 vs H2 e2 r2 q2 hl h2 => ?_, lx.mono e1⟩
  exact lq (d :: ds) S2 _ H2 (e1.trans e2) r2 ⟨v, vs, rfl, Rel.imm (e2.imm r1) _ _ q1, q2⟩ (by simp [hl]) h2
theorem e_callK0 (G : FnOk X.prog X.w X.K X.mg X.base (L2.CX X.prog X.w) k f fd ps (spM X.K is.length F)) (hr : Room k X.A) (hg : Gl X x) (hm : X.mg x = some (.ref f)) (hk : PySem.W.keepIn X.K (.ref f) = true) (hb : KBinds X.K fd ps ks (gK 0 m is) (gK 0 m is)) (tk : Takes X W)
    (hkws : PK X kws (rdA X.K W m fk)) (his : ∀ i ∈ is, i < m := by decide) (hall : (backToKw pos (keywordEach kws X.env)).all (·.1.isSome) = true := by rfl) (hks : (backToKw pos (keywordEach kws X.env)).filterMap (·.1) = ks := by rfl)
    (noDbg : (x == ("__debug__" : Str)) = false := by decide)
    (noStar : ((backTo pos (starEach [] X.env)).any (·.1) || (backToKw pos (keywordEach kws X.env)).any (·.1.isNone)) = false := by rfl) :
    PE X (.Call (.Name x p) [] kws pos) (rdE X.K W (evCallK F is aNil fk)) :=
  PE_imp (pe_callKS0 G hr hg hm hk hb (fun σ => passAt tk σ) hkws hall hks noDbg noStar) fun σ H Q ⟨ρ, S, Qd, Ed, hρ, hS, hf, lq, lx⟩ => by
    refine ⟨ρ, S, _, Ed, hρ, hS, hf, fun ds S1 vs H1 e1 r1 q1 hl h1 => ⟨pickL is ds, S1, Qd, Ed, ?_, r1, ?_, h1, lq.mono e1, lx.mono e1⟩, lx⟩
    · unfold gK
      rw [if_pos ⟨rfl, by rw [← q1.length, hl]⟩]
      exact Rels.pick q1 is
    · exact pick_length fun i hi => by rw [hl]; exact his i hi
theorem e_callK (G : FnOk X.prog X.w X.K X.mg X.base (L2.CX X.prog X.w) k f fd ps (spM X.K is.length F)) (hr : Room k X.A) (hg : Gl X x) (hm : X.mg x = some (.ref f)) (hk : PySem.W.keepIn X.K (.ref f) = true) (hb : KBinds X.K fd ps ks (gK n m is) (gK n m is)) (tk : Takes X W)
    (ha : PA X (e :: es) (rdA X.K W n fa)) (hkws : PK X kws (rdA X.K W m fk)) (his : ∀ i ∈ is, i < n + m := by decide) (hall : (backToKw pos (keywordEach kws X.env)).all (·.1.isSome) = true := by rfl) (hks : (backToKw pos (keywordEach kws X.env)).filterMap (·.1) = ks := by rfl)
    (noDbg : (x == ("__debug__" : Str)) = false := by decide) (hst : starEach (e :: es) X.env = (false, eval e X.env) :: starEach es X.env := by rfl)
    (noStar : ((backTo pos (starEach (e :: es) X.env)).any (·.1) || (backToKw pos (keywordEach kws X.env)).any (·.1.isNone)) = false := by rfl) :
    PE X (.Call (.Name x p) (e :: es) kws pos) (rdE X.K W (evCallK F is fa fk)) :=
  PE_imp (pe_callKS G hr hg hm hk hb (fun σ => passAt tk σ) ha hkws hall hks noDbg hst noStar) fun σ H Q ⟨ρ, S, Qd, Ed, hρ, hS, hf, lq, lx⟩ => by
    refine ⟨ρ, S, _, Ed, hρ, hS, hf, fun us S0 vs0 H0 e0 r0 q0 hl0 h0 => ⟨ρ, S0, _, Ed, hρ.imm (e0.imm hS), r0, h0, fun ds S1 vs H1 e1 r1 q1 hl h1 => ⟨pickL is (us ++ ds), S1, Qd, Ed, ?_, r1, ?_, h1, (lq.mono e0).mono e1, (lx.mono e0).mono e1⟩, lx.mono e0⟩, lx⟩
    · unfold gK
      rw [if_pos ⟨by rw [← q0.length, hl0], by rw [← q1.length, hl]⟩]
      exact Rels.pick (Rels.append (Rels.imm (e1.imm r0) _ _ q0) q1) is
    · exact pick_length fun i hi => by rw [List.length_append, hl0, hl]; exact his i hi
end

/-! ### raise -/
/-- raise C('..') of an own class -/
def dRaise (c : Value) : ST := fun ρ S N => N.ex { cls := c } ρ S
section
variable {X : Cx} {W : WX} {pos : Pos} {e : Expr} {c : Value}
theorem s_raise (hc : X.calm = true) (tk : Takes X W) (he : PMk X e (fun _ H Q => Q c none H)) : PS X (.Raise (some e) none pos) (rdS X.K W (dRaise c)) :=
  PS_imp (ps_raise hc tk he) fun D σ H ⟨ρ, S, N, hρ, hS, hf, l⟩ => l.ex { cls := c } ρ S c none σ H (Evo.refl _ _) hS hρ ⟨rfl, [], .inl ⟨rfl, rfl⟩, rfl, rfl⟩ hf
end

/-! ### try: .. except X as n: y = n -/
/-- an object of ours, younger than the entry, is tracked from now on -/
theorem Inv.track {X : Cx} {pnl : List (Addr × Obj)} {σ : L2.St} {H : Hp} {s : Shared} {a : Addr} {o : HO} (I : Inv X pnl σ H s) (hn : H a = none) (h0 : X.s_0.heap.get? a = none) (hp : ∀ p ∈ X.pn ++ pnl, p.1 ≠ a) (hl : a ≠ X.env.locals)
    (hc : ∀ x c, X.env.cells.lookup x = some c → c ≠ a) (new : ObjOk X.prog X.w (upd H a o) s.heap a o) : Inv X pnl σ (upd H a o) s := by
  have ne : ∀ b ob, X.s_0.heap.get? b = some ob → b ≠ a := fun b ob e z => by rw [z, h0] at e; cases e
  refine ⟨I.ok, I.os, I.bare, ⟨I.base.keep, I.base.slot, fun b ob e n hx => ?_, I.base.there, fun b xs e => ?_, fun b ob w e => ?_, fun b ps e => ?_⟩, I.loc, I.cell, ?_, fun x c e => ?_, fun p q => ?_, fun b u e => ?_, I.len⟩
  · rw [upd_ne (ne b ob e)]; exact I.base.free b ob e n hx
  · have z := I.base.tups b xs e
    rw [upd_ne (ne_of_none z hn)]; exact z
  · have z := I.base.frzs b ob w e
    rw [upd_ne (ne_of_none z hn)]; exact z
  · obtain ⟨m, z⟩ := I.base.tbls b ps e
    exact ⟨m, by rw [upd_ne (ne_of_none z hn)]; exact z⟩
  · rw [upd_ne (Ne.symm hl)]; exact I.free
  · rw [upd_ne (hc x c e)]; exact I.freeC x c e
  · obtain ⟨e, n, r⟩ := I.pin p q
    exact ⟨e, by rw [upd_ne (hp p q)]; exact n, r⟩
  · by_cases hb : b = a
    · subst hb; rw [upd_same] at e; exact Option.some.inj e ▸ new
    · rw [upd_ne hb] at e
      exact (I.hok b u e).stay (fun _ _ _ q => q) (fun c q => by rw [upd_ne (ne_of_none q hn)]; exact q) fun c xs q => by rw [upd_ne (ne_of_none q hn)]; exact q
/-- the clause keeps the exception in slot j -/
def wKeep (K : PySem.W.Frag) (c : Value) (i j : Nat) (Wout : WX) (D : Ends) : WX := fun cls d σ H =>
  ∃ b, PySem.W.exmOne K cls c = some b ∧ (b = true → ∀ a, H a = none → D.nx (((σ.set i (some (.ref a))).set j (some (.ref a))).set i none) (upd H a (exT cls d a))) ∧ (b = false → Wout cls d σ H)
section
variable {X : Cx} {x n y : Str} {c : Value} {i j : Nat} {body : List Stmt} {np pos pos' py pn2 ps2 : Pos} {tb : WX → TS} {Wout : WX}
/-- an object with fields is no frame that flies with it -/
theorem off_frames {B h : Heap} {es : List PySem.Env} {a : Addr} {ob : Obj} {fv : Array Value} (ff : h.FunFrames B es) (e : h.get? a = some ob) (dd : ob.data = .fields fv) : a ∉ frs es := fun m =>
  let ⟨_, _, e2, no⟩ := ff.mem m
  no _ (by rw [e] at e2; cases e2; exact dd)
/-- none of the frames: not this one's names, not the others' -/
theorem off_here (hf : X.env.frame = some X.env.locals) {a : Addr} (o : a ∉ frs (X.env :: X.outer)) : a ≠ X.env.locals ∧ a ∉ X.fs := by
  constructor
  · rintro rfl
    exact o (List.mem_filterMap.mpr ⟨_, .head _, hf⟩)
  · intro m
    have ⟨e, me, fe⟩ := List.mem_filterMap.mp m
    exact o (List.mem_filterMap.mpr ⟨e, .tail _ me, fe⟩)
/-- .. so it is younger than the suite's entry, and than the def's -/
theorem young_in {pnl : List (Addr × Obj)} {σ : L2.St} {H : Hp} {sB : Shared} {B : Heap} {a : Addr} (J : Inv X pnl σ H sB) (hex : X.ex = []) (keep : ∀ b ob, sB.heap.get? b = some ob → b ∉ frs (X.env :: X.outer) → B.get? b = some ob) (o : a ∉ frs (X.env :: X.outer)) (fresh : B.get? a = none) :
    sB.heap.get? a = none ∧ X.s_0.heap.get? a = none := by
  have y : sB.heap.get? a = none := Option.eq_none_iff_forall_ne_some.mpr fun ob e => by
    have z := keep a ob e o
    rw [fresh] at z
    exact nomatch z
  refine ⟨y, Option.eq_none_iff_forall_ne_some.mpr fun ob e => ?_⟩
  have ⟨_, z⟩ := J.base.there a ob e (by rw [hex]; intro w; cases w)
  rw [y] at z
  exact nomatch z
theorem ps_try_keep (hs : X.stack = X.env :: X.outer) (hf : X.env.frame = some X.env.locals) (hN : X.N.Nodup) (hi : X.N[i]? = some n) (hln : X.env.kindOf n = some .local) (hj : X.N[j]? = some y) (hyl : X.env.scope.names.lookup y = some .local) (hij : i ≠ j) (hc : Names X x c) (tk : Takes X Wout)
    (hb : ∀ (W : WX) (pn : List (Addr × Obj)) (xe : Value → Shared → Prop) , Takes (X.tr pn xe) W → PassesOwn (model X.prog X.w) X.A X.env xe → PSs (X.tr pn xe) body (tb W))
    (hdn : (n == ("__debug__" : Str)) = false := by decide) (hdc : (n == ("__classdict__" : Str)) = false := by decide)
    (hsw : swapsWith (.Name n pn2) (some (.Name y py)) ps2.line X.env = pure false := by rfl) (hex : X.ex = [] := by rfl) :
    PS X (.Try body [.ExceptHandler (some (.Name x np)) (some n) [.Assign [.Name y py] (.Name n pn2) ps2] pos'] [] [] pos) (fun D σ H => tb (wKeep X.K c i j Wout D) D σ H) := by
  refine ⟨fun pnl s σ H D I h => ?_⟩
  have ok := I.ok
  have frA : X.A.frames = some (X.env :: X.outer) := by rw [ok.frames, hs]
  have locN : Loc X.env.scope n := .inl hln
  refine wpAny_Try_except ?_
  refine wpAny_mono ((hb (wKeep X.K c i j Wout D) (X.pn ++ pnl) (fun e s₁ => wpAny (model X.prog X.w) X.A (noteFrame e X.env) (fun _ s₂ => wpAny (model X.prog X.w) X.A (setFlight e none) (fun _ s₃ =>
    wpAny (model X.prog X.w) X.A (handleBy e X.env [.ExceptHandler (some (.Name x np)) (some n) [.Assign [.Name y py] (.Name n pn2) ps2] pos']) (SP X pnl D) X.xe s₃) X.xe s₂) X.xe s₁) (fun u sE xx => ?_) PassesOwn.looking).run [] s σ H D (I.toTry _) h) (fun f s1 done => ?_) (fun e s1 he => he)
  · -- the catch
    obtain ⟨a, B, sB, pins', σ', H', cls, d, rfl, J', nb, uB, sky, off, os, ag, b, hbm, hyes, hno⟩ := xx
    have J : Inv X pnl σ' H' sB := J'.ofTry ok
    have skyX : Sky B (X.env :: X.outer) a (Zc cls d) X.env.locals sE.heap := by rw [← hs]; exact sky
    have ba : B.get? a = none := by
      rcases sky with z | z | z
      · exact z.2.1
      · exact z.2.1
      · exact z.2.1
    show wpAny _ X.A (noteFrame (.ref a) X.env) _ _ _
    refine Sky.land Zc.steady frA hf skyX fun hx fly ux => ?_
    have jx : Inv X pnl σ' H' { sE with heap := hx } := J.landed nb fly.1 (uB.trans ux) os ag
    obtain ⟨ob, fv, at_a, is_z, fds⟩ := fly.there
    have nfr := off_frames fly.2.2.1 at_a fds
    have ⟨nL, nF⟩ := off_here hf nfr
    have ⟨nI, n0⟩ := young_in J hex (fun b ob e o => nb b ob e (by rw [hs]; exact o)) nfr ba
    have stx := jx.suite at_a fds off nL nF
    refine wpAny_handleBy_cons (codeAny_handlers_test ?_) fun q => nomatch q
    have ofTy : PySem.W.Looks (model X.prog X.w) hx (typeOf (.ref a)) cls := fun A Q E s k q => wpAny_typeOf_ref (k _ _ at_a) (by rw [is_z.1]; exact q)
    have mat := PySem.W.exm_one (M := model X.prog X.w) (jx.kIn) ofTy hbm
    have test : ∀ {Q : Value → Shared → Prop} {E : Value → Shared → Prop}, Q c { sE with heap := hx } → wpAny (model X.prog X.w) (X.A.mark (some (.ref a))) (eval (.Name x np) X.env) Q E { sE with heap := hx } := fun {Q E} q => by
      obtain ⟨gl, ndbg, mm | ⟨mm, bv, nn⟩⟩ := hc
      · exact ld_glob (X := X.suite a ((a, ob) :: (X.pn ++ pnl))) stx gl mm q ndbg
      · exact ld_blt (X := X.suite a ((a, ob) :: (X.pn ++ pnl))) stx gl mm bv q nn ndbg
    refine test (mat.here ?_)
    cases b with
    | true =>
      refine codeAny_handlers_suite_as (?_)
      refine HandSPX.lands_againZ fly fun hy flz uy => ?_
      have jy : Inv X pnl σ' H' { sE with heap := hy } := J.landed nb flz.1 ((uB.trans ux).trans uy) os ag
      obtain ⟨oc, fw, at_c, is_y, fdc⟩ := flz.there
      have sty := jy.suite at_c fdc off nL nF
      refine store_ok (X := X.suite a ((a, oc) :: (X.pn ++ pnl))) (v := .ref a) sty hN hi locN rfl (fun s5 S5 => ?_) (.inr hln)
      have hsuite : PSs (X.suite a ((a, oc) :: (X.pn ++ pnl))) [.Assign [.Name y py] (.Name n pn2) ps2] (tAsg (tVar i) (gName j)) :=
        pss_one (ps_set (X := X.suite a ((a, oc) :: (X.pn ++ pnl))) (i := j) hN hj (.inl hyl) (pe_var (X := X.suite a ((a, oc) :: (X.pn ++ pnl))) (i := i) hi (.inl hln) hdn hdc) hsw (.inr hyl))
      have len : i < σ'.length := by rw [J.len]; exact (List.getElem?_eq_some_iff.mp hi).1
      refine wpAny_mono (hsuite.run [] s5 _ H' { nx := fun σ2 H2 => σ2 = (σ'.set i (some (.ref a))).set j (some (.ref a)) ∧ H2 = H', rt := fun _ _ => False } S5 ⟨.ref a, by rw [List.getElem?_set_self len], rfl, rfl⟩) (fun f s6 done => ?_) (fun _ _ z => False.elim z)
      cases f with
      | next =>
        obtain ⟨τ6, H6, S6, e6, eH⟩ := done
        subst e6 eH
        have J6 : Inv X ((a, oc) :: pnl) ((σ'.set i (some (.ref a))).set j (some (.ref a))) H6 s6 := (S6.unsuite ok).pins_of fun p hp => by
          rcases List.mem_cons.1 hp with e | hp
          · rw [e]; exact S6.pin (a, oc) (List.mem_append_left _ List.mem_cons_self)
          · exact S6.pin p (List.mem_append_left _ (List.mem_cons_of_mem _ (List.mem_append_right _ hp)))
        refine gone_ok J6 hN hi hln fun s7 J7 => ?_
        obtain ⟨ha7, _⟩ := J7.pin (a, oc) (List.mem_append_right _ List.mem_cons_self)
        have J8 : Inv X pnl (((σ'.set i (some (.ref a))).set j (some (.ref a))).set i none) H6 s7 := J7.pins_of fun p hp => J7.pin p (List.mem_append_right _ (List.mem_cons_of_mem _ hp))
        refine ⟨_, _, Inv.track (o := exT cls d a) J8 off n0 (fun p hp z => ?_) nL (fun x' c' e z => ?_) ?_, hyes rfl a off⟩
        · have := (J.pin p hp).1
          rw [z, nI] at this; cases this
        · obtain ⟨v', q⟩ := J.cell x' c' e
          obtain ⟨o', q', _⟩ := q
          rw [z, nI] at q'; cases q'
        · exact ⟨⟨oc, fw, ha7, is_y, fdc⟩, ⟨oc, ha7⟩, fun _ _ ⟨o, v, q, r⟩ k => ⟨o, v, k o q, r⟩⟩
      | brk => exact done.elim fun _ z => z.elim fun _ z => z.2.elim
      | cont => exact done.elim fun _ z => z.elim fun _ z => z.2.elim
      | ret u => exact done.elim fun _ z => z.elim fun _ z => z.elim fun _ z => z.2.2.elim
    | false =>
      refine wpAny_handleBy_nil ?_
      obtain ⟨k1, k2, k3, oe, vs, T, oT, ts', he, hz, hd, h1, hr⟩ := id fly
      unfold PySem.passOn
      have seen : ¬ ((Value.ref T == Value.none) = true) := by simp
      refine wpAny_bind (wpAny_field he hd h1 (?_))
      rw [if_neg seen]
      have out : wpAny (model X.prog X.w) X.A (setFlight (.ref a) X.env.frame) (fun _ s4 => wpAny (model X.prog X.w) X.A (throw (.ref a) : Sem Flow) (SP X pnl D) X.xe s4) X.xe { sE with heap := hx } := by
        rw [hf]
        refine HandSPX.setFlight_upZ fly fun hy gy uy => wpAny_throw (tk _ _ ?_)
        exact ⟨a, B, sB, pnl, σ', H', cls, d, rfl, J, nb, (uB.trans ux).trans uy, .inr (.inr (by rw [hs]; exact gy)), off, os, ag, hno rfl⟩
      first
        | exact wpAny_bind (wpAny_pure (wpAny_bind out))
        | exact wpAny_bind out
  · -- the suite's own ends
    cases f with
    | next => exact done.elim fun τ z => z.elim fun G z => wpAny_execs_nil ⟨τ, G, z.1.ofTry ok, z.2⟩
    | brk => exact done.elim fun τ z => z.elim fun G z => ⟨τ, G, z.1.ofTry ok, z.2⟩
    | cont => exact done.elim fun τ z => z.elim fun G z => ⟨τ, G, z.1.ofTry ok, z.2⟩
    | ret u => exact done.elim fun w z => z.elim fun τ z => z.elim fun G z => ⟨w, τ, G, z.1.ofTry ok, z.2⟩
end
/-- catch: what the clause answers of a class -/
def dTryKeep (catch_ : Value → Option Bool) (i j : Nat) (g : ST) : ST := fun ρ S N => g ρ S { N with ex := fun x ρ' S' => match catch_ x.cls with
  | some true => ∀ a, N.nx (st (st ρ' j (some (.exn x.cls a x.ks x.xs))) i none) S'
  | some false => N.ex x ρ' S'
  | none => False }
section
variable {X : Cx} {x n y : Str} {c : Value} {i j : Nat} {body : List Stmt} {np pos pos' py pn2 ps2 : Pos} {g : ST} {Wout : WX} {catch_ : Value → Option Bool}
theorem s_try_keep (hs : X.stack = X.env :: X.outer) (hf : X.env.frame = some X.env.locals) (hN : X.N.Nodup) (hi : X.N[i]? = some n) (hln : X.env.kindOf n = some .local) (hj : X.N[j]? = some y) (hyl : X.env.scope.names.lookup y = some .local) (hij : i ≠ j) (hc : Names X x c) (tk : Takes X Wout)
    (hcatch : ∀ cls b, catch_ cls = some b → PySem.W.exmOne X.K cls c = some b)
    (hb : ∀ (W : WX) (pn : List (Addr × Obj)) (xe : Value → Shared → Prop) , Takes (X.tr pn xe) W → PassesOwn (model X.prog X.w) X.A X.env xe → PSs (X.tr pn xe) body (rdS X.K W g))
    (hdn : (n == ("__debug__" : Str)) = false := by decide) (hdc : (n == ("__classdict__" : Str)) = false := by decide)
    (hsw : swapsWith (.Name n pn2) (some (.Name y py)) ps2.line X.env = pure false := by rfl) (hex : X.ex = [] := by rfl) :
    PS X (.Try body [.ExceptHandler (some (.Name x np)) (some n) [.Assign [.Name y py] (.Name n pn2) ps2] pos'] [] [] pos) (rdS X.K Wout (dTryKeep catch_ i j g)) :=
  PS_imp (ps_try_keep hs hf hN hi hln hj hyl hij hc tk hb hdn hdc hsw hex) fun D σ H ⟨ρ, S, N, hρ, hS, hf, l⟩ => by
    refine ⟨ρ, S, _, hρ, hS, hf, ⟨l.nx, l.rt, fun x ρ' S' c' dd σ' H' e r k q h => ?_, l.bk, l.ct⟩⟩
    dsimp only at h
    obtain ⟨ec, vs, xd, hl, rs⟩ := q
    split at h
    · rename_i eq
      refine ⟨true, hcatch _ _ (by rw [ec]; exact eq), fun _ a ha => ?_, fun z => nomatch z⟩
      have im : Imm H' (upd H' a (exT c' dd a)) := upd_imm ha
      have hset : ((σ'.set i (some (.ref a))).set j (some (.ref a))).set i none = (σ'.set j (some (.ref a))).set i none := by
        rw [List.set_comm _ _ hij, List.set_set]
      rw [hset]
      refine l.nx _ S' _ _ (e.trans (evo_new ha)) (r.upd_new ha) (EnvR.gone i none (EnvR.set ?_ j (k.imm im))) (h a)
      exact ⟨rfl, dd, vs, by rw [← ec]; exact upd_same, im.xd xd, hl, Rels.imm im _ _ rs⟩
    · rename_i eq
      exact ⟨false, hcatch _ _ (by rw [ec]; exact eq), (fun z => nomatch z), fun _ => l.ex x ρ' S' c' dd σ' H' e r k ⟨ec, vs, xd, hl, rs⟩ h⟩
    · exact h.elim
end
end MP

set_option Elab.async false
set_option linter.all false
set_option maxRecDepth 100000
set_option maxHeartbeats 2100000
/-! MPOps: operators, comparisons, subscripts, built-ins over data. -/
namespace MP
open PySem PyProof.Rows PySem.Spec L2

/-! ### a value as it is read: a list or a dict of the store by what it holds -/
def vw (d : D) (S : Store) : D := match d with
  | .ref a => match S a with
    | some (.lst ds) => .lst ds
    | some (.dct ks ds) => .dct ks ds
    | _ => .ref a
  | d => d
/-- a list that is read: tracked, or locked -/
def RdL (K : PySem.W.Frag) (H : Hp) (ds : List D) (v : V) : Prop := ∃ a xs, v = .ref a ∧ Rd H a (.lst xs) ∧ Rels K H ds xs
def RdK (K : PySem.W.Frag) (H : Hp) (ds : List D) (v : V) : Prop := ∃ a xs, v = .ref a ∧ SqL K H a xs ∧ Rels K H ds xs
def RdT (K : PySem.W.Frag) (H : Hp) (ds : List D) (v : V) : Prop := ∃ a xs, v = .ref a ∧ SqT K H a xs ∧ Rels K H ds xs
def RdD (K : PySem.W.Frag) (H : Hp) (ks : List Key) (ds : List D) (v : V) : Prop := ∃ a xs, v = .ref a ∧ Rd H a (.dK (ks.zip xs)) ∧ ks.length = ds.length ∧ Rels K H ds xs
theorem RdL.k {K : PySem.W.Frag} {H : Hp} {ds : List D} {v : V} (h : RdL K H ds v) : RdK K H ds v := let ⟨a, xs, e, q, r⟩ := h; ⟨a, xs, e, .inl q, r⟩
/-- what a viewed value says -/
def RelW (K : PySem.W.Frag) (H : Hp) : D → V → Prop
  | .lst ds, v => RdL K H ds v
  | .kls ds, v => RdK K H ds v
  | .dct ks ds, v => RdD K H ks ds v
  | d, v => Rel K H d v
theorem vw_rel {K : PySem.W.Frag} {S : Store} {H : Hp} {d : D} {v : V} (hS : SRel K S H) (r : Rel K H d v) : RelW K H (vw d S) v := by
  cases d with
  | ref a =>
    have e : v = .ref a := r
    subst e
    unfold vw
    dsimp only
    split
    · rename_i ds q
      obtain ⟨xs, h, rs⟩ := hS a _ q
      exact ⟨a, xs, rfl, .inl h, rs⟩
    · rename_i ks ds q
      obtain ⟨xs, h, l, rs⟩ := hS a _ q
      exact ⟨a, xs, rfl, .inl h, l, rs⟩
    · exact rfl
  | lst ds => obtain ⟨a, xs, e, h, rs⟩ := r; exact ⟨a, xs, e, .inr h, rs⟩
  | kls ds => obtain ⟨a, xs, e, h, rs⟩ := r; exact ⟨a, xs, e, h.seq, rs⟩
  | dct ks ds => obtain ⟨a, xs, e, ⟨o, h⟩, l, rs⟩ := r; exact ⟨a, xs, e, .inr ⟨o, h⟩, l, rs⟩
  | _ => exact r
section
variable {K : PySem.W.Frag} {S : Store} {H : Hp} {d : D} {v : V}
theorem vw_lst {ds : List D} (hS : SRel K S H) (r : Rel K H d v) (e : vw d S = .lst ds) : RdL K H ds v := by have z := vw_rel hS r; rw [e] at z; exact z
theorem vw_kls {ds : List D} (hS : SRel K S H) (r : Rel K H d v) (e : vw d S = .kls ds) : RdK K H ds v := by have z := vw_rel hS r; rw [e] at z; exact z
theorem vw_dct {ks : List Key} {ds : List D} (hS : SRel K S H) (r : Rel K H d v) (e : vw d S = .dct ks ds) : RdD K H ks ds v := by have z := vw_rel hS r; rw [e] at z; exact z
theorem vw_tup {ds : List D} (hS : SRel K S H) (r : Rel K H d v) (e : vw d S = .tup ds) : RdT K H ds v := by have z := vw_rel hS r; rw [e] at z; exact z
theorem vw_int {i : Int} (hS : SRel K S H) (r : Rel K H d v) (e : vw d S = .int i) : v = .int i := by have z := vw_rel hS r; rw [e] at z; exact z
theorem vw_str {i : Str} (hS : SRel K S H) (r : Rel K H d v) (e : vw d S = .str i) : v = .str i := by have z := vw_rel hS r; rw [e] at z; exact z
theorem vw_bl {i : Bool} (hS : SRel K S H) (r : Rel K H d v) (e : vw d S = .bl i) : v = .bl i := by have z := vw_rel hS r; rw [e] at z; exact z
theorem vw_non (hS : SRel K S H) (r : Rel K H d v) (e : vw d S = .non) : v = .non := by have z := vw_rel hS r; rw [e] at z; exact z
theorem LQ.here {Qd : Post} {Q : VK} (l : LQ K S H Qd Q) (hS : SRel K S H) {d : D} {v : V} (r : Rel K H d v) (q : Qd d S) : Q v H := l d S v H (Evo.refl _ _) hS r q
theorem LQ.fz {Qd : Post} {Q : VK} (l : LQ K S H Qd Q) (hS : SRel K S H) {d : D} {v : V} (r : Rel K H d v) (q : Qd d S) : FzQ Q v H := .inl (l.here hS r q)
end

/-! ### numbers -/
def g2i (C : Int → Int → Prop) (g : Int → Int → D) : G2 := fun x y S Q => match x, y with
  | .int i, .int j => C i j ∧ Q (g i j) S
  | _, _ => False
def gI (g : Int → Int → D) : G2 := fun x y S Q => match x, y with
  | .int i, .int j => Q (g i j) S
  | _, _ => False
theorem opd_rI {K : PySem.W.Frag} {C : Int → Int → Prop} {g : Int → Int → D} {gv : Int → Int → V} (h : ∀ i j H, Rel K H (g i j) (gv i j)) : OpD K (rI C gv) (g2i C g) := by
  intro x y S H dx dy Qd Q hS rx ry q l
  unfold g2i at q
  split at q
  · exact ⟨_, _, rx, ry, q.1, l.fz hS (h _ _ _) q.2⟩
  · exact q.elim
theorem opd_rI0 {K : PySem.W.Frag} {g : Int → Int → D} {gv : Int → Int → V} (h : ∀ i j H, Rel K H (g i j) (gv i j)) : OpD K (rI0 gv) (gI g) := by
  intro x y S H dx dy Qd Q hS rx ry q l
  unfold gI at q
  split at q
  · exact ⟨_, _, rx, ry, l.fz hS (h _ _ _) q⟩
  · exact q.elim
def gSub : G2 := gI fun i j => .int (i - j)
def gMul : G2 := g2i CMul fun i j => .int (i * j)
def gDiv : G2 := g2i CDiv fun i j => .int (i / j)
def gMod : G2 := g2i (fun _ j => 0 < j) fun i j => .int (i % j)
def gPow : G2 := g2i CPow fun i j => .int (i ^ j.toNat)
def gShr : G2 := g2i (fun _ j => 0 ≤ j) fun i j => .int (i / 2 ^ j.toNat)
def gShl : G2 := g2i CPow fun i j => .int (i * 2 ^ j.toNat)
def gNeg : G1 := fun x S Q => match x with
  | .int i => Q (.int (-i)) S
  | _ => False
section
variable {K : PySem.W.Frag}
theorem d_sub : OpD K (rI0 fun i j => .int (i - j)) gSub := opd_rI0 fun _ _ _ => rfl
theorem d_mul : OpD K (rI CMul fun i j => .int (i * j)) gMul := opd_rI fun _ _ _ => rfl
theorem d_div : OpD K (rI CDiv fun i j => .int (i / j)) gDiv := opd_rI fun _ _ _ => rfl
theorem d_mod : OpD K (rI (fun _ j => 0 < j) fun i j => .int (i % j)) gMod := opd_rI fun _ _ _ => rfl
theorem d_pow : OpD K (rI CPow fun i j => .int (i ^ j.toNat)) gPow := opd_rI fun _ _ _ => rfl
theorem d_shr : OpD K (rI (fun _ j => 0 ≤ j) fun i j => .int (i / 2 ^ j.toNat)) gShr := opd_rI fun _ _ _ => rfl
theorem d_shl : OpD K (rI CPow fun i j => .int (i * 2 ^ j.toNat)) gShl := opd_rI fun _ _ _ => rfl
theorem d_neg : UnD K (rU fun i => .int (-i)) gNeg := by
  intro x S H dx Qd Q hS rx q l
  unfold gNeg at q
  split at q
  · exact ⟨_, rx, l.here hS (d := .int (-_)) rfl q⟩
  · exact q.elim
end

/-! ### + -/
def rCatS : R2 := fun x y H Q => ∃ l b xs zs, x = .ref l ∧ y = .ref b ∧ Rd H l (.lst xs) ∧ Rd H b (.lst zs) ∧ xs.length + zs.length ≤ sizeLine ∧ ∀ p, H p = none → Q (.ref p) (upd H p (.lst (xs ++ zs)))
theorem op_catS {X : Cx} : OpR X (binaryOp .Add) rCatS := by
  intro pins s σ H x y v u Q I rx ry ⟨l, b, xs, zs, ex, ey, hl, hb, hz, q⟩
  subst ex ey
  cases rx
  cases ry
  obtain ⟨_, i1, n1, r1, o1⟩ := hl.ok I.hok
  obtain ⟨_, i2, n2, r2, o2⟩ := hb.ok I.hok
  have l1 := Vals.length r1
  have l2 := Vals.length r2
  refine PySem.P.add_list o1 o2 ?_ (by rw [List.size_toArray, List.size_toArray]; omega)
  rw [show i1.toArray ++ i2.toArray = (i1 ++ i2).toArray by simp]
  exact ⟨.ref s.heap.objs.size, _, I.lnew (t' := s.toks) (Vals.append r1 r2) (by simp only [List.length_append]; exact hz), rfl, q _ I.fresh⟩
def rAddAll (K : PySem.W.Frag) : R2 := fun x y H Q => (∃ i j, x = .int i ∧ y = .int j ∧ Q (.int (i + j)) H) ∨ (∃ i j, x = .str i ∧ y = .str j ∧ i.length + j.length ≤ sizeLine ∧ Q (.str (i ++ j)) H) ∨ rCatT K x y H Q ∨ rCatS x y H Q
theorem op_addAll {X : Cx} : OpR X (binaryOp .Add) (rAddAll X.K) := OpR.or op_add (OpR.or op_add_str (OpR.or op_catT op_catS))
def gAdd (mk : MkT) : G2 := fun x y S Q => match vw x S, vw y S with
  | .int i, .int j => Q (.int (i + j)) S
  | .str i, .str j => i.length + j.length ≤ sizeLine ∧ Q (.str (i ++ j)) S
  | .tup i, .tup j => i ≠ [] ∧ i.length + j.length ≤ sizeLine ∧ Q (.tup (i ++ j)) S
  | .lst i, .lst j => i.length + j.length ≤ sizeLine ∧ mk (i ++ j) S Q
  | _, _ => False
theorem d_add {K : PySem.W.Frag} {mk : MkT} (hm : MkOk K mk) : OpD K (rAddAll K) (gAdd mk) := by
  intro x y S H dx dy Qd Q hS rx ry q l
  unfold gAdd at q
  split at q
  · rename_i i j e1 e2
    exact .inl ⟨i, j, vw_int hS rx e1, vw_int hS ry e2, l.fz hS (d := .int (i + j)) rfl q⟩
  · rename_i i j e1 e2
    exact .inr (.inl ⟨i, j, vw_str hS rx e1, vw_str hS ry e2, q.1, l.fz hS (d := .str (i ++ j)) rfl q.2⟩)
  · rename_i i j e1 e2
    obtain ⟨a, xs, ea, ha, ra⟩ := vw_tup hS rx e1
    obtain ⟨b, ys, eb, hb, rb⟩ := vw_tup hS ry e2
    refine .inr (.inr (.inl ⟨a, b, xs, ys, ea, eb, ha, hb, ?_, ?_, ?_⟩))
    · intro z; subst z; have := ra.length; cases i with
      | nil => exact q.1 rfl
      | cons _ _ => simp at this
    · rw [← ra.length, ← rb.length]; exact q.2.1
    · refine ⟨fun hy => ?_, fun hy => ?_⟩
      · subst hy
        have ej : j = [] := by have := rb.length; cases j with
          | nil => rfl
          | cons _ _ => simp at this
        subst ej
        rw [List.append_nil] at q
        exact l.fz hS (d := .tup i) ⟨a, xs, rfl, ha, ra⟩ q.2.2
      · exact fun p hp => .inl (new_tup hS hp (Rels.append ra rb) q.2.2 l)
  · rename_i i j e1 e2
    obtain ⟨a, xs, ea, ha, ra⟩ := vw_lst hS rx e1
    obtain ⟨b, ys, eb, hb, rb⟩ := vw_lst hS ry e2
    exact .inr (.inr (.inr ⟨a, b, xs, ys, ea, eb, ha, hb, by rw [← ra.length, ← rb.length]; exact q.1, fun p hp => hm _ _ _ _ _ _ _ hS hp (Rels.append ra rb) q.2 l⟩))
  · exact q.elim

/-! ### == and != -/
mutual
def toPy : D → Option PyData
  | .non => some .none
  | .bl b => some (.bool b)
  | .int i => some (.int i)
  | .str x => some (.str x)
  | .tup xs => (toPys xs).map .tuple
  | .lst xs => (toPys xs).map .list
  | .kls xs => (toPys xs).map .list
  | .ty _ => none
  | .ref _ => none
  | .exn _ _ _ _ => none
  | .dct _ _ => none
def toPys : List D → Option (List PyData)
  | [] => some []
  | d :: ds => (toPy d).bind fun p => (toPys ds).map fun ps => p :: ps
end
mutual
theorem toPy_dp {K : PySem.W.Frag} {H : Hp} : ∀ (d : D) (v : V) (p : PyData), Rel K H d v → toPy d = some p → Dp K H v p
  | .non, _, _, r, e => by cases e; have z : _ = V.non := r; subst z; exact .non
  | .bl b, _, _, r, e => by cases e; have z : _ = V.bl b := r; subst z; exact .bl b
  | .int i, _, _, r, e => by cases e; have z : _ = V.int i := r; subst z; exact .int i
  | .str x, _, _, r, e => by cases e; have z : _ = V.str x := r; subst z; exact .str x
  | .tup xs, _, _, ⟨a, vs, e1, h, rs⟩, e => by
    obtain ⟨ps, e2, e3⟩ := Option.map_eq_some_iff.mp e
    subst e1 e3
    exact .tup h (toPys_dp xs vs ps rs e2)
  | .lst xs, _, _, ⟨a, vs, e1, h, rs⟩, e => by
    obtain ⟨ps, e2, e3⟩ := Option.map_eq_some_iff.mp e
    subst e1 e3
    exact .lst h.seq (toPys_dp xs vs ps rs e2)
  | .kls xs, _, _, ⟨a, vs, e1, h, rs⟩, e => by
    obtain ⟨ps, e2, e3⟩ := Option.map_eq_some_iff.mp e
    subst e1 e3
    exact .lst h.seq (toPys_dp xs vs ps rs e2)
  | .ty _, _, _, _, e => nomatch e
  | .ref _, _, _, _, e => nomatch e
  | .exn _ _ _ _, _, _, _, e => nomatch e
  | .dct _ _, _, _, _, e => nomatch e
theorem toPys_dp {K : PySem.W.Frag} {H : Hp} : ∀ (ds : List D) (vs : List V) (ps : List PyData), Rels K H ds vs → toPys ds = some ps → DpAll K H vs ps
  | [], _, _, r, e => by cases e; have z : _ = [] := r; subst z; exact .nil
  | d :: ds, _, _, ⟨v, r, e1, h, t⟩, e => by
    subst e1
    obtain ⟨p, e2, e3⟩ := Option.bind_eq_some_iff.mp e
    obtain ⟨qs, e4, e5⟩ := Option.map_eq_some_iff.mp e3
    subst e5
    exact .cons (toPy_dp d v p h e2) (toPys_dp ds r qs t e4)
end
theorem toPy_vw {K : PySem.W.Frag} {S : Store} {H : Hp} {d : D} {v : V} {p : PyData} (hS : SRel K S H) (r : Rel K H d v) (e : toPy (vw d S) = some p) : Dp K H v p := by
  cases hd : vw d S with
  | lst xs =>
    rw [hd] at e
    obtain ⟨a, vs, e1, h, rs⟩ := vw_lst hS r hd
    obtain ⟨ps, e2, e3⟩ := Option.map_eq_some_iff.mp e
    subst e1 e3
    exact .lst (.inl h) (toPys_dp xs vs ps rs e2)
  | kls xs =>
    rw [hd] at e
    obtain ⟨a, vs, e1, h, rs⟩ := vw_kls hS r hd
    obtain ⟨ps, e2, e3⟩ := Option.map_eq_some_iff.mp e
    subst e1 e3
    exact .lst h (toPys_dp xs vs ps rs e2)
  | dct ks xs => rw [hd] at e; cases e
  | ref a => rw [hd] at e; cases e
  | ty n => rw [hd] at e; cases e
  | exn c a ks xs => rw [hd] at e; cases e
  | _ => have z := vw_rel hS r; rw [hd] at z e; exact toPy_dp _ _ _ z e
/-- two values compared: texts by themselves, else data of a shape -/
def eqG (f : Bool → Bool) : G2 := fun x y S Q => match x, y with
  | .str a, .str b => Q (.bl (f (a == b))) S
  | x, y => match toPy (vw x S), toPy (vw y S) with
    | some d, some e => SeqAt.shaped d = true ∧ SeqAt.shaped e = true ∧ Q (.bl (f (PyData.eqv d e))) S
    | _, _ => False
def gEq : G2 := eqG fun b => b
def gNe : G2 := eqG fun b => !b
def rEqA (K : PySem.W.Frag) : R2 := fun x y H Q => rEq x y H Q ∨ rEqD K x y H Q
def rNeA (K : PySem.W.Frag) : R2 := fun x y H Q => rNe x y H Q ∨ rNeD K x y H Q
theorem op_eqA {X : Cx} (hu : X.A.units + 64 < cLine) : OpR X (compareOp .Eq) (rEqA X.K) := OpR.or op_eq (op_eqD hu)
theorem op_neA {X : Cx} (hu : X.A.units + 64 < cLine) : OpR X (compareOp .NotEq) (rNeA X.K) := OpR.or op_ne (op_neD hu)
theorem d_eq {K : PySem.W.Frag} : OpD K (rEqA K) gEq := by
  intro x y S H dx dy Qd Q hS rx ry q l
  unfold gEq eqG at q
  split at q
  · rename_i a b
    have e1 : x = V.str a := rx
    have e2 : y = V.str b := ry
    subst e1 e2
    exact .inl ⟨rfl, by rw [dec_str]; exact l.fz hS (d := .bl (a == b)) rfl q⟩
  · split at q
    · rename_i d e h1 h2
      exact .inr ⟨d, e, toPy_vw hS rx h1, toPy_vw hS ry h2, q.1, q.2.1, l.fz hS (d := .bl _) rfl q.2.2⟩
    · exact q.elim
theorem d_ne {K : PySem.W.Frag} : OpD K (rNeA K) gNe := by
  intro x y S H dx dy Qd Q hS rx ry q l
  unfold gNe eqG at q
  split at q
  · rename_i a b
    have e1 : x = V.str a := rx
    have e2 : y = V.str b := ry
    subst e1 e2
    exact .inl ⟨rfl, by rw [dec_str]; exact l.fz hS (d := .bl (!(a == b))) rfl q⟩
  · split at q
    · rename_i d e h1 h2
      exact .inr ⟨d, e, toPy_vw hS rx h1, toPy_vw hS ry h2, q.1, q.2.1, l.fz hS (d := .bl _) rfl q.2.2⟩
    · exact q.elim
/-- a bool stays where it is -/
theorem fz_bl {Q : VK} {b : Bool} {H : Hp} (h : FzQ Q (.bl b) H) : Q (.bl b) H := by
  rcases h with h | ⟨a, xs, e, _⟩ | ⟨a, xs, e, _⟩
  · exact h
  · cases e
  · cases e
theorem bools_eq {K : PySem.W.Frag} : Bools (rEqA K) := fun x y H Q h => h.elim (fun ⟨a, b⟩ => .inl ⟨a, fz_bl b⟩) fun ⟨d, e, a, b, c, f, g⟩ => .inr ⟨d, e, a, b, c, f, fz_bl g⟩
theorem bools_ne {K : PySem.W.Frag} : Bools (rNeA K) := fun x y H Q h => h.elim (fun ⟨a, b⟩ => .inl ⟨a, fz_bl b⟩) fun ⟨d, e, a, b, c, f, g⟩ => .inr ⟨d, e, a, b, c, f, fz_bl g⟩

/-! ### < <= > >= -/
def rOrd (p : Int → Int → Bool) (q : List Nat → List Nat → Bool) : R2 := fun x y H Q => (∃ i j, x = .int i ∧ y = .int j ∧ Q (.bl (p i j)) H) ∨ ∃ i j, x = .str i ∧ y = .str j ∧ Q (.bl (q i.cps.toList j.cps.toList)) H
def gOrd (p : Int → Int → Bool) (q : List Nat → List Nat → Bool) : G2 := fun x y S Q => match x, y with
  | .int i, .int j => Q (.bl (p i j)) S
  | .str i, .str j => Q (.bl (q i.cps.toList j.cps.toList)) S
  | _, _ => False
theorem d_ord {K : PySem.W.Frag} {p : Int → Int → Bool} {q : List Nat → List Nat → Bool} : OpD K (rOrd p q) (gOrd p q) := by
  intro x y S H dx dy Qd Q hS rx ry h l
  unfold gOrd at h
  split at h
  · exact .inl ⟨_, _, rx, ry, l.fz hS (d := .bl _) rfl h⟩
  · exact .inr ⟨_, _, rx, ry, l.fz hS (d := .bl _) rfl h⟩
  · exact h.elim
theorem bools_ord {p : Int → Int → Bool} {q : List Nat → List Nat → Bool} : Bools (rOrd p q) := fun x y H Q h => h.elim (fun ⟨i, j, a, b, c⟩ => .inl ⟨i, j, a, b, fz_bl c⟩) fun ⟨i, j, a, b, c⟩ => .inr ⟨i, j, a, b, fz_bl c⟩
abbrev gLt : G2 := gOrd (fun i j => decide (i < j)) (fun i j => decide (i < j))
abbrev gLe : G2 := gOrd (fun i j => decide (i ≤ j)) (fun i j => !decide (j < i))
abbrev gGt : G2 := gOrd (fun i j => decide (j < i)) (fun i j => decide (j < i))
abbrev gGe : G2 := gOrd (fun i j => decide (j ≤ i)) (fun i j => !decide (i < j))
section
variable {X : Cx}
theorem op_ltA : OpR X (compareOp .Lt) (rOrd (fun i j => decide (i < j)) (fun i j => decide (i < j))) := OpR.or op_lt op_lt_str
theorem op_leA : OpR X (compareOp .LtE) (rOrd (fun i j => decide (i ≤ j)) (fun i j => !decide (j < i))) := OpR.or op_le op_le_str
theorem op_gtA : OpR X (compareOp .Gt) (rOrd (fun i j => decide (j < i)) (fun i j => decide (j < i))) := OpR.or op_gt op_gt_str
theorem op_geA : OpR X (compareOp .GtE) (rOrd (fun i j => decide (j ≤ i)) (fun i j => !decide (i < j))) := OpR.or op_ge op_ge_str
end

/-! ### is None, is not None -/
def isNon : D → Bool
  | .non => true
  | _ => false
theorem isNon_rel {K : PySem.W.Frag} {H : Hp} {d : D} {v : V} (r : Rel K H d v) : decide (v = .non) = isNon d := by
  cases d with
  | non => have e : v = _ := r; subst e; rfl
  | bl b => have e : v = _ := r; subst e; rfl
  | int i => have e : v = _ := r; subst e; rfl
  | str x => have e : v = _ := r; subst e; rfl
  | ty n => have e : v = _ := r; subst e; rfl
  | ref a => have e : v = _ := r; subst e; rfl
  | exn c a ks xs => obtain ⟨e, _⟩ := r; subst e; rfl
  | tup xs => obtain ⟨a, ys, e, _⟩ := r; subst e; rfl
  | lst xs => obtain ⟨a, ys, e, _⟩ := r; subst e; rfl
  | kls xs => obtain ⟨a, ys, e, _⟩ := r; subst e; rfl
  | dct ks xs => obtain ⟨a, ys, e, _⟩ := r; subst e; rfl
def rIsN : R2 := fun v y H Q => y = .non ∧ Q (.bl (decide (v = .non))) H
def rIsnN : R2 := fun x y H Q => y = .non ∧ Q (.bl (!decide (x = .non))) H
def gIs : G2 := fun x y S Q => match y with
  | .non => Q (.bl (isNon x)) S
  | _ => False
def gIsn : G2 := fun x y S Q => match y with
  | .non => Q (.bl (!isNon x)) S
  | _ => False
theorem d_is {K : PySem.W.Frag} : OpD K rIsN gIs := by
  intro x y S H dx dy Qd Q hS rx ry h l
  unfold gIs at h
  split at h
  · exact ⟨ry, by rw [isNon_rel rx]; exact l.fz hS (d := .bl _) rfl h⟩
  · exact h.elim
theorem d_isn {K : PySem.W.Frag} : OpD K rIsnN gIsn := by
  intro x y S H dx dy Qd Q hS rx ry h l
  unfold gIsn at h
  split at h
  · exact ⟨ry, by rw [isNon_rel rx]; exact l.fz hS (d := .bl _) rfl h⟩
  · exact h.elim
theorem bools_is : Bools rIsN := fun x y H Q h => ⟨h.1, fz_bl h.2⟩
theorem bools_isn : Bools rIsnN := fun x y H Q h => ⟨h.1, fz_bl h.2⟩
theorem op_isA {X : Cx} : OpR X (compareOp .Is) rIsN := op_isN
theorem op_isnA {X : Cx} : OpR X (compareOp .IsNot) rIsnN := op_notN

/-! ### in, not in: a list, a tuple of flat things; a sign in a text -/
def flatD : D → Bool
  | .non => true
  | .bl _ => true
  | .int _ => true
  | .str _ => true
  | _ => false
def eqF : D → D → Bool
  | .non, .non => true
  | .bl a, .bl b => a == b
  | .bl p, .int b => (if p then 1 else 0) == b
  | .int a, .bl p => a == (if p then 1 else 0)
  | .int a, .int b => a == b
  | .str a, .str b => a == b
  | _, _ => false
theorem flatD_rel {K : PySem.W.Frag} {H : Hp} {d : D} {v : V} (r : Rel K H d v) (h : flatD d = true) : flatV v = true := by
  cases d with
  | non => have e : v = _ := r; subst e; rfl
  | bl b => have e : v = _ := r; subst e; rfl
  | int i => have e : v = _ := r; subst e; rfl
  | str x => have e : v = _ := r; subst e; rfl
  | _ => cases h
theorem eqF_rel {K : PySem.W.Frag} {H : Hp} {d e : D} {v u : V} (r : Rel K H d v) (q : Rel K H e u) (h : flatD d = true) (k : flatD e = true) : eqV v u = eqF d e := by
  cases d <;> first
    | cases h; done
    | (have e1 := r
       cases e <;> first
         | cases k; done
         | (have e2 := q
            cases e1
            cases e2
            rfl))
def inD (x : D) (ys : List D) : Bool := ys.any fun y => eqF y x
theorem inD_rel {K : PySem.W.Frag} {H : Hp} {d : D} {v : V} (r : Rel K H d v) (h : flatD d = true) : ∀ {ds : List D} {vs : List V}, Rels K H ds vs → ds.all flatD = true → vs.all flatV = true ∧ inV v vs = inD d ds
  | [], _, e, _ => by have z : _ = [] := e; subst z; exact ⟨rfl, rfl⟩
  | y :: ds, _, ⟨u, us, e, h1, t⟩, f => by
    subst e
    rw [List.all_cons, Bool.and_eq_true_iff] at f
    obtain ⟨a, b⟩ := inD_rel r h t f.2
    refine ⟨by rw [List.all_cons, flatD_rel h1 f.1, a]; rfl, ?_⟩
    show (eqV u v || inV v us) = (eqF y d || inD d ds)
    rw [eqF_rel h1 r f.1 h, b]
def signOf : D → Option Nat
  | .str x => match x.cps.toList with
    | [c] => some c
    | _ => none
  | _ => none
def rInA (K : PySem.W.Frag) (neg : Bool) : R2 := fun x y H Q => rIn K neg x y H Q ∨ ∃ (c : Nat) (z : Str), x = .str ⟨#[c]⟩ ∧ y = .str z ∧ Q (.bl (if neg then !decide (c ∈ z.cps.toList) else decide (c ∈ z.cps.toList))) H
def gIn (neg : Bool) : G2 := fun x y S Q => match vw y S with
  | .lst ys => flatD x = true ∧ ys.all flatD = true ∧ Q (.bl (if neg then !inD x ys else inD x ys)) S
  | .tup ys => flatD x = true ∧ ys.all flatD = true ∧ Q (.bl (if neg then !inD x ys else inD x ys)) S
  | .str z => match signOf x with
    | some c => Q (.bl (if neg then !decide (c ∈ z.cps.toList) else decide (c ∈ z.cps.toList))) S
    | none => False
  | _ => False
theorem op_inA {X : Cx} : OpR X (compareOp .In) (rInA X.K false) := OpR.or op_in_seq op_in_sign
theorem op_notInA {X : Cx} : OpR X (compareOp .NotIn) (rInA X.K true) := OpR.or op_notIn_seq op_notIn_sign
theorem sign_rel {K : PySem.W.Frag} {H : Hp} {d : D} {v : V} {c : Nat} (r : Rel K H d v) (h : signOf d = some c) : v = .str ⟨#[c]⟩ := by
  cases d with
  | str x =>
    have e : v = _ := r
    subst e
    unfold signOf at h
    dsimp only at h
    split at h
    · rename_i c' e'
      cases h
      obtain ⟨⟨l⟩⟩ := x
      simp only at e'
      subst e'
      rfl
    · cases h
  | _ => cases h
theorem d_in {K : PySem.W.Frag} {neg : Bool} : OpD K (rInA K neg) (gIn neg) := by
  intro x y S H dx dy Qd Q hS rx ry h l
  unfold gIn at h
  split at h
  · rename_i ys e
    obtain ⟨a, vs, ea, ha, rs⟩ := vw_lst hS ry e
    obtain ⟨f, g⟩ := inD_rel rx h.1 rs h.2.1
    exact .inl ⟨a, vs, ea, .inl (.inl ha), flatD_rel rx h.1, f, by rw [g]; exact l.fz hS (d := .bl _) rfl h.2.2⟩
  · rename_i ys e
    obtain ⟨a, vs, ea, ha, rs⟩ := vw_tup hS ry e
    obtain ⟨f, g⟩ := inD_rel rx h.1 rs h.2.1
    exact .inl ⟨a, vs, ea, .inr ha, flatD_rel rx h.1, f, by rw [g]; exact l.fz hS (d := .bl _) rfl h.2.2⟩
  · rename_i z e
    split at h
    · rename_i c ec
      exact .inr ⟨c, z, sign_rel rx ec, vw_str hS ry e, l.fz hS (d := .bl _) rfl h⟩
    · exact h.elim
  · exact h.elim
theorem bools_in {K : PySem.W.Frag} {neg : Bool} : Bools (rInA K neg) := fun x y H Q h => h.elim (fun ⟨a, b, c, d, e, f, g⟩ => .inl ⟨a, b, c, d, e, f, fz_bl g⟩) fun ⟨a, b, c, d, g⟩ => .inr ⟨a, b, c, d, fz_bl g⟩

/-! ### subscripts -/
def dlook (ks : List Key) (ds : List D) (k : Key) : Option D := match ks, ds with
  | j :: ks, d :: ds => if j = k then some d else dlook ks ds k
  | _, _ => none
def keyD : D → Option Key
  | .int i => some (.inl i)
  | .str x => some (.inr x)
  | _ => none
theorem keyD_rel {K : PySem.W.Frag} {H : Hp} {d : D} {v : V} {k : Key} (r : Rel K H d v) (h : keyD d = some k) : v = kV k := by
  cases d with
  | int i => cases h; exact r
  | str x => cases h; exact r
  | _ => cases h
theorem dlook_rel {K : PySem.W.Frag} {H : Hp} (k : Key) : ∀ {ks : List Key} {ds : List D} {vs : List V}, Rels K H ds vs → ks.length = ds.length →
    (dlook ks ds k = none ∧ valV (ks.zip vs) k = none) ∨ ∃ d v, dlook ks ds k = some d ∧ valV (ks.zip vs) k = some v ∧ Rel K H d v
  | [], _, _, _, _ => .inl ⟨by unfold dlook; rfl, rfl⟩
  | j :: ks, [], _, _, l => by cases l
  | j :: ks, d :: ds, _, ⟨v, r, e, h, t⟩, l => by
    subst e
    by_cases hj : j = k
    · exact .inr ⟨d, v, by unfold dlook; rw [if_pos hj], by rw [List.zip_cons_cons, valV_pos hj], h⟩
    · have ih := dlook_rel k t (by simpa using l)
      unfold dlook
      rw [if_neg hj, List.zip_cons_cons, valV_neg hj]
      exact ih
def rIxD : R2 := fun x y H Q => ∃ a v, x = .ref a ∧ DGet H a y (some v) ∧ Q v H
theorem ix_dict {X : Cx} (hu : X.A.units + 1 < cLine) : IxR X rIxD := by
  intro value slice pins s σ H x y v u Q I rx ry ⟨a, z, ex, g, q⟩ hs
  subst ex
  cases rx
  exact tail_any (dict_typeIs I g) PySem.F.slot_dict_getitem.lookup (d_getItem hu I g ry fun w s' J rw' => ⟨z, H, J, rw', q⟩) hs
def rIxA (K : PySem.W.Frag) : R2 := fun x y H Q => rIx K x y H Q ∨ rIxD x y H Q
theorem ix_all {X : Cx} (hu : X.A.units + 1 < cLine) : IxR X (rIxA X.K) := IxR.or ix_seq (ix_dict hu)
def gIx : G2 := fun x y S Q => match vw x S with
  | .lst ds => match y with
    | .int i => match atI ds i with
      | some d => Q d S
      | none => False
    | _ => False
  | .tup ds => match y with
    | .int i => match atI ds i with
      | some d => Q d S
      | none => False
    | _ => False
  | .str z => match y with
    | .int i => z.length ≤ sizeLine ∧ match atI z.cps.toList i with
      | some c => Q (.str ⟨#[c]⟩) S
      | none => False
    | _ => False
  | .dct ks ds => match keyD y with
    | some k => match dlook ks ds k with
      | some d => Q d S
      | none => False
    | none => False
  | _ => False
theorem atI_rel {K : PySem.W.Frag} {H : Hp} {ds : List D} {vs : List V} {i : Int} {d : D} (r : Rels K H ds vs) (h : atI ds i = some d) : ∃ v, atI vs i = some v ∧ Rel K H d v := by
  unfold atI at h ⊢
  rw [← r.length]
  obtain ⟨j, e, h2⟩ := Option.bind_eq_some_iff.mp h
  obtain ⟨v, a, b⟩ := r.get h2
  exact ⟨v, by rw [e]; exact a, b⟩
theorem d_ix {K : PySem.W.Frag} : OpD K (rIxA K) gIx := by
  intro x y S H dx dy Qd Q hS rx ry h l
  unfold gIx at h
  split at h
  · rename_i ds e
    obtain ⟨a, vs, ea, ha, rs⟩ := vw_lst hS rx e
    split at h
    · rename_i i
      split at h
      · rename_i d ed
        obtain ⟨v, ev, rv⟩ := atI_rel rs ed
        exact .inl (.inl ⟨a, vs, i, v, ea, ry, .inl ha, ev, l.fz hS rv h⟩)
      · exact h.elim
    · exact h.elim
  · rename_i ds e
    obtain ⟨a, vs, ea, ha, rs⟩ := vw_tup hS rx e
    split at h
    · rename_i i
      split at h
      · rename_i d ed
        obtain ⟨v, ev, rv⟩ := atI_rel rs ed
        exact .inl (.inr (.inl ⟨a, vs, i, v, ea, ry, ha, ev, l.fz hS rv h⟩))
      · exact h.elim
    · exact h.elim
  · rename_i z e
    split at h
    · rename_i i
      obtain ⟨hz, h⟩ := h
      split at h
      · rename_i c ec
        exact .inl (.inr (.inr ⟨z, i, c, vw_str hS rx e, ry, hz, ec, l.fz hS (d := .str ⟨#[c]⟩) rfl h⟩))
      · exact h.elim
    · exact h.elim
  · rename_i ks ds e
    obtain ⟨a, vs, ea, ha, hl, rs⟩ := vw_dct hS rx e
    split at h
    · rename_i k ek
      split at h
      · rename_i d ed
        rcases dlook_rel k rs hl with ⟨z, _⟩ | ⟨d', v, z1, z2, z3⟩
        · rw [ed] at z; cases z
        · rw [ed] at z1; cases z1
          exact .inr ⟨a, v, ea, .inl ⟨_, k, ha, keyD_rel ry ek, z2.symm⟩, l.fz hS z3 h⟩
      · exact h.elim
    · exact h.elim
  · exact h.elim

/-! ### built-in functions and types -/
abbrev GA := List D → Store → Post → Prop
def CallD (K : PySem.W.Frag) (r : List V → Hp → VK → Prop) (g : GA) : Prop := ∀ xs S H ds Qd Q, SRel K S H → Rels K H ds xs → g ds S Qd → LQ K S H Qd Q → r xs H (FzQ Q)
def evB (g : GA) (fa : EA) : ET := fun ρ S Q E => fa ρ S (fun ds S1 => g ds S1 Q) E
section
variable {X : Cx} {W : WX} {r : List V → Hp → VK → Prop} {g : GA} {x : Str} {id T : String} {e : Expr} {es : List Expr} {fa : EA} {n : Nat} {p pos : Pos}
theorem e_callB (hc : CallR X (.builtin id) r) (hg : CallD X.K r g) (gl : Gl X x) (hm : X.mg x = none) (hv : bootBuiltins x = some (.builtin id)) (ha : PA X (e :: es) (rdA X.K W n fa)) (hn : x ≠ "__name__" := by decide) (hdb : (x == ("__debug__" : Str)) = false := by decide)
    (he : starEach (e :: es) X.env = (false, eval e X.env) :: starEach es X.env := by rfl) (hpl : (backTo pos (starEach es X.env)).any (·.1) = false := by rfl) : PE X (.Call (.Name x p) (e :: es) [] pos) (rdE X.K W (evB g fa)) :=
  PE_imp (pe_fz (pe_callB hc gl hm hv ha hn hdb he hpl)) fun σ H Q ⟨ρ, S, Qd, Ed, hρ, hS, hf, lq, lx⟩ =>
    ⟨ρ, S, _, Ed, hρ, hS, hf, fun ds S1 vs H1 e1 r1 q1 hl h1 => hg _ _ _ _ _ _ r1 q1 h1 (lq.mono e1), lx⟩
theorem e_callTy (hc : CallR X (.type T) r) (hg : CallD X.K r g) (gl : Gl X x) (hm : X.mg x = none) (hv : bootBuiltins x = some (.type T)) (ha : PA X (e :: es) (rdA X.K W n fa)) (hn : x ≠ "__name__" := by decide) (hdb : (x == ("__debug__" : Str)) = false := by decide)
    (he : starEach (e :: es) X.env = (false, eval e X.env) :: starEach es X.env := by rfl) (hpl : (backTo pos (starEach es X.env)).any (·.1) = false := by rfl) : PE X (.Call (.Name x p) (e :: es) [] pos) (rdE X.K W (evB g fa)) :=
  PE_imp (pe_fz (pe_callTy hc gl hm hv ha hn hdb he hpl)) fun σ H Q ⟨ρ, S, Qd, Ed, hρ, hS, hf, lq, lx⟩ =>
    ⟨ρ, S, _, Ed, hρ, hS, hf, fun ds S1 vs H1 e1 r1 q1 hl h1 => hg _ _ _ _ _ _ r1 q1 h1 (lq.mono e1), lx⟩
end
end MP

set_option Elab.async false
set_option linter.all false
set_option maxRecDepth 100000
set_option maxHeartbeats 2100000
/-! MPBuilt: built-ins, methods, dict displays, stores, what is walked. -/
namespace MP
open PySem PyProof.Rows PySem.Spec L2

/-! ### len, int, abs, min, max -/
def gLen : GA := fun ds S Q => match ds with
  | [d] => match vw d S with
    | .lst xs => Q (.int xs.length) S
    | .kls xs => Q (.int xs.length) S
    | .tup xs => Q (.int xs.length) S
    | .dct ks _ => Q (.int ks.length) S
    | .str z => z.length ≤ sizeLine ∧ Q (.int z.length) S
    | _ => False
  | _ => False
def rLenD : List V → Hp → VK → Prop := fun xs H Q => ∃ a kvs, xs = [.ref a] ∧ Rd H a (.dK kvs) ∧ Q (.int kvs.length) H
theorem call_lenRd {X : Cx} : CallR X (.builtin "len") rLenD := by
  intro pins s σ H xs us Q I r ⟨a, kvs, e, h, q⟩
  subst e
  have ⟨u, eu, ru⟩ := vals1 r; subst eu
  cases ru
  exact d_len I h fun t s' J => ⟨.int kvs.length, H, J, ⟨t, rfl⟩, q⟩
def rLenA (K : PySem.W.Frag) : List V → Hp → VK → Prop := fun xs H Q => (∃ p ys, xs = [.ref p] ∧ (SqL K H p ys ∨ SqT K H p ys) ∧ Q (.int ys.length) H) ∨ (∃ z, xs = [.str z] ∧ z.length ≤ sizeLine ∧ Q (.int z.length) H) ∨ rLenD xs H Q
theorem call_lenA {X : Cx} : CallR X (.builtin "len") (rLenA X.K) := CallR.or call_len_seq (CallR.or call_len_str call_lenRd)
section
variable {K : PySem.W.Frag}
theorem rels1 {H : Hp} {d : D} {xs : List V} (r : Rels K H [d] xs) : ∃ v, xs = [v] ∧ Rel K H d v := Rels.one r
theorem rels2 {H : Hp} {d e : D} {xs : List V} (r : Rels K H [d, e] xs) : ∃ v u, xs = [v, u] ∧ Rel K H d v ∧ Rel K H e u := by
  obtain ⟨v, r', rfl, h, t⟩ := r
  obtain ⟨u, rfl, h2⟩ := Rels.one t
  exact ⟨v, u, rfl, h, h2⟩
theorem d_len_ : CallD K (rLenA K) gLen := by
  intro xs S H ds Qd Q hS r h l
  unfold gLen at h
  split at h
  · obtain ⟨v, rfl, rv⟩ := rels1 r
    split at h
    · rename_i ys e
      obtain ⟨a, vs, ea, ha, rs⟩ := vw_lst hS rv e
      exact .inl ⟨a, vs, by rw [ea], .inl (.inl ha), by rw [← rs.length]; exact l.fz hS (d := .int _) rfl h⟩
    · rename_i ys e
      obtain ⟨a, vs, ea, ha, rs⟩ := vw_kls hS rv e
      exact .inl ⟨a, vs, by rw [ea], .inl ha, by rw [← rs.length]; exact l.fz hS (d := .int _) rfl h⟩
    · rename_i ys e
      obtain ⟨a, vs, ea, ha, rs⟩ := vw_tup hS rv e
      exact .inl ⟨a, vs, by rw [ea], .inr ha, by rw [← rs.length]; exact l.fz hS (d := .int _) rfl h⟩
    · rename_i ks ys e
      obtain ⟨a, vs, ea, ha, hl, rs⟩ := vw_dct hS rv e
      refine .inr (.inr ⟨a, _, by rw [ea], ha, ?_⟩)
      rw [show (ks.zip vs).length = ks.length by rw [List.length_zip, ← rs.length, hl, Nat.min_self]]
      exact l.fz hS (d := .int _) rfl h
    · rename_i z e
      exact .inr (.inl ⟨z, by rw [vw_str hS rv e], h.1, l.fz hS (d := .int _) rfl h.2⟩)
    · exact h.elim
  · exact h.elim
def gInt : GA := fun ds S Q => match ds with
  | [.int i] => Q (.int i) S
  | [.bl b] => Q (.int (if b then 1 else 0)) S
  | _ => False
theorem d_int : CallD K (fun xs H Q => (∃ i, xs = [.int i] ∧ Q (.int i) H) ∨ ∃ k, xs = [.bl k] ∧ Q (.int (if k then 1 else 0)) H) gInt := by
  intro xs S H ds Qd Q hS r h l
  unfold gInt at h
  split at h
  · obtain ⟨v, rfl, rv⟩ := rels1 r
    have e : v = _ := rv
    subst e
    exact .inl ⟨_, rfl, l.fz hS (d := .int _) rfl h⟩
  · obtain ⟨v, rfl, rv⟩ := rels1 r
    have e : v = _ := rv
    subst e
    exact .inr ⟨_, rfl, l.fz hS (d := .int _) rfl h⟩
  · exact h.elim
def gAbs : GA := fun ds S Q => match ds with
  | [.int i] => Q (.int (if i < 0 then -i else i)) S
  | _ => False
theorem d_abs : CallD K (fun xs H Q => ∃ i, xs = [.int i] ∧ Q (.int (if i < 0 then -i else i)) H) gAbs := by
  intro xs S H ds Qd Q hS r h l
  unfold gAbs at h
  split at h
  · obtain ⟨v, rfl, rv⟩ := rels1 r
    have e : v = _ := rv
    subst e
    exact ⟨_, rfl, l.fz hS (d := .int _) rfl h⟩
  · exact h.elim
/-- min, max of two ints, or of a list of ints -/
def ints? : List D → Option (List Int)
  | [] => some []
  | .int i :: r => (ints? r).map (i :: ·)
  | _ => none
theorem ints_rel {H : Hp} : ∀ {ds : List D} {vs : List V} {ns : List Int}, Rels K H ds vs → ints? ds = some ns → vs = ns.map V.int
  | [], _, _, r, e => by cases e; exact r
  | d :: ds, _, _, ⟨v, r, e1, h, t⟩, e => by
    cases d with
    | int i =>
      obtain ⟨ns, e2, e3⟩ := Option.map_eq_some_iff.mp e
      subst e1 e3
      have ev : v = _ := h
      subst ev
      rw [ints_rel t e2]
      rfl
    | _ => cases e
def gExt (better : Int → Int → Bool) : GA := fun ds S Q => match ds with
  | [.int i, .int j] => Q (.int (if better j i then j else i)) S
  | [d] => match vw d S with
    | .lst xs => match ints? xs with
      | some ns => 0 < ns.length ∧ ∀ m, m ∈ ns → (∀ y, y ∈ ns → better y m = false) → Q (.int m) S
      | none => False
    | _ => False
  | _ => False
def rMaxA (K : PySem.W.Frag) : List V → Hp → VK → Prop := fun xs H Q => (∃ i j, xs = [.int i, .int j] ∧ Q (.int (if j > i then j else i)) H) ∨ rMax K xs H Q
def rMinA (K : PySem.W.Frag) : List V → Hp → VK → Prop := fun xs H Q => (∃ i j, xs = [.int i, .int j] ∧ Q (.int (if j < i then j else i)) H) ∨ rMin K xs H Q
theorem call_maxA {X : Cx} (hc : X.calm = true) : CallR X (.builtin "max") (rMaxA X.K) := CallR.or (call_max2 hc) (cr_max hc)
theorem call_minA {X : Cx} (hc : X.calm = true) : CallR X (.builtin "min") (rMinA X.K) := CallR.or (call_min2 hc) (cr_min hc)
def gMax : GA := gExt fun y m => decide (m < y)
def gMin : GA := gExt fun y m => decide (y < m)
theorem d_max : CallD K (rMaxA K) gMax := by
  intro xs S H ds Qd Q hS r h l
  unfold gMax gExt at h
  split at h
  · rename_i i j
    obtain ⟨v, u, rfl, rv, ru⟩ := rels2 r
    have e : v = _ := rv
    have e2 : u = _ := ru
    subst e e2
    refine .inl ⟨i, j, rfl, l.fz hS (d := .int (if j > i then j else i)) rfl ?_⟩
    by_cases c : i < j
    · rw [if_pos (decide_eq_true c)] at h; rw [if_pos (show j > i from c)]; exact h
    · rw [if_neg (by simpa using c)] at h; rw [if_neg (show ¬ j > i from c)]; exact h
  · obtain ⟨v, rfl, rv⟩ := rels1 r
    split at h
    · rename_i ys e
      obtain ⟨a, vs, ea, ha, rs⟩ := vw_lst hS rv e
      split at h
      · rename_i ns en
        have ev := ints_rel rs en
        subst ev
        exact .inr ⟨a, ns, by rw [ea], .inl ha, h.1, fun m hm hle => l.fz hS (d := .int m) rfl (h.2 m hm fun y hy => decide_eq_false (by have := hle y hy; omega))⟩
      · exact h.elim
    · exact h.elim
  · exact h.elim
theorem d_min : CallD K (rMinA K) gMin := by
  intro xs S H ds Qd Q hS r h l
  unfold gMin gExt at h
  split at h
  · rename_i i j
    obtain ⟨v, u, rfl, rv, ru⟩ := rels2 r
    have e : v = _ := rv
    have e2 : u = _ := ru
    subst e e2
    refine .inl ⟨i, j, rfl, l.fz hS (d := .int (if j < i then j else i)) rfl ?_⟩
    by_cases c : j < i
    · rw [if_pos (decide_eq_true c)] at h; rw [if_pos c]; exact h
    · rw [if_neg (by simpa using c)] at h; rw [if_neg c]; exact h
  · obtain ⟨v, rfl, rv⟩ := rels1 r
    split at h
    · rename_i ys e
      obtain ⟨a, vs, ea, ha, rs⟩ := vw_lst hS rv e
      split at h
      · rename_i ns en
        have ev := ints_rel rs en
        subst ev
        exact .inr ⟨a, ns, by rw [ea], .inl ha, h.1, fun m hm hle => l.fz hS (d := .int m) rfl (h.2 m hm fun y hy => decide_eq_false (by have := hle y hy; omega))⟩
      · exact h.elim
    · exact h.elim
  · exact h.elim
/-! any, all of a list of bools -/
def bls? : List D → Option (List Bool)
  | [] => some []
  | .bl i :: r => (bls? r).map (i :: ·)
  | _ => none
theorem bls_rel {H : Hp} : ∀ {ds : List D} {vs : List V} {ns : List Bool}, Rels K H ds vs → bls? ds = some ns → vs = ns.map V.bl
  | [], _, _, r, e => by cases e; exact r
  | d :: ds, _, _, ⟨v, r, e1, h, t⟩, e => by
    cases d with
    | bl i =>
      obtain ⟨ns, e2, e3⟩ := Option.map_eq_some_iff.mp e
      subst e1 e3
      have ev : v = _ := h
      subst ev
      rw [bls_rel t e2]
      rfl
    | _ => cases e
def gBls (f : List Bool → Bool) : GA := fun ds S Q => match ds with
  | [d] => match vw d S with
    | .lst xs => match bls? xs with
      | some bs => Q (.bl (f bs)) S
      | none => False
    | _ => False
  | _ => False
def gAny : GA := gBls fun bs => bs.any id
def gAll : GA := gBls fun bs => bs.all id
theorem d_any : CallD K (rAny K) gAny := by
  intro xs S H ds Qd Q hS r h l
  unfold gAny gBls at h
  split at h
  · obtain ⟨v, rfl, rv⟩ := rels1 r
    split at h
    · rename_i ys e
      obtain ⟨a, vs, ea, ha, rs⟩ := vw_lst hS rv e
      split at h
      · rename_i ns en
        have ev := bls_rel rs en
        subst ev
        exact ⟨a, ns, by rw [ea], .inl ha, l.fz hS (d := .bl _) rfl h⟩
      · exact h.elim
    · exact h.elim
  · exact h.elim
theorem d_all : CallD K (rAll K) gAll := by
  intro xs S H ds Qd Q hS r h l
  unfold gAll gBls at h
  split at h
  · obtain ⟨v, rfl, rv⟩ := rels1 r
    split at h
    · rename_i ys e
      obtain ⟨a, vs, ea, ha, rs⟩ := vw_lst hS rv e
      split at h
      · rename_i ns en
        have ev := bls_rel rs en
        subst ev
        exact ⟨a, ns, by rw [ea], .inl ha, l.fz hS (d := .bl _) rfl h⟩
      · exact h.elim
    · exact h.elim
  · exact h.elim
/-! list(x), tuple(x) -/
def seqW (d : D) : Option (List D) := match d with
  | .lst xs => some xs
  | .kls xs => some xs
  | .tup xs => some xs
  | _ => none
theorem seqW_rel {S : Store} {H : Hp} {d : D} {v : V} {xs : List D} (hS : SRel K S H) (r : Rel K H d v) (e : seqW (vw d S) = some xs) : ∃ a vs, v = .ref a ∧ (SqL K H a vs ∨ SqT K H a vs) ∧ Rels K H xs vs := by
  unfold seqW at e
  split at e
  · rename_i ys ey
    cases e
    obtain ⟨a, vs, ea, ha, rs⟩ := vw_lst hS r ey
    exact ⟨a, vs, ea, .inl (.inl ha), rs⟩
  · rename_i ys ey
    cases e
    obtain ⟨a, vs, ea, ha, rs⟩ := vw_kls hS r ey
    exact ⟨a, vs, ea, .inl ha, rs⟩
  · rename_i ys ey
    cases e
    obtain ⟨a, vs, ea, ha, rs⟩ := vw_tup hS r ey
    exact ⟨a, vs, ea, .inr ha, rs⟩
  · cases e
def gList (mk : MkT) : GA := fun ds S Q => match ds with
  | [d] => match seqW (vw d S) with
    | some xs => mk xs S Q
    | none => False
  | _ => False
def rListA (K : PySem.W.Frag) : List V → Hp → VK → Prop := fun xs H Q => ∃ p ys, xs = [.ref p] ∧ (SqL K H p ys ∨ SqT K H p ys) ∧ ∀ l, H l = none → Q (.ref l) (upd H l (.lst ys))
theorem d_list {mk : MkT} (hm : MkOk K mk) : CallD K (rListA K) (gList mk) := by
  intro xs S H ds Qd Q hS r h l
  unfold gList at h
  split at h
  · obtain ⟨v, rfl, rv⟩ := rels1 r
    split at h
    · rename_i ys e
      obtain ⟨a, vs, ea, ha, rs⟩ := seqW_rel hS rv e
      exact ⟨a, vs, by rw [ea], ha, fun p hp => hm _ _ _ _ _ _ _ hS hp rs h l⟩
    · exact h.elim
  · exact h.elim
def gTuple : GA := fun ds S Q => match ds with
  | [d] => match seqW (vw d S) with
    | some xs => Q (.tup xs) S
    | none => False
  | _ => False
def rTupleA (K : PySem.W.Frag) : List V → Hp → VK → Prop := fun xs H Q => ∃ p ys, xs = [.ref p] ∧ ((SqL K H p ys ∧ ∀ l, H l = none → Q (.ref l) (upd H l (.tup ys))) ∨ (SqT K H p ys ∧ Q (.ref p) H))
theorem d_tuple : CallD K (rTupleA K) gTuple := by
  intro xs S H ds Qd Q hS r h l
  unfold gTuple at h
  split at h
  · obtain ⟨v, rfl, rv⟩ := rels1 r
    split at h
    · rename_i ys e
      obtain ⟨a, vs, ea, ha, rs⟩ := seqW_rel hS rv e
      refine ⟨a, vs, by rw [ea], ?_⟩
      rcases ha with ha | ha
      · exact .inl ⟨ha, fun p hp => .inl (new_tup hS hp rs h l)⟩
      · exact .inr ⟨ha, l.fz hS (d := .tup ys) ⟨a, vs, rfl, ha, rs⟩ h⟩
    · exact h.elim
  · exact h.elim
end
theorem call_listA {X : Cx} : CallR X (.type "list") (rListA X.K) := call_list_of
theorem call_tupleA {X : Cx} : CallR X (.type "tuple") (rTupleA X.K) := call_tuple_of

/-! ### isinstance -/
/-- the class of a value -/
def tyD (d : D) : Option Value := match d with
  | .non => some (.type "NoneType")
  | .bl _ => some (.type "bool")
  | .int _ => some (.type "int")
  | .str _ => some (.type "str")
  | .tup _ => some (.type "tuple")
  | .lst _ => some (.type "list")
  | .dct _ _ => some (.type "dict")
  | _ => none
def clsD : D → Option Value
  | .ty n => some (.type n)
  | .ref C => some (.ref C)
  | _ => none
theorem tyD_rel {K : PySem.W.Frag} {S : Store} {H : Hp} {d : D} {v : V} {t : Value} (hS : SRel K S H) (r : Rel K H d v) (h : tyD (vw d S) = some t) : TyX K H v t := by
  unfold tyD at h
  split at h
  · rename_i e; cases h; rw [vw_non hS r e]; exact .base .non
  · rename_i b e; cases h; rw [vw_bl hS r e]; exact .base (.bl b)
  · rename_i i e; cases h; rw [vw_int hS r e]; exact .base (.int i)
  · rename_i x e; cases h; rw [vw_str hS r e]; exact .base (.str x)
  · rename_i xs e
    cases h
    obtain ⟨a, vs, ea, ha, rs⟩ := vw_tup hS r e
    subst ea
    rcases ha with (ha | ⟨o, ha⟩) | ⟨o, its, n, hk, hc, _⟩
    · exact .base (.tup ha)
    · exact .fTuple ha
    · exact .kTuple hk hc
  · rename_i xs e
    cases h
    obtain ⟨a, vs, ea, ha, rs⟩ := vw_lst hS r e
    subst ea
    rcases ha with ha | ⟨o, ha⟩
    · exact .base (.lst ha)
    · exact .base (.frz ha)
  · rename_i ks xs e
    cases h
    obtain ⟨a, vs, ea, ha, hl, rs⟩ := vw_dct hS r e
    subst ea
    rcases ha with ha | ⟨o, ha⟩
    · exact .base (.dK ha)
    · exact .fDict ha
  · cases h
/-- isinstance's answer among written types; of the classes of the text by the table sub -/
def isiV (sub : Value → Value → Option Bool) (t c : Value) : Option Bool := match t, c with
  | .type a, .type b => kitB a b
  | t, c => sub t c
def isiA (sub : Value → Value → Option Bool) (t : Value) : List Value → Option Bool
  | [] => some false
  | c :: r => match isiV sub t c with
    | some true => some true
    | some false => isiA sub t r
    | none => none
/-- what the table must say -/
def SubOk (K : PySem.W.Frag) (sub : Value → Value → Option Bool) : Prop := ∀ t c b, sub t c = some b → PySem.W.kitOne K t c = some b
theorem isiV_ok {K : PySem.W.Frag} {sub : Value → Value → Option Bool} (hs : SubOk K sub) {t c : Value} {b : Bool} (h : isiV sub t c = some b) : PySem.W.kitOne K t c = some b := by
  unfold isiV at h
  split at h
  · exact kit_ty h
  · exact hs _ _ _ h
theorem isiA_ok {K : PySem.W.Frag} {sub : Value → Value → Option Bool} (hs : SubOk K sub) {t : Value} : ∀ {cs : List Value} {b : Bool}, isiA sub t cs = some b → PySem.W.kitAny K t cs = some b
  | [], _, h => h
  | c :: r, b, h => by
    unfold isiA at h
    unfold PySem.W.kitAny
    split at h
    · rename_i e; rw [isiV_ok hs e]; exact h
    · rename_i e; rw [isiV_ok hs e]; exact isiA_ok hs h
    · cases h
def clss? : List D → Option (List Value)
  | [] => some []
  | d :: r => (clsD d).bind fun c => (clss? r).map (c :: ·)
theorem clsD_rel {K : PySem.W.Frag} {H : Hp} {d : D} {v : V} {c : Value} (r : Rel K H d v) (h : clsD d = some c) : ClsV v c := by
  cases d with
  | ty n => cases h; have e : v = _ := r; subst e; exact .ty n
  | ref C => cases h; have e : v = _ := r; subst e; exact .own C
  | _ => cases h
theorem clss_rel {K : PySem.W.Frag} {H : Hp} : ∀ {ds : List D} {vs : List V} {cs : List Value}, Rels K H ds vs → clss? ds = some cs → Paired ClsV vs cs
  | [], _, _, r, e => by cases e; have z : _ = [] := r; subst z; exact .nil
  | d :: ds, _, _, ⟨v, r, e1, h, t⟩, e => by
    obtain ⟨c, e2, e3⟩ := Option.bind_eq_some_iff.mp e
    obtain ⟨cs, e4, e5⟩ := Option.map_eq_some_iff.mp e3
    subst e1 e5
    exact .cons (clsD_rel h e2) (clss_rel t e4)
/-- an exception that is held: its class -/
def excD : D → Option Addr
  | .exn (.ref C) _ _ _ => some C
  | _ => none
def gIsi (sub : Value → Value → Option Bool) (ex : Addr → Bool) : GA := fun ds S Q => match ds with
  | [x, .tup cs] => match tyD (vw x S), clss? cs with
    | some t, some us => match isiA sub t us with
      | some b => Q (.bl b) S
      | none => False
    | _, _ => False
  | [x, c] => match excD x with
    | some C => match clsD c with
      | some u => ex C = true ∧ match sub (.ref C) u with
        | some b => Q (.bl b) S
        | none => False
      | none => False
    | none => match tyD (vw x S), clsD c with
      | some t, some u => match isiV sub t u with
        | some b => Q (.bl b) S
        | none => False
      | _, _ => False
  | _ => False
section
open PySem.W PySem.Calls
/-- what a kept exception says when it is asked for its class, whether it has a dict or none -/
theorem exc_class {prog : Program} {w : World} {A : Around} {E : Value → Shared → Prop} {Q : Option Value → Shared → Prop} {s : Shared} {K : Frag} {x D : Addr} {ox : Obj} {od : Option Obj} (C : ExcC K D) (X : K.In s.heap) (I : InstAt s.heap x ox D od)
    (h : Q (some (.ref D)) { s with toks := s.toks + 1 }) : wpAny (model prog w) A (getAttr? (.ref x) "__class__") Q E s := by
  have hf : findObj K D od "__class__" = some (.bind (.builtin "getset_descriptor.__get__") (.builtin "object.__class__")) := by
    obtain ⟨cd, hc, _⟩ := any_some C.hd
    have ha := C.ha
    have hn := C.hn
    have ht := C.ht
    unfold findObj
    rw [hc, Option.bind_some, ha, Option.bind_some]
    simp [hn, ht]
  obtain ⟨hp, g, d, t, os⟩ := s
  have t0 := I.type (M := model prog w)
  have t1 := looks_findIn (M := model prog w) X C.hg
  have t2 := looks_findIn (M := model prog w) X C.hk
  have t3 := looks_find (M := model prog w) X I hf
  have up : W.Looks (model prog w) hp (isInstance (.ref x) (.type "BaseException")) true := t0.andThen (looks_subIn X C.hs)
  have no0 : (false && onTheHeap (Value.builtin "BaseException.__getattribute__")) = false := rfl
  have no2 : (Value.builtin "BaseException.__getattribute__" == Value.builtin "object.__getattribute__") = false := by decide +kernel
  have no1 : (onTheHeap (Value.ref D) && Value.builtin "BaseException.__getattribute__" == Value.builtin "object.__getattribute__") = false := by rw [no2]; rfl
  unfold getAttr? getAttrBy? getAttrBy
  refine wpAny_bind (wpAny_mkText (wpAny_bind (wpAny_attempt (wpAny_holding (wpAny_bind (t0.at (wpAny_bind (t1.at ?_))))))))
  show wpAny _ _ (if (onTheHeap (Value.ref D) && Value.builtin "BaseException.__getattribute__" == Value.builtin "object.__getattribute__") = true then _ else _) _ _ _
  rw [no1, if_neg Bool.false_ne_true]
  unfold getAttrByItsOwn hookBefore
  refine wpAny_bind ?_
  rw [if_pos (show onTheHeap (Value.ref D) = true from rfl)]
  refine t2.at ?_
  refine wpAny_bind (wpAny_attempt (wpAny_holding ?_))
  unfold callGetattribute
  rw [no0, if_neg Bool.false_ne_true]
  unfold boundAndCalled
  rw [PySem.F.excAttr_ValueError.ga.bind (.ref x)]
  refine wpAny_bind (wpAny_pure ?_)
  show wpAny _ _ (call (.builtin "BaseException.__getattribute__") [.ref x, .str "__class__" t]) _ _ _
  refine wpAny_call (codeAny_call_builtin PySem.F.excAttr_ValueError.ga.plain PySem.F.entry_bexc_ga ?_)
  refine @check_slot (model prog w) _ _ ⟨hp, g, d, t + 1, os⟩ "BaseException.__getattribute__" "BaseException" "__getattribute__" (.ref x) [.str "__class__" t] [] _ (by decide +kernel) (by decide +kernel) up (PySem.F.args_bexc_ga (.ref x) (.str "__class__" t)) ?_
  unfold Builtin.«object.__getattribute__»
  refine wpAny_bind (wpAny_of_eq (a := ((Value.ref x : Value), [Value.str "__class__" t])) (by first | rfl | (simp only [slotArgs]; rfl)) ?_)
  refine wpAny_bind (wpAny_pure (wpAny_bind (t0.at (wpAny_bind (t3.at ?_)))))
  show wpAny _ _ (holding [Value.builtin "object.__class__"] (call (.builtin "getset_descriptor.__get__") [.builtin "object.__class__", .ref x, .ref D]) >>= ret) _ _ _
  refine wpAny_bind (wpAny_holding (wpAny_call (class_get (s := ⟨hp, g, d, t + 1, os⟩) (ox := ox) (od := od) X I C.hm ?_)))
  refine wpAny_pure ?_
  show wpAny _ _ (handedOut (.ref D)) _ _ _
  rw [handedOut_of (v := .ref D) rfl]
  first
    | exact wpAny_pure (wpAny_pure h)
    | exact wpAny_pure h
    | exact wpAny_pure (wpAny_bind (wpAny_pure (wpAny_pure h)))
theorem kit_exc {K : Frag} {x D : Addr} {ox : Obj} (C : ExcC K D) : KitX K (.ref x) (.ref D) (fun h => ∃ od, InstAt h x ox D od) where
  ty := fun _ _ _ ⟨_, I⟩ => I.type
  it := fun _ _ X _ => by
    obtain ⟨cdD, hcD, _⟩ := any_some C.hd
    unfold clsIn at hcD
    split at hcD
    · rename_i c' d' cd' sl' ho
      intro A' Q' E' s' k q
      unfold isType loadHead
      exact wpAny_bind (wpAny_loadPart (k _ _ (X _ _ ho)) (wpAny_pure q))
    · cases hcD
  ne := (handS_kitx_exc (x := x) (ox := ox) C.hg C.hk C.hs C.hd C.ha C.hn C.ht C.hm).ne
  ca := fun X ⟨_, I⟩ k => exc_class C X I k
end
/-- of a kept exception -/
def rIsX (K : PySem.W.Frag) : List V → Hp → VK → Prop := fun xs H Q => ∃ (a D : Addr) (c : V) (u : Value) (b : Bool) (d : Option Addr) (ks : List Str) (ws : List V), xs = [.ref a, c] ∧ H a = some (exT (.ref D) d a) ∧ XdAt H ks d ws ∧ ExcC K D ∧ ClsV c u ∧ PySem.W.kitOne K (.ref D) u = some b ∧ Q (.bl b) H
theorem call_isX {X : Cx} : CallR X (.builtin "isinstance") (rIsX X.K) := by
  intro pins s σ H xs us Q I r ⟨a, D, c, u, b, d, ks, ws, e, ha, hxd, C, k, ek, q⟩
  subst e
  have ⟨u1, u2, eu, r1, r2⟩ := vals2 r; subst eu
  cases r1
  have e2 := k.eq r2
  subst e2
  obtain ⟨⟨oe, vs, h1, h2, h3⟩, _⟩ := I.hok a _ ha
  have J : ∃ od, PySem.W.InstAt s.heap a oe D od := by
    obtain ⟨ocl, odi, oda, osl⟩ := oe
    obtain ⟨z1, z2⟩ := h2
    dsimp only at z1 z2 h3
    subst z1 z2 h3
    rcases hxd with ⟨_, z⟩ | ⟨dd, z, _, hd⟩
    · subst z
      exact ⟨none, h1, rfl, rfl, trivial⟩
    · subst z
      have hx : ObjOk X.prog X.w H s.heap dd (.xd (ks.zip ws)) := I.hok dd _ hd
      obtain ⟨mA, ⟨o, es, ep, ho, _⟩, _⟩ := hx
      exact ⟨some o, h1, rfl, rfl, ho⟩
  exact PySem.W.kia_one (kit_exc C) I.kIn J ek (fun z => nomatch z) fun tk => ⟨.bl b, H, I.kept (t' := tk) fun _ _ z => z, rfl, q⟩
/-- a tuple of classes, wherever it stands -/
def rIsiS (K : PySem.W.Frag) : List V → Hp → VK → Prop := fun xs H Q => ∃ (x : V) (tp : Addr) (cs : List V) (t : Value) (us : List Value) (b : Bool), xs = [x, .ref tp] ∧ SqT K H tp cs ∧ Paired ClsV cs us ∧ TyX K H x t ∧ PySem.W.kitAny K t us = some b ∧ Q (.bl b) H
theorem call_isiS {X : Cx} : CallR X (.builtin "isinstance") (rIsiS X.K) := by
  intro pins s σ H xs us Q I r ⟨x, tp, cs, t, ws, b, ex, hT, k, ty, e, q⟩
  subst ex
  have ⟨u1, u2, eu, r1, r2⟩ := vals2 r; subst eu
  obtain rfl : u2 = Value.ref tp := r2
  have ⟨P, Z, p, hx⟩ := kit_of I r1 ty
  obtain ⟨its, rv, ⟨⟨oc, od, dt, sl⟩, g1, g2, n, g3⟩, _⟩ := I.tuple hT
  obtain rfl : its = ws := ClsV.all k rv
  dsimp only at g2 g3
  subst g2 g3
  exact PySem.W.kia_tup Z I.kIn p g1 e hx fun tk => ⟨.bl b, H, I.tok tk, rfl, q⟩
def rIsiAll (K : PySem.W.Frag) : List V → Hp → VK → Prop := fun xs H Q => rIsi K xs H Q ∨ rIsiS K xs H Q ∨ rIsX K xs H Q
theorem call_isiA {X : Cx} : CallR X (.builtin "isinstance") (rIsiAll X.K) := CallR.or call_isi (CallR.or call_isiS call_isX)
end MP

set_option Elab.async false
set_option linter.all false
set_option maxRecDepth 100000
set_option maxHeartbeats 2100000
/-! MPMore: isinstance, methods, dict displays, stores, what is walked. -/
namespace MP
open PySem PyProof.Rows PySem.Spec L2

theorem d_isi {K : PySem.W.Frag} {sub : Value → Value → Option Bool} {ex : Addr → Bool} (hs : SubOk K sub) (hx : ∀ C, ex C = true → ExcC K C) : CallD K (rIsiAll K) (gIsi sub ex) := by
  intro xs S H ds Qd Q hS r h l
  unfold gIsi at h
  split at h
  · rename_i x cs
    obtain ⟨v, u, rfl, rv, ru⟩ := rels2 r
    obtain ⟨a, vs, rfl, ha, rs⟩ := ru
    split at h
    · rename_i t us et eu
      split at h
      · rename_i b eb
        exact .inr (.inl ⟨v, a, vs, t, us, b, rfl, ha, clss_rel rs eu, tyD_rel hS rv et, isiA_ok hs eb, l.fz hS (d := .bl b) rfl h⟩)
      · exact h.elim
    · exact h.elim
  · rename_i x c hn
    obtain ⟨v, u, rfl, rv, ru⟩ := rels2 r
    split at h
    · rename_i C eC
      split at h
      · rename_i w ew
        obtain ⟨hC, h⟩ := h
        split at h
        · rename_i b eb
          obtain ⟨a, e1, d, ks, ws, hd, xd⟩ : ∃ a, v = .ref a ∧ ∃ d ks ws, H a = some (exT (.ref C) d a) ∧ XdAt H ks d ws := by
            unfold excD at eC
            split at eC
            · rename_i C' a' ks' xs'
              cases eC
              obtain ⟨e1, d, ws, hd, xd, _⟩ := rv
              exact ⟨a', e1, d, ks', ws, hd, xd⟩
            · cases eC
          exact .inr (.inr ⟨a, C, u, w, b, d, ks, ws, by rw [e1], hd, xd, hx C hC, clsD_rel ru ew, hs _ _ _ eb, l.fz hS (d := .bl b) rfl h⟩)
        · exact h.elim
      · exact h.elim
    · split at h
      · rename_i t w et ew
        split at h
        · rename_i b eb
          exact .inl ⟨v, u, t, w, b, rfl, clsD_rel ru ew, tyD_rel hS rv et, isiV_ok hs eb, l.fz hS (d := .bl b) rfl h⟩
        · exact h.elim
      · exact h.elim
  · exact h.elim

/-! ### methods of lists and dicts of the store -/
abbrev GM := D → List D → Store → Post → Prop
def MtD (K : PySem.W.Frag) (r : V → List V → Hp → VK → Prop) (g : GM) : Prop := ∀ x xs S H d ds Qd Q, SRel K S H → Rel K H d x → Rels K H ds xs → g d ds S Qd → LQ K S H Qd Q → r x xs H (FzQ Q)
def mty : D → Option String
  | .str _ => some "str"
  | .int _ => some "int"
  | .lst _ => some "list"
  | .kls _ => some "list"
  | _ => none
theorem mty_rel {K : PySem.W.Frag} {S : Store} {H : Hp} {d : D} {v : V} {T : String} (hS : SRel K S H) (r : Rel K H d v) (h : mty (vw d S) = some T) : tyV K T v H := by
  unfold mty at h
  split at h
  · cases h; rename_i b e; rw [vw_str hS r e]; rfl
  · cases h; rename_i b e; rw [vw_int hS r e]; rfl
  · cases h
    rename_i xs e
    obtain ⟨a, vs, ea, ha, rs⟩ := vw_lst hS r e
    subst ea
    exact .inl ⟨rfl, vs, .inl ha⟩
  · cases h
    rename_i xs e
    obtain ⟨a, vs, ea, ha, rs⟩ := vw_kls hS r e
    subst ea
    exact .inl ⟨rfl, vs, ha⟩
  · cases h
/-- o.m(..) of a built-in type T -/
def evM (T : String) (g : GM) (f : ET) (fa : EA) : ET := fun ρ S Q E => f ρ S (fun d S1 => mty (vw d S1) = some T ∧ fa ρ S1 (fun ds S2 => g d ds S2 Q) E) E
def evM0 (T : String) (g : GM) (f : ET) : ET := fun ρ S Q E => f ρ S (fun d S1 => mty (vw d S1) = some T ∧ g d [] S1 Q) E
section
variable {X : Cx} {W : WX} {o e : Expr} {es : List Expr} {f : ET} {fa : EA} {n : Nat} {name : Str} {apos cpos : Pos} {T id : String} {r : V → List V → Hp → VK → Prop} {g : GM}
theorem e_bm0 (pa : PlainAttrs T) (slot : Slot T name id) (hty : typeOf (.builtin id) = pure (.type "method_descriptor")) (hm : MtR X id r) (hg : MtD X.K r g) (ho : PE X o (rdE X.K W f))
    (hBase : attributeBase o name X.env (eval o X.env) = eval o X.env := by rfl) (hLine : (apos.endLine == cpos.line) = true := by rfl) : PE X (.Call (.Attribute o name apos) [] [] cpos) (rdE X.K W (evM0 T g f)) :=
  PE_imp (pe_fz (pe_bm0 pa slot hty hm ho hBase hLine)) fun σ H Q ⟨ρ, S, Qd, Ed, hρ, hS, hf, lq, lx⟩ =>
    ⟨ρ, S, _, Ed, hρ, hS, hf, fun d S1 v H1 e1 r1 q1 h1 => ⟨mty_rel r1 q1 h1.1, hg v [] S1 H1 d [] _ Q r1 q1 rfl h1.2 (lq.mono e1)⟩, lx⟩
theorem e_bm (pa : PlainAttrs T) (slot : Slot T name id) (hty : typeOf (.builtin id) = pure (.type "method_descriptor")) (hm : MtR X id r) (hg : MtD X.K r g) (ho : PE X o (rdE X.K W f)) (ha : PA X (e :: es) (rdA X.K W n fa))
    (hBase : attributeBase o name X.env (eval o X.env) = eval o X.env := by rfl)
    (hFew : ((backTo cpos (starEach (e :: es) X.env)).all (fun x => !x.1) && (backToKw cpos (keywordEach [] X.env)).all (fun x => x.1.isSome) && decide ((e :: es).length + ([] : List Keyword).length + (if ([] : List Keyword).isEmpty then 0 else 1) < 30)) = true := by rfl)
    (hLine : (apos.endLine == cpos.line) = true := by rfl) (hs : starEach (e :: es) X.env = (false, eval e X.env) :: starEach es X.env := by rfl) (hplain : (backTo cpos (starEach es X.env)).any (·.1) = false := by rfl) :
    PE X (.Call (.Attribute o name apos) (e :: es) [] cpos) (rdE X.K W (evM T g f fa)) :=
  PE_imp (pe_fz (pe_bm pa slot hty hm ho ha hBase hFew hLine hs hplain)) fun σ H Q ⟨ρ, S, Qd, Ed, hρ, hS, hf, lq, lx⟩ =>
    ⟨ρ, S, _, Ed, hρ, hS, hf, fun d S1 v H1 e1 r1 q1 h1 => ⟨mty_rel r1 q1 h1.1, ρ, S1, _, Ed, hρ.imm (e1.imm hS), r1, h1.2, fun ds S2 vs H2 e2 r2 q2 hl h2 => hg _ _ _ _ _ _ _ _ r2 (Rel.imm (e2.imm r1) _ _ q1) q2 h2 ((lq.mono e1).mono e2), lx.mono e1⟩, lx⟩
end
/-- the store's list at a receiver -/
def onL (x : D) (S : Store) (k : Addr → List D → Prop) : Prop := match x with
  | .ref a => match S a with
    | some (.lst xs) => k a xs
    | _ => False
  | _ => False
theorem onL_rel {K : PySem.W.Frag} {S : Store} {H : Hp} {d : D} {v : V} {k : Addr → List D → Prop} (hS : SRel K S H) (r : Rel K H d v) (h : onL d S k) : ∃ a ds xs, v = .ref a ∧ S a = some (.lst ds) ∧ H a = some (.lst xs) ∧ Rels K H ds xs ∧ k a ds := by
  unfold onL at h
  split at h
  · rename_i a
    split at h
    · rename_i ds e
      obtain ⟨xs, hx, rs⟩ := hS a _ e
      exact ⟨a, ds, xs, r, e, hx, rs, h⟩
    · exact h.elim
  · exact h.elim
theorem lset {K : PySem.W.Frag} {S : Store} {H : Hp} {a : Addr} {ds ds' : List D} {xs' : List V} {Qd : Post} {Q : VK} {d : D} {v : V} (hS : SRel K S H) (e : S a = some (.lst ds)) (rs : Imm H (upd H a (.lst xs')) → Rels K (upd H a (.lst xs')) ds' xs')
    (rv : Imm H (upd H a (.lst xs')) → Rel K (upd H a (.lst xs')) d v) (l : LQ K S H Qd Q) (q : Qd d (S.set a (.lst ds'))) : FzQ Q v (upd H a (.lst xs')) := by
  obtain ⟨o', e', m⟩ := (hS a _ e).mut
  have i : Imm H (upd H a (.lst xs')) := upd_immS e' m
  exact .inl (l d (S.set a (.lst ds')) v _ (evo_setS e) (hS.setS (u := .lst ds') e fun _ => ⟨xs', upd_same, rs i⟩) (rv i) q)
def mAppend : GM := fun x ds S Q => match ds with
  | [y] => onL x S fun a xs => xs.length < sizeLine ∧ Q .non (S.set a (.lst (xs ++ [y])))
  | _ => False
def mPopAt : GM := fun x ds S Q => match ds with
  | [.int i] => onL x S fun a xs => -(2 ^ 63) ≤ i ∧ i < 2 ^ 63 ∧ match seqIndex? i xs.length with
    | some k => match xs[k]? with
      | some y => Q y (S.set a (.lst (xs.eraseIdx k)))
      | none => False
    | none => False
  | _ => False
def mPop : GM := fun x ds S Q => match ds with
  | [] => onL x S fun a xs => match xs[xs.length - 1]? with
    | some y => Q y (S.set a (.lst xs.dropLast))
    | none => False
  | _ => False
def mInsert : GM := fun x ds S Q => match ds with
  | [.int i, y] => onL x S fun a xs => xs.length < sizeLine ∧ 0 ≤ i ∧ i < 2 ^ 63 ∧ Q .non (S.set a (.lst (xs.take i.toNat ++ [y] ++ xs.drop i.toNat)))
  | _ => False
section
variable {K : PySem.W.Frag}
theorem m_append : MtD K rAppend mAppend := by
  intro x xs S H d ds Qd Q hS rx rs h l
  unfold mAppend at h
  split at h
  · obtain ⟨v, rfl, rv⟩ := rels1 rs
    obtain ⟨a, es, ys, ea, eS, hH, re, hz, q⟩ := onL_rel hS rx h
    exact ⟨a, ys, v, ea, rfl, hH, by rw [← re.length]; exact hz, lset hS eS (fun i => Rels.append (Rels.imm i _ _ re) (Rels.mk1 (Rel.imm i _ _ rv))) (d := .non) (fun _ => rfl) l q⟩
  · exact h.elim
theorem m_popAt : MtD K rPopAt mPopAt := by
  intro x xs S H d ds Qd Q hS rx rs h l
  unfold mPopAt at h
  split at h
  · rename_i i
    obtain ⟨v, rfl, rv⟩ := rels1 rs
    have ev : v = _ := rv
    subst ev
    obtain ⟨a, es, ys, ea, eS, hH, re, h1, h2, q⟩ := onL_rel hS rx h
    rw [re.length] at q
    split at q
    · rename_i k ek
      split at q
      · rename_i y ey
        obtain ⟨u, eu, ru⟩ := re.get ey
        exact ⟨a, ys, i, k, u, ea, rfl, hH, h1, h2, ek, eu, lset hS eS (fun i => Rels.eraseIdx k (Rels.imm i _ _ re)) (fun i => Rel.imm i _ _ ru) l q⟩
      · exact q.elim
    · exact q.elim
  · exact h.elim
theorem Rels.dropLast {H : Hp} {ds : List D} {vs : List V} (r : Rels K H ds vs) : Rels K H ds.dropLast vs.dropLast := by
  rw [List.dropLast_eq_take, List.dropLast_eq_take, r.length]
  exact Rels.take _ r
theorem m_pop : MtD K rPop mPop := by
  intro x xs S H d ds Qd Q hS rx rs h l
  unfold mPop at h
  split at h
  · have e0 : xs = [] := rs
    subst e0
    obtain ⟨a, es, ys, ea, eS, hH, re, q⟩ := onL_rel hS rx h
    rw [re.length] at q
    split at q
    · rename_i y ey
      obtain ⟨u, eu, ru⟩ := re.get ey
      exact ⟨a, ys, u, ea, rfl, hH, eu, lset hS eS (fun i => (Rels.imm i _ _ re).dropLast) (fun i => Rel.imm i _ _ ru) l q⟩
    · exact q.elim
  · exact h.elim
def rInsert : V → List V → Hp → VK → Prop := fun x vs H Q => ∃ (l : Addr) (xs : List V) (i : Int) (y : V), x = .ref l ∧ vs = [.int i, y] ∧ H l = some (.lst xs) ∧ xs.length < sizeLine ∧ 0 ≤ i ∧ i < 2 ^ 63 ∧
  Q .non (upd H l (.lst (xs.take i.toNat ++ [y] ++ xs.drop i.toNat)))
theorem m_insert : MtD K rInsert mInsert := by
  intro x xs S H d ds Qd Q hS rx rs h l
  unfold mInsert at h
  split at h
  · obtain ⟨v, u, rfl, rv, ru⟩ := rels2 rs
    have ev : v = _ := rv
    subst ev
    obtain ⟨a, es, ys, ea, eS, hH, re, hz, h0, h1, q⟩ := onL_rel hS rx h
    exact ⟨a, ys, _, u, ea, rfl, hH, by rw [← re.length]; exact hz, h0, h1, lset hS eS (fun i => Rels.append (Rels.append (Rels.take _ (Rels.imm i _ _ re)) (Rels.mk1 (Rel.imm i _ _ ru))) (Rels.drop _ (Rels.imm i _ _ re))) (d := .non) (fun _ => rfl) l q⟩
  · exact h.elim
end

/-! ### displays of dicts with written keys -/
/-- the values of a display, from the left -/
structure DP (X : Cx) (pos : Pos) (keys : List (Option Expr)) (values : List Expr) (W : WX) (ks : List Key) (fa : EA) : Prop where
  ex : ∃ trs, PPs X pos keys values trs ∧ ∀ σ H Q, rdA X.K W ks.length fa σ H (fun vs H' => vs.length = ks.length → Q ((ks.map kV).zip vs) H') → tPairs trs σ H Q
section
variable {X : Cx} {W : WX} {pos : Pos} {keys : List (Option Expr)} {values : List Expr} {ks : List Key} {fa : EA} {k v : Expr} {f : ET}
theorem dp_nil : DP X pos [] [] W [] aNil := ⟨[], pps_nil, fun σ H Q ⟨ρ, S, Qd, Ed, hρ, hS, hf, lq, _⟩ => lq [] S [] H (Evo.refl _ _) hS rfl rfl hf rfl⟩
theorem dp_cons (j : Key) (hk : PE X k (tC (kV j))) (hv : PE X v (rdE X.K W f)) (hr : DP X pos keys values W ks fa) : DP X pos (some k :: keys) (v :: values) W (j :: ks) (aCons f fa) := by
  obtain ⟨trs, h1, h2⟩ := hr.ex
  refine ⟨_, pps_cons hk hv h1, fun σ H Q ⟨ρ, S, Qd, Ed, hρ, hS, hf, lq, lx⟩ => ?_⟩
  refine ⟨ρ, S, _, Ed, hρ, hS, hf, fun d S1 w H1 e1 r1 q1 g1 => ?_, lx⟩
  refine h2 σ H1 _ ⟨ρ, S1, _, Ed, hρ.imm (e1.imm hS), r1, g1, fun ds S2 vs H2 e2 r2 q2 hl g2 hn => ?_, lx.mono e1⟩
  exact lq (d :: ds) S2 (w :: vs) H2 (e1.trans e2) r2 ⟨w, vs, rfl, Rel.imm (e2.imm r1) _ _ q1, q2⟩ (by simp [hl]) g2 (by simp [hn])
end
theorem unhide {K : PySem.W.Frag} {S : Store} {H : Hp} {p : Addr} {o : HO} (r : SRel K S H) (n : S p = none) (e : H p = some o) (m : mutb o = true) : Imm H (delH' H p) ∧ SRel K S (delH' H p) := by
  have i : Imm H (delH' H p) := fun b u q mq => by
    have hb : b ≠ p := fun z => by subst z; rw [e] at q; cases q; rw [m] at mq; cases mq
    exact (if_neg hb : delH' H p b = H b).trans q
  exact ⟨i, fun b u q => by
    have hb : b ≠ p := fun z => by subst z; rw [n] at q; cases q
    exact (r b u q).imm i fun w q => (if_neg hb : delH' H p b = H b).trans q⟩
theorem evo_unhide {S0 S : Store} {H0 H : Hp} {p : Addr} (e : Evo S0 H0 S H) (h0 : H0 p = none) : Evo S0 H0 S (delH' H p) := ⟨fun b o q n nt => by
  have hb : b ≠ p := fun z => by subst z; rw [h0] at q; cases q
  exact (if_neg hb : delH' H p b = H b).trans (e.keep b o q n nt), e.new⟩
theorem evo_from {S0 S : Store} {H0 H : Hp} {p : Addr} {o : HO} (h0 : H0 p = none) (e : Evo S0 (upd H0 p o) S H) : Evo S0 H0 S H := ⟨fun b u q n nt => e.keep b u (by rw [upd_ne (ne_of_none q h0)]; exact q) n nt, fun b n n2 o2 e2 nt => by
  by_cases hb : b = p
  · rw [hb, h0] at e2; cases e2
  · exact e.new b n n2 o2 (by rw [upd_ne hb]; exact e2) nt⟩
theorem mergeK_new : ∀ (more kvs : List (Key × V)), ((kvs ++ more).map (·.1)).Nodup → mergeK kvs more = kvs ++ more
  | [], kvs, _ => by rw [List.append_nil]; rfl
  | p :: r, kvs, h => by
    have hn : valV kvs p.1 = none := by
      cases e : valV kvs p.1 with
      | none => rfl
      | some v =>
        have hs : (valV kvs p.1).isSome = true := by rw [e]; rfl
        rw [← valV_any, List.any_eq_true] at hs
        obtain ⟨q, hq, eq⟩ := hs
        have eq' := of_decide_eq_true eq
        rw [List.map_append, List.nodup_append] at h
        exact absurd eq' (h.2.2 q.1 (List.mem_map_of_mem hq) p.1 (by simp))
    show mergeK (putK kvs p.1 p.2) r = kvs ++ p :: r
    rw [putK_new p.2 hn, mergeK_new r (kvs ++ [(p.1, p.2)]) (by simpa using h)]
    simp
theorem map_zip_key : ∀ (ks : List Key) (vs : List V), (ks.map kV).zip vs = (ks.zip vs).map fun kv => (kV kv.1, kv.2)
  | [], _ => rfl
  | _ :: _, [] => rfl
  | k :: ks, v :: vs => by
    show (kV k, v) :: (ks.map kV).zip vs = (kV k, v) :: (ks.zip vs).map _
    rw [map_zip_key ks vs]
def evDisp (mk : MkDT) (ks : List Key) (fa : EA) : ET := fun ρ S Q E => fa ρ S (fun ds S1 => mk ks ds S1 Q) E
section
variable {X : Cx} {W : WX} {pos : Pos} {keys : List (Option Expr)} {values : List Expr} {ks : List Key} {fa : EA} {mk : MkDT}
theorem e_disp (hm : MkDOk X.K mk) (h : DP X pos keys values W ks fa) (nd : ks.Nodup) (hall : keys.all (·.isSome) = true := by rfl) (hl : keys.length = values.length := by rfl) (h0 : keys ≠ [] := by exact fun z => by cases z) (h15 : keys.length ≤ 15 := by decide) (h15' : ks.length ≤ 15 := by decide) : PE X (.Dict keys values pos) (rdE X.K W (evDisp mk ks fa)) := by
  obtain ⟨trs, h1, h2⟩ := h.ex
  refine PE_imp (pe_fz (pe_disp h1 hall hl h0 h15)) fun σ H Q ⟨ρ, S, Qd, Ed, hρ, hS, hf, lq, lx⟩ => ?_
  intro p hp
  have rS : SRel X.K S (upd H p (.dK [])) := hS.upd_new hp
  have Sp : S p = none := hS.free hp
  refine h2 σ _ _ ⟨ρ, S, _, Ed, hρ.imm (upd_imm hp), rS, hf, fun ds S1 vs H1 e1 r1 q1 hl1 g1 hn => ?_, lx.mono (evo_new hp)⟩
  have hp1 : H1 p = some (.dK []) := e1.keep p _ upd_same Sp (fun _ z => nomatch z)
  have Sp1 : S1 p = none := by
    cases q : S1 p with
    | none => rfl
    | some u => exact (e1.new p Sp (by rw [q]; exact fun z => nomatch z) _ upd_same (fun _ z => nomatch z)).elim
  refine ⟨hp1, ks.zip vs, ?_, ?_, ?_⟩
  · exact map_zip_key ks vs
  · rw [List.length_zip]; exact Nat.le_trans (Nat.min_le_left _ _) h15'
  · have hm1 : mergeK [] (ks.zip vs) = ks.zip vs := by
      rw [mergeK_new _ _ (by rw [List.nil_append, List.map_fst_zip (by omega)]; exact nd)]
      rfl
    rw [hm1]
    obtain ⟨i, r2⟩ := unhide r1 Sp1 hp1 rfl
    have fin := hm S1 (delH' H1 p) ks ds vs p Qd Q r2 (if_pos rfl) (by rw [hl1]) (Rels.imm i _ _ q1) g1 (lq.mono (evo_unhide (evo_from hp e1) hp))
    rw [show upd (delH' H1 p) p (.dK (ks.zip vs)) = upd H1 p (.dK (ks.zip vs)) from by
      rw [← delH'_upd (o := .dK []) hp1, upd_upd, delH'_upd hp1]] at fin
    exact fin
end
/-- a new empty dict -/
def evDict0 (mk : MkDT) : ET := fun _ S Q _ => mk [] [] S Q
section
variable {X : Cx} {W : WX} {pos : Pos} {mk : MkDT}
theorem e_dict0 (hm : MkDOk X.K mk) : PE X (.Dict [] [] pos) (rdE X.K W (evDict0 mk)) :=
  PE_imp (pe_fz pe_dnewK) fun _ H _ ⟨_, S, Qd, _, _, hS, hf, lq, _⟩ p hp => hm S H [] [] [] p Qd _ hS hp rfl rfl hf lq
end
end MP

set_option Elab.async false
set_option linter.all false
set_option maxRecDepth 100000
set_option maxHeartbeats 2100000
/-! MPWalk: stores to an item; what is walked: lists, tuples, texts, ranges. -/
namespace MP
open PySem PyProof.Rows PySem.Spec L2

/-! ### o[i] = v -/
def hasK (ks : List Key) (k : Key) : Bool := ks.any fun j => decide (j = k)
def putKs (ks : List Key) (k : Key) : List Key := if hasK ks k = true then ks else ks ++ [k]
def putVs {α : Type} (ks : List Key) (xs : List α) (k : Key) (v : α) : List α := if hasK ks k = true then ks.zipWith (fun j x => if j = k then v else x) xs else xs ++ [v]
theorem zip_any (k : Key) : ∀ (ks : List Key) (xs : List V), ks.length = xs.length → ((ks.zip xs).any fun kv => decide (kv.1 = k)) = hasK ks k
  | [], _, _ => rfl
  | _ :: _, [], h => by cases h
  | j :: ks, x :: xs, h => by
    show (decide (j = k) || (ks.zip xs).any _) = (decide (j = k) || hasK ks k)
    rw [zip_any k ks xs (by simpa using h)]
theorem zip_map (k : Key) (v : V) : ∀ (ks : List Key) (xs : List V), ((ks.zip xs).map fun kv => if kv.1 = k then (kv.1, v) else kv) = ks.zip (ks.zipWith (fun j x => if j = k then v else x) xs)
  | [], _ => rfl
  | _ :: _, [] => rfl
  | j :: ks, x :: xs => by
    rw [List.zip_cons_cons, List.map_cons, List.zipWith_cons_cons, List.zip_cons_cons, zip_map k v ks xs]
    by_cases e : j = k
    · rw [if_pos e, if_pos e]
    · rw [if_neg e, if_neg e]
theorem put_zip {ks : List Key} {xs : List V} (k : Key) (v : V) (h : ks.length = xs.length) : putK (ks.zip xs) k v = (putKs ks k).zip (putVs ks xs k v) := by
  unfold putK putKs putVs
  rw [zip_any k ks xs h]
  by_cases c : hasK ks k = true
  · rw [if_pos c, if_pos c, if_pos c, zip_map]
  · rw [if_neg c, if_neg c, if_neg c, List.zip_append h]
    rfl
theorem put_len {α : Type} {ks : List Key} {xs : List α} (k : Key) (v : α) (h : ks.length = xs.length) : (putKs ks k).length = (putVs ks xs k v).length := by
  unfold putKs putVs
  split
  · rw [List.length_zipWith, h, Nat.min_self]
  · rw [List.length_append, List.length_append, h]; rfl
theorem put_rel {K : PySem.W.Frag} {H : Hp} {k : Key} {d : D} {v : V} (rv : Rel K H d v) {ks : List Key} {ds : List D} {vs : List V} (r : Rels K H ds vs) : Rels K H (putVs ks ds k d) (putVs ks vs k v) := by
  unfold putVs
  split
  · have go : ∀ (ks : List Key) (ds : List D) (vs : List V), Rels K H ds vs → Rels K H (ks.zipWith (fun j x => if j = k then d else x) ds) (ks.zipWith (fun j x => if j = k then v else x) vs) := by
      intro ks
      induction ks with
      | nil => intro ds vs _; rfl
      | cons j ks ih =>
        intro ds vs r
        cases ds with
        | nil => have e : vs = [] := r; subst e; rfl
        | cons x ds =>
          obtain ⟨u, us, rfl, h, t⟩ := r
          refine ⟨if j = k then v else u, _, rfl, ?_, ih ds us t⟩
          show Rel K H (if j = k then d else x) (if j = k then v else u)
          by_cases e : j = k
          · rw [if_pos e, if_pos e]; exact rv
          · rw [if_neg e, if_neg e]; exact h
    exact go ks ds vs r
  · exact Rels.append r (Rels.mk1 rv)
def rSetA : TSet := fun o i v H Q => rSetL o i v H Q ∨ rSetD o i v H Q
theorem set_all {X : Cx} (hu : X.A.units + 1 < cLine) : PSet X rSetA := fun pins s σ H o i v ov iv u Q I ro ri rv h =>
  h.elim (set_list pins s σ H o i v ov iv u Q I ro ri rv) (set_dict hu pins s σ H o i v ov iv u Q I ro ri rv)
def setD (x y d : D) (S : Store) (Q : Store → Prop) : Prop := match x with
  | .ref a => match S a with
    | some (.lst xs) => match y with
      | .int i => match ixN xs.length i with
        | some j => Q (S.set a (.lst (xs.set j d)))
        | none => False
      | _ => False
    | some (.dct ks ds) => match keyD y with
      | some k => ks.length < sizeLine ∧ Q (S.set a (.dct (putKs ks k) (putVs ks ds k d)))
      | none => False
    | _ => False
  | _ => False
theorem setD_rd {K : PySem.W.Frag} {S : Store} {H : Hp} {x y d : D} {o i v : V} {Qd : Store → Prop} {Q : Hp → Prop} (hS : SRel K S H) (rx : Rel K H x o) (ry : Rel K H y i) (rd : Rel K H d v) (h : setD x y d S Qd)
    (l : ∀ S' H', Evo S H S' H' → SRel K S' H' → Qd S' → Q H') : rSetA o i v H Q := by
  unfold setD at h
  split at h
  · rename_i a
    split at h
    · rename_i xs e
      obtain ⟨ys, hx, rs⟩ := hS a _ e
      split at h
      · rename_i j
        split at h
        · rename_i n en
          refine .inl ⟨a, ys, j, n, rx, ry, hx, by rw [← rs.length]; exact en, ?_⟩
          obtain ⟨o', e', m⟩ := (hS a _ e).mut
          have im : Imm H (upd H a (.lst (ys.set n v))) := upd_immS e' m
          exact l _ _ (evo_setS e) (hS.setS (u := .lst (xs.set n d)) e fun _ => ⟨_, upd_same, Rels.set (Rel.imm im _ _ rd) n (Rels.imm im _ _ rs)⟩) h
        · exact h.elim
      · exact h.elim
    · rename_i ks ds e
      obtain ⟨ys, hx, hl, rs⟩ := hS a _ e
      have hl' : ks.length = ys.length := by rw [hl, rs.length]
      split at h
      · rename_i k ek
        have ei := keyD_rel ry ek
        refine .inr ⟨a, _, rx, .inl ⟨_, k, hx, ei, by rw [List.length_zip, ← hl', Nat.min_self]; exact h.1, rfl⟩, ?_⟩
        rw [put_zip k v hl']
        obtain ⟨o', e', m⟩ := (hS a _ e).mut
        have im : Imm H (upd H a (.dK ((putKs ks k).zip (putVs ks ys k v)))) := upd_immS e' m
        exact l _ _ (evo_setS e) (hS.setS (u := .dct (putKs ks k) (putVs ks ds k d)) e fun _ => ⟨_, upd_same, put_len k d hl, put_rel (Rel.imm im _ _ rd) (Rels.imm im _ _ rs)⟩) h.2
      · exact h.elim
    · exact h.elim
  · exact h.elim
def dgSub (fo fi : ET) : DG := fun d ρ S Q => fo ρ S (fun x S1 => fi ρ S1 (fun y S2 => setD x y d S2 (fun S3 => Q ρ S3)) (fun _ _ => False)) (fun _ _ => False)
section
variable {X : Cx} {W : WX} {o i : Expr} {fo fi : ET} {pos : Pos}
theorem g_sub (hu : X.A.units + 1 < cLine) (ho : PE X o (rdE X.K W fo)) (hi : PE X i (rdE X.K W fi))
    (hAs : ∀ v, assign (.Subscript o i pos) X.env v = (do
      let w1 ← holding [v] (eval o X.env)
      let w2 ← holding [v, w1] (eval i X.env)
      standAt pos
      holding [v, w1, w2] (setItem w1 w2 v)
      release [v, w1, w2] []) := by intro _; rfl) : PG X (.Subscript o i pos) (rdG X.K (dgSub fo fi)) :=
  PG_imp (pg_sub ho hi (set_all hu) hAs) fun v σ H Q ⟨ρ, S, d, Qd, hρ, hS, hd, hg, l⟩ => by
    refine ⟨ρ, S, _, _, hρ, hS, hg, fun x S1 vx H1 e1 r1 q1 h1 => ?_, fun _ _ _ _ _ _ _ _ z => z.elim⟩
    refine ⟨ρ, S1, _, _, hρ.imm (e1.imm hS), r1, h1, fun y S2 vy H2 e2 r2 q2 h2 => ?_, fun _ _ _ _ _ _ _ _ z => z.elim⟩
    have i12 := e2.imm r1
    refine setD_rd r2 (Rel.imm i12 _ _ q1) q2 (Rel.imm ((e1.trans e2).imm hS) _ _ hd) h2 fun S3 H3 e3 r3 h3 => ?_
    have e := (e1.trans e2).trans e3
    exact l ρ S3 σ H3 e r3 (hρ.imm (e.imm hS)) h3
end

/-! ### what is walked -/
def iSeqV (K : PySem.W.Frag) (tl : TE) : TI := fun σ H R => tl σ H fun x H1 => (∃ a xs, x = .ref a ∧ SqL K H1 a xs ∧ R (Itl K a) H1) ∨ ∃ a xs, x = .ref a ∧ SqT K H1 a xs ∧ R (Itt K a) H1
theorem pi_seq {X : Cx} {tg l : Expr} {tl : TE} (hl : PE X l tl) : PI X tg l (iSeqV X.K tl) := by
  constructor
  intro pins s σ H R I h
  refine thn (hl.run pins s σ H _ I h) ?_
  rintro v s1 ⟨x, H1, J, r1, hx⟩
  have old : ∀ (ob : Obj) b o, s1.heap.get? b = some o → (s1.heap.push ob).get? b = some o := fun ob b o e => Heap.get?_push_of_some ob e
  have young : ∀ b, b ∈ [s1.heap.objs.size] → FpOk X pins H1 b := fun b hb => by
    obtain rfl : b = s1.heap.objs.size := by simpa using hb
    exact J.fpOk (Nat.le_refl _) J.fresh
  rcases hx with ⟨a, xs, rfl, hq, q⟩ | ⟨a, xs, rfl, hq, q⟩
  · obtain rfl : v = Value.ref a := r1
    obtain ⟨_, _, pl, _⟩ := J.list hq
    exact wpAny_pyIter_list pl.isList ⟨s1.heap.objs.size, [s1.heap.objs.size], _, _, H1, rfl, J.kept (t' := s1.toks) (old _), turn_list a _, ⟨_, Heap.get?_push_size _ rfl, rfl, rfl⟩, young, q⟩
  · obtain rfl : v = Value.ref a := r1
    obtain ⟨its, _, pl, _⟩ := J.tuple hq
    exact wpAny_pyIter_tuple (items := its.toArray) pl ⟨s1.heap.objs.size, [s1.heap.objs.size], _, _, H1, rfl, J.kept (t' := s1.toks) (old _), turn_tuple a _, ⟨_, Heap.get?_push_size _ rfl, rfl, rfl⟩, young, q⟩
def iSeq (f : ET) : EI := fun ρ S Q E => f ρ S (fun d S1 => match d with
  | .lst ds => Q ds S1
  | .kls ds => Q ds S1
  | .tup ds => Q ds S1
  | _ => False) E
theorem yields_list {K : PySem.W.Frag} {H : Hp} {a : Addr} {ds : List D} {vs : List V} (st : ∀ H', Imm H H' → SqL K H' a vs) (uq : ∀ H' ys, Imm H H' → SqL K H' a ys → True) (rs : Rels K H ds vs) : Yields K (Itl K a) ds H where
  go := fun i H' hi im => by
    obtain ⟨v, ev, _⟩ := rs.get (i := i) (List.getElem?_eq_getElem hi)
    exact ⟨vs, v, st H' im, ev⟩
  stop := fun H' im => ⟨vs, st H' im, by rw [rs.length]; exact Nat.le_refl _⟩
  yld := fun i H' x H2 d ed im ⟨e, hx⟩ => by
    obtain ⟨v, ev, rv⟩ := rs.get ed
    have e2 := hx vs (st H' im)
    rw [ev] at e2
    cases (Option.some.inj e2)
    subst e
    exact ⟨.inl rfl, Rel.imm im _ _ rv⟩
theorem yields_tup {K : PySem.W.Frag} {H : Hp} {a : Addr} {ds : List D} {vs : List V} (h : SqT K H a vs) (rs : Rels K H ds vs) : Yields K (Itt K a) ds H where
  go := fun i H' hi im => by
    obtain ⟨v, ev, _⟩ := rs.get (i := i) (List.getElem?_eq_getElem hi)
    exact ⟨vs, v, im.sqT h, ev⟩
  stop := fun H' im => ⟨vs, im.sqT h, by rw [rs.length]; exact Nat.le_refl _⟩
  yld := fun i H' x H2 d ed im ⟨e, hx⟩ => by
    obtain ⟨v, ev, rv⟩ := rs.get ed
    have e2 := hx vs (im.sqT h)
    rw [ev] at e2
    cases (Option.some.inj e2)
    subst e
    exact ⟨.inl rfl, Rel.imm im _ _ rv⟩
theorem i_seq {X : Cx} {W : WX} {tg l : Expr} {f : ET} (hl : PE X l (rdE X.K W f)) : PI X tg l (rdI X.K W (iSeq f)) :=
  PI_imp (pi_seq hl) fun σ H R ⟨ρ, S, Qd, Ed, hρ, hS, hf, y, lx⟩ => by
    refine ⟨ρ, S, _, Ed, hρ, hS, hf, fun d S1 v H1 e1 r1 q1 h1 => ?_, lx⟩
    cases d with
    | lst ds =>
      obtain ⟨a, vs, rfl, ha, rs⟩ := q1
      exact .inl ⟨a, vs, rfl, ha.seq, y ds S1 _ H1 e1 r1 (yields_list (fun H' im => (im.fzL ha).seq) (fun _ _ _ _ => trivial) rs) h1⟩
    | kls ds =>
      obtain ⟨a, vs, rfl, ha, rs⟩ := q1
      exact .inl ⟨a, vs, rfl, ha.seq, y ds S1 _ H1 e1 r1 (yields_list (fun H' im => (im.ksL ha).seq) (fun _ _ _ _ => trivial) rs) h1⟩
    | tup ds =>
      obtain ⟨a, vs, rfl, ha, rs⟩ := q1
      exact .inr ⟨a, vs, rfl, ha, y ds S1 _ H1 e1 r1 (yields_tup ha rs) h1⟩
    | _ => exact h1.elim
/-! ranges -/
def rangeD (lo : Int) (n : Nat) : List D := (List.range n).map fun (k : Nat) => .int (lo + k)
theorem yields_range {K : PySem.W.Frag} {H : Hp} (lo : Int) (n : Nat) : Yields K (Itr lo n) (rangeD lo n) H where
  go := fun i H' hi _ => by
    show i < n
    simpa [rangeD] using hi
  stop := fun H' _ => by
    show n ≤ (rangeD lo n).length
    simp [rangeD]
  yld := fun i H' x H2 d ed im ⟨e, hx⟩ => by
    subst e hx
    have h : i < n := by
      have := (List.getElem?_eq_some_iff.mp ed).1
      simpa [rangeD] using this
    have e2 : d = .int (lo + i) := by
      have : (rangeD lo n)[i]? = some (.int (lo + i)) := by simp [rangeD, h]
      rw [this] at ed
      exact (Option.some.inj ed).symm
    subst e2
    exact ⟨.inl rfl, rfl⟩
def iRange1 (fa : EA) : EI := fun ρ S Q E => fa ρ S (fun ds S1 => match ds with
  | [.int j] => -(2 ^ 62) ≤ j ∧ j < 2 ^ 62 ∧ Q (rangeD 0 j.toNat) S1
  | _ => False) E
def iRange2 (fa : EA) : EI := fun ρ S Q E => fa ρ S (fun ds S1 => match ds with
  | [.int i, .int j] => (-(2 ^ 62) ≤ i ∧ i < 2 ^ 62 ∧ -(2 ^ 62) ≤ j ∧ j < 2 ^ 62) ∧ Q (rangeD i (j - i).toNat) S1
  | _ => False) E
section
variable {X : Cx} {W : WX} {tg a b : Expr} {fa : EA} {p pos : Pos}
theorem i_range1 (hg : Gl X "range") (hm : X.mg "range" = none) (ha : PA X [a] (rdA X.K W 1 fa)) (hs : starEach [a] X.env = [(false, eval a X.env)] := by rfl) : PI X tg (.Call (.Name "range" p) [a] [] pos) (rdI X.K W (iRange1 fa)) :=
  PI_imp (pi_range1 hg hm ha hs) fun σ H R ⟨ρ, S, Qd, Ed, hρ, hS, hf, y, lx⟩ => by
    refine ⟨ρ, S, _, Ed, hρ, hS, hf, fun ds S1 vs H1 e1 r1 q1 hl h1 => ?_, lx⟩
    dsimp only at h1
    split at h1
    · rename_i j
      obtain ⟨v, rfl, rv⟩ := rels1 q1
      have ev : v = _ := rv
      subst ev
      exact ⟨j, rfl, h1.1, h1.2.1, y _ S1 _ H1 e1 r1 (yields_range 0 j.toNat) h1.2.2⟩
    · exact h1.elim
theorem i_range2 (hg : Gl X "range") (hm : X.mg "range" = none) (ha : PA X [a, b] (rdA X.K W 2 fa)) (hs : starEach [a, b] X.env = [(false, eval a X.env), (false, eval b X.env)] := by rfl) (hs2 : starEach [b] X.env = [(false, eval b X.env)] := by rfl) : PI X tg (.Call (.Name "range" p) [a, b] [] pos) (rdI X.K W (iRange2 fa)) :=
  PI_imp (pi_range2 hg hm ha hs hs2) fun σ H R ⟨ρ, S, Qd, Ed, hρ, hS, hf, y, lx⟩ => by
    refine ⟨ρ, S, _, Ed, hρ, hS, hf, fun ds S1 vs H1 e1 r1 q1 hl h1 => ?_, lx⟩
    dsimp only at h1
    split at h1
    · rename_i i j
      obtain ⟨v, u, rfl, rv, ru⟩ := rels2 q1
      have ev : v = _ := rv
      have eu : u = _ := ru
      subst ev eu
      exact ⟨i, j, rfl, h1.1, y _ S1 _ H1 e1 r1 (yields_range i (j - i).toNat) h1.2⟩
    · exact h1.elim
end
/-! list(range(..)) -/
theorem rg_rels {K : PySem.W.Frag} {H : Hp} (i : Int) : ∀ (l : List Nat), Rels K H (l.map fun (k : Nat) => D.int (i + k)) (l.map fun (k : Nat) => V.int (i + (k : Nat)))
  | [] => rfl
  | k :: l => ⟨_, _, rfl, rfl, rg_rels i l⟩
def evListRg1 (mk : MkT) (f : ET) : ET := fun ρ S Q E => f ρ S (fun x S1 => match x with
  | .int j => RgOk 0 j ∧ mk (rangeD 0 (j - 0).toNat) S1 Q
  | _ => False) E
def evListRg2 (mk : MkT) (f fb : ET) : ET := fun ρ S Q E => f ρ S (fun x S1 => fb ρ S1 (fun y S2 => match x, y with
  | .int i, .int j => RgOk i j ∧ mk (rangeD i (j - i).toNat) S2 Q
  | _, _ => False) E) E
section
variable {X : Cx} {W : WX} {a b : Expr} {f fb : ET} {p pos p2 pos2 : Pos} {mk : MkT}
theorem e_listRg1 (hm : MkOk X.K mk) (hc : X.calm = true) (gl : Gl X "list") (ml : X.mg "list" = none) (gr : Gl X "range") (mr : X.mg "range" = none) (ha : PE X a (rdE X.K W f))
    (na : starEach [a] X.env = (false, eval a X.env) :: starEach [] X.env := by rfl) (nl : starEach [.Call (.Name "range" p) [a] [] pos] X.env = (false, eval (.Call (.Name "range" p) [a] [] pos) X.env) :: starEach [] X.env := by rfl) :
    PE X (.Call (.Name "list" p2) [.Call (.Name "range" p) [a] [] pos] [] pos2) (rdE X.K W (evListRg1 mk f)) :=
  PE_imp (pe_fz (pe_listRg hc gl ml (prg_1 gr mr ha na) nl)) fun σ H Q ⟨ρ, S, Qd, Ed, hρ, hS, hf, lq, lx⟩ => by
    refine ⟨ρ, S, _, Ed, hρ, hS, hf, fun d1 S1 v1 H1 e1 r1 q1 h1 => ?_, lx⟩
    dsimp only at h1
    split at h1
    · exact ⟨_, q1, h1.1, fun q hq => hm _ _ _ _ _ _ _ r1 hq (rg_rels 0 _) h1.2 (lq.mono e1)⟩
    · exact h1.elim
theorem e_listRg2 (hm : MkOk X.K mk) (hc : X.calm = true) (gl : Gl X "list") (ml : X.mg "list" = none) (gr : Gl X "range") (mr : X.mg "range" = none) (ha : PE X a (rdE X.K W f)) (hb : PE X b (rdE X.K W fb))
    (na : starEach [a, b] X.env = (false, eval a X.env) :: starEach [b] X.env := by rfl) (nb : starEach [b] X.env = (false, eval b X.env) :: starEach [] X.env := by rfl) (hp : (backTo pos (starEach [b] X.env)).any (·.1) = false := by rfl)
    (nl : starEach [.Call (.Name "range" p) [a, b] [] pos] X.env = (false, eval (.Call (.Name "range" p) [a, b] [] pos) X.env) :: starEach [] X.env := by rfl) :
    PE X (.Call (.Name "list" p2) [.Call (.Name "range" p) [a, b] [] pos] [] pos2) (rdE X.K W (evListRg2 mk f fb)) :=
  PE_imp (pe_fz (pe_listRg hc gl ml (prg_2 gr mr ha hb na nb hp) nl)) fun σ H Q ⟨ρ, S, Qd, Ed, hρ, hS, hf, lq, lx⟩ => by
    refine ⟨ρ, S, _, Ed, hρ, hS, hf, fun d1 S1 v1 H1 e1 r1 q1 h1 => ?_, lx⟩
    refine ⟨ρ, S1, _, Ed, hρ.imm (e1.imm hS), r1, h1, fun d2 S2 v2 H2 e2 r2 q2 h2 => ?_, lx.mono e1⟩
    dsimp only at h2
    split at h2
    · exact ⟨_, _, q1, q2, h2.1, fun q hq => hm _ _ _ _ _ _ _ r2 hq (rg_rels _ _) h2.2 ((lq.mono e1).mono e2)⟩
    · exact h2.elim
end
end MP

set_option Elab.async false
set_option linter.all false
set_option maxRecDepth 100000
set_option maxHeartbeats 1100000
/-! MPStep: one lemma a combinator, to step through a mirror -/
namespace MP
open PySem PySem.Spec PyProof.Rows L2 MP
variable {ρ : Env} {S : Store} {N : DEnds} {Q : Post} {E : XPost} {d x y : D} {ds : List D} {i j : Int} {n m : Nat} {f f2 f3 : ET} {g h : ST} {fa fb : EA} {t u : EB} {QA : List D → Store → Prop} {QB : Bool → Store → Prop} {QE : Env → Store → Prop} {gg gh : DG} {gs : DGs} {o o2 : G2} {mk : MkT}
theorem runF_i (q : g (ds.map some ++ List.replicate (m - ds.length) none) S { nx := fun _ S' => Q .non S', rt := Q, ex := fun x _ S' => E x S' }) : runF m g ds S Q E := q
theorem dSeq_i (q : g ρ S { N with nx := fun ρ' S' => h ρ' S' N }) : dSeq g h ρ S N := q
theorem dNext_i (q : N.nx ρ S) : dNext ρ S N := q
theorem dExpr_i (q : f ρ S (fun _ S' => N.nx ρ S') (fun x S' => N.ex x ρ S')) : dExpr f ρ S N := q
theorem dRet_i (q : f ρ S N.rt (fun x S' => N.ex x ρ S')) : dRet f ρ S N := q
theorem dRetN_i (q : N.rt .non S) : dRetN ρ S N := q
theorem dBrk_i (q : N.bk ρ S) : dBrk ρ S N := q
theorem dCnt_i (q : N.ct ρ S) : dCnt ρ S N := q
theorem dIf_i (q : t ρ S (fun b S' => if b = true then g ρ S' N else h ρ S' N) (fun x S' => N.ex x ρ S')) : dIf t g h ρ S N := q
theorem dAsg_i (q : f ρ S (fun d S' => gg d ρ S' N.nx) (fun x S' => N.ex x ρ S')) : dAsg f gg ρ S N := q
theorem dSet_i (q : f ρ S (fun d S' => N.nx (st ρ n (some d)) S') (fun x S' => N.ex x ρ S')) : dSet n f ρ S N := q
theorem dPar_i (q : fa ρ S (fun ds S' => match ds with
  | [x, y] => N.nx (st (st ρ n (some x)) m (some y)) S'
  | _ => False) (fun x S' => N.ex x ρ S')) : dPar n m fa ρ S N := q
theorem dRaise_i {c : Value} (q : N.ex { cls := c } ρ S) : dRaise c ρ S N := q
theorem dgName_i (q : QE (st ρ n (some d)) S) : dgName n d ρ S QE := q
theorem dgNil_i (q : QE ρ S) : dgNil [] ρ S QE := q
theorem dgCons_i (q : gg d ρ S fun ρ1 S1 => gs ds ρ1 S1 QE) : dgCons gg gs (d :: ds) ρ S QE := q
theorem dgTup_i (e : ds.length = n) (q : gs ds ρ S QE) : dgTup n gs (.tup ds) ρ S QE := ⟨e, q⟩
theorem dgSub_i (q : f ρ S (fun x S1 => f2 ρ S1 (fun y S2 => setD x y d S2 (fun S3 => QE ρ S3)) (fun _ _ => False)) (fun _ _ => False)) : dgSub f f2 d ρ S QE := q
theorem evC_i (q : Q d S) : evC d ρ S Q E := q
theorem evV_i (e : lk ρ n = some d) (q : Q d S) : evV n ρ S Q E := by unfold evV; rw [e]; exact q
theorem aNil_i (q : QA [] S) : aNil ρ S QA E := q
theorem aCons_i (q : f ρ S (fun d S1 => fa ρ S1 (fun ds S2 => QA (d :: ds) S2) E) E) : aCons f fa ρ S QA E := q
theorem evTup_i (q : fa ρ S (fun ds S1 => Q (.tup ds) S1) E) : evTup fa ρ S Q E := q
theorem evLst_i (q : fa ρ S (fun ds S1 => mk ds S1 Q) E) : evLst mk fa ρ S Q E := q
theorem mkF_i (q : Q (.lst ds) S) : mkF ds S Q := q
theorem mkM_i (q : ∀ a, S a = none → Q (.ref a) (S.set a (.lst ds))) : mkM ds S Q := q
theorem mkDF_i {ks : List Key} (q : Q (.dct ks ds) S) : mkDF ks ds S Q := q
theorem mkDM_i {ks : List Key} (q : ∀ a, S a = none → Q (.ref a) (S.set a (.dct ks ds))) : mkDM ks ds S Q := q
theorem evDisp_i {mk : MkDT} {ks : List Key} (q : fa ρ S (fun ds S1 => mk ks ds S1 Q) E) : evDisp mk ks fa ρ S Q E := q
theorem evDict0_i {mk : MkDT} (q : mk [] [] S Q) : evDict0 mk ρ S Q E := q
theorem bin_i (q : f ρ S (fun x S1 => f2 ρ S1 (fun y S2 => o x y S2 Q) E) E) : bin o f f2 ρ S Q E := q
theorem una_i {o : G1} (q : f ρ S (fun x S1 => o x S1 Q) E) : una o f ρ S Q E := q
theorem evCall_i {F : DF} (q : fa ρ S (fun ds S1 => F ds S1 Q E) E) : evCall F fa ρ S Q E := q
theorem evCall0_i {F : DF} (q : F [] S Q E) : evCall0 F ρ S Q E := q
theorem evCallK_i {F : DF} {is : List Nat} (q : fa ρ S (fun ds S1 => fb ρ S1 (fun zs S2 => F (pickL is (ds ++ zs)) S2 Q E) E) E) : evCallK F is fa fb ρ S Q E := q
theorem evB_i {o : GA} (q : fa ρ S (fun ds S1 => o ds S1 Q) E) : evB o fa ρ S Q E := q
theorem evM_i {T : String} {o : GM} (q : f ρ S (fun d S1 => mty (vw d S1) = some T ∧ fa ρ S1 (fun ds S2 => o d ds S2 Q) E) E) : evM T o f fa ρ S Q E := q
theorem evM0_i {T : String} {o : GM} (q : f ρ S (fun d S1 => mty (vw d S1) = some T ∧ o d [] S1 Q) E) : evM0 T o f ρ S Q E := q
/-- a truth that is met -/
def onT (d : D) (S : Store) (k : Bool → Prop) : Prop := match tru d S with
  | some b => k b
  | none => False
theorem onT_bl {b : Bool} {k : Bool → Prop} (q : k b) : onT (.bl b) S k := q
theorem onT_non {k : Bool → Prop} (q : k false) : onT .non S k := q
theorem onT_i {b : Bool} {k : Bool → Prop} (e : tru d S = some b) (q : k b) : onT d S k := by unfold onT; rw [e]; exact q
theorem bV_i (q : f ρ S (fun d S1 => onT d S1 fun b => QB b S1) E) : bV f ρ S QB E := q
theorem bAnd_i (q : t ρ S (fun b S1 => if b = true then u ρ S1 QB E else QB false S1) E) : bAnd t u ρ S QB E := q
theorem bOr_i (q : t ρ S (fun b S1 => if b = true then QB true S1 else u ρ S1 QB E) E) : bOr t u ρ S QB E := q
theorem bNot_i (q : t ρ S (fun b S1 => QB (!b) S1) E) : bNot t ρ S QB E := q
theorem bYes_i (q : QB true S) : bYes ρ S QB E := q
def onBl (d : D) (k : Bool → Prop) : Prop := match d with
  | .bl b => k b
  | _ => False
theorem onBl_i {b : Bool} {k : Bool → Prop} (q : k b) : onBl (.bl b) k := q
theorem bB_i (q : f ρ S (fun d S1 => onBl d fun b => QB b S1) E) : bB f ρ S QB E := q
theorem eAnd_i (q : f ρ S (fun d S1 => onT d S1 fun b => if b = true then f2 ρ S1 Q E else Q d S1) E) : eAnd f f2 ρ S Q E := by
  unfold eAnd
  refine cast (congrArg (fun k => f ρ S k E) ?_) q
  funext d S1
  unfold onT
  cases tru d S1 with
  | none => rfl
  | some b => cases b <;> simp
theorem eOr_i (q : f ρ S (fun d S1 => onT d S1 fun b => if b = true then Q d S1 else f2 ρ S1 Q E) E) : eOr f f2 ρ S Q E := by
  unfold eOr
  refine cast (congrArg (fun k => f ρ S k E) ?_) q
  funext d S1
  unfold onT
  cases tru d S1 with
  | none => rfl
  | some b => cases b <;> simp
theorem eNot_i (q : f ρ S (fun d S1 => onT d S1 fun b => Q (.bl (!b)) S1) E) : eNot f ρ S Q E := q
theorem eIf_i (q : t ρ S (fun b S1 => if b = true then f ρ S1 Q E else f2 ρ S1 Q E) E) : eIf t f f2 ρ S Q E := q
theorem chn_i (q : f ρ S (fun x S1 => f2 ρ S1 (fun y S2 => o x y S2 fun z S3 => onBl z fun b => if b = true then f3 ρ S3 (fun w S4 => o2 y w S4 Q) E else Q (.bl false) S3) E) E) : chn o o2 f f2 f3 ρ S Q E := by
  unfold chn
  refine cast (congrArg (fun k => f ρ S k E) ?_) q
  funext x S1
  refine congrArg (fun k => f2 ρ S1 k E) ?_
  funext y S2
  refine congrArg (fun k => o x y S2 k) ?_
  funext z S3
  unfold onBl
  cases z with
  | bl b => cases b <;> simp
  | _ => rfl
theorem ite_t {p q : Prop} {b : Bool} (e : b = true) (h : p) : (if b = true then p else q) := by rw [if_pos e]; exact h
theorem ite_f {p q : Prop} {b : Bool} (e : b = false) (h : q) : (if b = true then p else q) := by rw [if_neg (by rw [e]; exact fun z => nomatch z)]; exact h
theorem ite_tt {p q : Prop} (h : p) : (if true = true then p else q) := by rw [if_pos rfl]; exact h
theorem ite_ff {p q : Prop} (h : q) : (if false = true then p else q) := by rw [if_neg (fun z => nomatch z)]; exact h
theorem ite_cc {p q : Prop} {b : Bool} (h1 : b = true → p) (h2 : b = false → q) : (if b = true then p else q) := by
  cases b with
  | true => exact ite_tt (h1 rfl)
  | false => exact ite_ff (h2 rfl)
/-! operators -/
theorem gSub_i (q : Q (.int (i - j)) S) : gSub (.int i) (.int j) S Q := q
theorem gAdd_i (q : Q (.int (i + j)) S) : gAdd mk (.int i) (.int j) S Q := q
theorem gAdd_l {xs ys : List D} (e : xs.length + ys.length ≤ sizeLine) (q : mk (xs ++ ys) S Q) : gAdd mk (.lst xs) (.lst ys) S Q := ⟨e, q⟩
theorem gMul_i (e : CMul i j) (q : Q (.int (i * j)) S) : gMul (.int i) (.int j) S Q := ⟨e, q⟩
theorem gDiv_i (e : CDiv i j) (q : Q (.int (i / j)) S) : gDiv (.int i) (.int j) S Q := ⟨e, q⟩
theorem gMod_i (e : 0 < j) (q : Q (.int (i % j)) S) : gMod (.int i) (.int j) S Q := ⟨e, q⟩
theorem gPow_i (e : CPow i j) (q : Q (.int (i ^ j.toNat)) S) : gPow (.int i) (.int j) S Q := ⟨e, q⟩
theorem gNeg_i (q : Q (.int (-i)) S) : gNeg (.int i) S Q := q
theorem gLe_i (q : Q (.bl (decide (i ≤ j))) S) : gOrd (fun i j => decide (i ≤ j)) (fun i j => !decide (j < i)) (.int i) (.int j) S Q := q
theorem gLt_i (q : Q (.bl (decide (i < j))) S) : gOrd (fun i j => decide (i < j)) (fun i j => decide (i < j)) (.int i) (.int j) S Q := q
theorem gGt_i (q : Q (.bl (decide (j < i))) S) : gOrd (fun i j => decide (j < i)) (fun i j => decide (j < i)) (.int i) (.int j) S Q := q
theorem gGe_i (q : Q (.bl (decide (j ≤ i))) S) : gOrd (fun i j => decide (j ≤ i)) (fun i j => !decide (i < j)) (.int i) (.int j) S Q := q
theorem gEq_i (q : Q (.bl (i == j)) S) : gEq (.int i) (.int j) S Q := ⟨rfl, rfl, q⟩
theorem gNe_i (q : Q (.bl (!(i == j))) S) : gNe (.int i) (.int j) S Q := ⟨rfl, rfl, q⟩
theorem gEq_b {a b : Bool} (q : Q (.bl (a == b)) S) : gEq (.bl a) (.bl b) S Q := ⟨rfl, rfl, q⟩
theorem gNe_b {a b : Bool} (q : Q (.bl (!(a == b))) S) : gNe (.bl a) (.bl b) S Q := ⟨rfl, rfl, q⟩
theorem gEq_s {a b : Str} (q : Q (.bl (a == b)) S) : gEq (.str a) (.str b) S Q := q
theorem gNe_s {a b : Str} (q : Q (.bl (!(a == b))) S) : gNe (.str a) (.str b) S Q := q
theorem gIs_i (q : Q (.bl (isNon x)) S) : gIs x .non S Q := q
theorem gIsn_i (q : Q (.bl (!isNon x)) S) : gIsn x .non S Q := q
theorem gIx_t {xs : List D} (e : atI xs i = some d) (q : Q d S) : gIx (.tup xs) (.int i) S Q := by unfold gIx; simp only [vw]; rw [e]; exact q
theorem gIx_l {xs : List D} (e : atI xs i = some d) (q : Q d S) : gIx (.lst xs) (.int i) S Q := by unfold gIx; simp only [vw]; rw [e]; exact q
theorem gLen_w {xs : List D} (e : seqW (vw d S) = some xs) (q : Q (.int xs.length) S) : gLen [d] S Q := by
  show (match vw d S with
    | .lst xs => Q (.int xs.length) S
    | .kls xs => Q (.int xs.length) S
    | .tup xs => Q (.int xs.length) S
    | .dct ks _ => Q (.int ks.length) S
    | .str z => z.length ≤ sizeLine ∧ Q (.int z.length) S
    | _ => False)
  revert e
  cases vw d S <;> intro e <;> first
    | (cases e; exact q)
    | exact nomatch e
theorem gInt_i (q : Q (.int i) S) : gInt [.int i] S Q := q
theorem gAbs_i (q : Q (.int (if i < 0 then -i else i)) S) : gAbs [.int i] S Q := q
theorem gMin2_i (q : Q (.int (if j < i then j else i)) S) : gMin [.int i, .int j] S Q := by
  show Q (.int (if decide (j < i) = true then j else i)) S
  simpa using q
theorem gList_i {xs : List D} (e : seqW (vw d S) = some xs) (q : mk xs S Q) : gList mk [d] S Q := by
  show (match seqW (vw d S) with
    | some xs => mk xs S Q
    | none => False)
  rw [e]; exact q
theorem gTuple_i {xs : List D} (e : seqW (vw d S) = some xs) (q : Q (.tup xs) S) : gTuple [d] S Q := by
  show (match seqW (vw d S) with
    | some xs => Q (.tup xs) S
    | none => False)
  rw [e]; exact q
theorem gIsi_t {sub : Value → Value → Option Bool} {ex : Addr → Bool} {n : String} {t : String} {b : Bool} (e0 : excD x = none) (e : tyD (vw x S) = some (.type t)) (eb : kitB t n = some b) (q : Q (.bl b) S) : gIsi sub ex [x, .ty n] S Q := by
  show (match excD x with
    | some C => match clsD (.ty n) with
      | some u => ex C = true ∧ match sub (.ref C) u with
        | some b => Q (.bl b) S
        | none => False
      | none => False
    | none => match tyD (vw x S), clsD (.ty n) with
      | some t, some u => match isiV sub t u with
        | some b => Q (.bl b) S
        | none => False
      | _, _ => False)
  rw [e0, e]
  show (match kitB t n with
        | some b => Q (.bl b) S
        | none => False)
  rw [eb]
  exact q
theorem comp_map {α : Type} {K : List D → Store → Prop} (enc : α → D) (p : α → Bool) (out : α → D) : ∀ (xs : List α) (acc : List D),
    (∀ x ∈ xs, ∀ k : Bool → Store → Prop, k (p x) S → t (st ρ n (some (enc x))) S k (fun _ _ => False)) →
    (∀ x ∈ xs, p x = true → ∀ k : Post, k (out x) S → f (st ρ n (some (enc x))) S k (fun _ _ => False)) →
    acc.length + xs.length ≤ sizeLine → K (acc ++ (xs.filter p).map out) S → comp (dgName n) t f K (xs.map enc) acc ρ S
  | [], acc, _, _, _, q => by
    show K acc S
    simpa using q
  | x :: xs, acc, h1, h2, hl, q => by
    refine h1 x List.mem_cons_self _ ?_
    have ih := fun acc => comp_map (K := K) enc p out xs acc (fun y hy => h1 y (List.mem_cons_of_mem _ hy)) (fun y hy => h2 y (List.mem_cons_of_mem _ hy))
    by_cases e : p x = true
    · refine ite_t e (h2 x List.mem_cons_self e _ ⟨by simp only [List.length_cons] at hl; omega, ih _ (by simp only [List.length_append, List.length_cons, List.length_nil] at hl ⊢; omega) ?_⟩)
      rw [List.filter_cons_of_pos e] at q
      simpa using q
    · refine ite_f (by simpa using e) (ih _ (by simp only [List.length_cons] at hl; omega) ?_)
      rw [List.filter_cons_of_neg e] at q
      exact q
theorem comp_all {α : Type} {K : List D → Store → Prop} (enc : α → D) (out : α → D) (xs : List α)
    (h : ∀ x ∈ xs, ∀ k : Post, k (out x) S → f (st ρ n (some (enc x))) S k (fun _ _ => False))
    (hl : xs.length ≤ sizeLine) (q : K (xs.map out) S) : comp (dgName n) bYes f K (xs.map enc) [] ρ S :=
  comp_map enc (fun _ => true) out xs [] (fun _ _ _ q => q) (fun x hx _ k q => h x hx k q) (by simpa using hl) (by rw [List.filter_eq_self.mpr (fun _ _ => rfl)]; exact q)
theorem evComp_i {fi : EI} {vs : List Nat} (q : fi ρ S (fun ds S1 => comp gg t f (fun acc S2 => mk acc S2 Q) ds [] (wipeD ρ vs) S1) E) : evComp mk fi gg t f vs ρ S Q E := q
theorem dFor_i {fi : EI} (q : fi ρ S (fun ds S1 => loop gg g N ds ρ S1) (fun x S' => N.ex x ρ S')) : dFor fi gg g ρ S N := q
def onSeq (d : D) (k : List D → Prop) : Prop := match d with
  | .lst ds => k ds
  | .kls ds => k ds
  | .tup ds => k ds
  | _ => False
theorem onSeq_l {k : List D → Prop} (q : k ds) : onSeq (.lst ds) k := q
theorem onSeq_k {k : List D → Prop} (q : k ds) : onSeq (.kls ds) k := q
theorem onSeq_t {k : List D → Prop} (q : k ds) : onSeq (.tup ds) k := q
theorem iSeq_i (q : f ρ S (fun d S1 => onSeq d fun ds => QA ds S1) E) : iSeq f ρ S QA E := q
theorem iRange1_i (q : fa ρ S (fun ds S1 => match ds with
  | [.int j] => -(2 ^ 62) ≤ j ∧ j < 2 ^ 62 ∧ QA (rangeD 0 j.toNat) S1
  | _ => False) E) : iRange1 fa ρ S QA E := q
theorem loop_cons (q : gg d ρ S fun ρ1 S1 => g ρ1 S1 { N with nx := loop gg g N ds, ct := loop gg g N ds, bk := N.nx }) : loop gg g N (d :: ds) ρ S := q
theorem loop_nil (q : N.nx ρ S) : loop gg g N [] ρ S := q
theorem loop_ind (I : List D → Env → Store → Prop) (hstep : ∀ d r ρ S, (∀ ρ' S', I r ρ' S' → loop gg g N r ρ' S') → I (d :: r) ρ S → gg d ρ S fun ρ1 S1 => g ρ1 S1 { N with nx := loop gg g N r, ct := loop gg g N r, bk := N.nx })
    (hend : ∀ ρ S, I [] ρ S → N.nx ρ S) : ∀ ds ρ S, I ds ρ S → loop gg g N ds ρ S
  | [], ρ, S, h => hend ρ S h
  | d :: r, ρ, S, h => hstep d r ρ S (fun ρ' S' => loop_ind I hstep hend r ρ' S') h
/-! least and greatest of ints -/
def mn : List Int → Int
  | [] => 0
  | [a] => a
  | a :: b :: r => if mn (b :: r) < a then mn (b :: r) else a
def mx : List Int → Int
  | [] => 0
  | [a] => a
  | a :: b :: r => if a < mx (b :: r) then mx (b :: r) else a
theorem mn_spec : ∀ (ns : List Int), ns ≠ [] → mn ns ∈ ns ∧ ∀ y ∈ ns, mn ns ≤ y
  | [], h => absurd rfl h
  | [a], _ => ⟨by simp [mn], fun y hy => by simp only [List.mem_singleton] at hy; subst hy; exact Int.le_refl _⟩
  | a :: b :: r, _ => by
    obtain ⟨h1, h2⟩ := mn_spec (b :: r) (by simp)
    by_cases c : mn (b :: r) < a
    · have e : mn (a :: b :: r) = mn (b :: r) := by show (if _ then _ else _) = _; rw [if_pos c]
      rw [e]
      exact ⟨List.mem_cons_of_mem _ h1, fun y hy => (List.mem_cons.mp hy).elim (fun z => by omega) (h2 y)⟩
    · have e : mn (a :: b :: r) = a := by show (if _ then _ else _) = _; rw [if_neg c]
      rw [e]
      exact ⟨List.mem_cons_self, fun y hy => (List.mem_cons.mp hy).elim (fun z => by omega) fun z => by have := h2 y z; omega⟩
theorem mx_spec : ∀ (ns : List Int), ns ≠ [] → mx ns ∈ ns ∧ ∀ y ∈ ns, y ≤ mx ns
  | [], h => absurd rfl h
  | [a], _ => ⟨by simp [mx], fun y hy => by simp only [List.mem_singleton] at hy; subst hy; exact Int.le_refl _⟩
  | a :: b :: r, _ => by
    obtain ⟨h1, h2⟩ := mx_spec (b :: r) (by simp)
    by_cases c : a < mx (b :: r)
    · have e : mx (a :: b :: r) = mx (b :: r) := by show (if _ then _ else _) = _; rw [if_pos c]
      rw [e]
      exact ⟨List.mem_cons_of_mem _ h1, fun y hy => (List.mem_cons.mp hy).elim (fun z => by omega) (h2 y)⟩
    · have e : mx (a :: b :: r) = a := by show (if _ then _ else _) = _; rw [if_neg c]
      rw [e]
      exact ⟨List.mem_cons_self, fun y hy => (List.mem_cons.mp hy).elim (fun z => by omega) fun z => by have := h2 y z; omega⟩
theorem ints_map : ∀ ns : List Int, ints? (ns.map D.int) = some ns
  | [] => rfl
  | n :: r => by
    show (ints? (r.map D.int)).map (n :: ·) = _
    rw [ints_map r]
    rfl
theorem bls_map : ∀ ns : List Bool, bls? (ns.map D.bl) = some ns
  | [] => rfl
  | n :: r => by
    show (bls? (r.map D.bl)).map (n :: ·) = _
    rw [bls_map r]
    rfl
theorem gExt_l {better : Int → Int → Bool} {ns : List Int} (m : Int) (e : vw d S = .lst (ns.map D.int)) (h : ns ≠ []) (u : ∀ k, k ∈ ns → (∀ y, y ∈ ns → better y k = false) → k = m) (q : Q (.int m) S) : gExt better [d] S Q := by
  have z : (match vw d S with
    | .lst xs => match ints? xs with
      | some ns => 0 < ns.length ∧ ∀ m, m ∈ ns → (∀ y, y ∈ ns → better y m = false) → Q (.int m) S
      | none => False
    | _ => False : Prop) := by
    rw [e]
    show (match ints? (ns.map D.int) with
      | some ns => 0 < ns.length ∧ ∀ m, m ∈ ns → (∀ y, y ∈ ns → better y m = false) → Q (.int m) S
      | none => False)
    rw [ints_map]
    exact ⟨List.length_pos_iff.mpr h, fun k hk hb => by rw [u k hk hb]; exact q⟩
  clear e
  cases d <;> exact z
theorem gMin_l {ns : List Int} (e : vw d S = .lst (ns.map D.int)) (h : ns ≠ []) (q : Q (.int (mn ns)) S) : gMin [d] S Q :=
  gExt_l (mn ns) e h (fun k hk hb => by
    have h1 := mn_spec ns h
    have h2 := of_decide_eq_false (hb _ h1.1)
    have h3 := h1.2 k hk
    omega) q
theorem gMax_l {ns : List Int} (e : vw d S = .lst (ns.map D.int)) (h : ns ≠ []) (q : Q (.int (mx ns)) S) : gMax [d] S Q :=
  gExt_l (mx ns) e h (fun k hk hb => by
    have h1 := mx_spec ns h
    have h2 := of_decide_eq_false (hb _ h1.1)
    have h3 := h1.2 k hk
    omega) q
theorem gBls_l {ff : List Bool → Bool} {bs : List Bool} (e : vw d S = .lst (bs.map D.bl)) (q : Q (.bl (ff bs)) S) : gBls ff [d] S Q := by
  show (match vw d S with
    | .lst xs => match bls? xs with
      | some bs => Q (.bl (ff bs)) S
      | none => False
    | _ => False : Prop)
  rw [e]
  show (match bls? (bs.map D.bl) with
      | some bs => Q (.bl (ff bs)) S
      | none => False : Prop)
  rw [bls_map]
  exact q
theorem gAny_l {bs : List Bool} (e : vw d S = .lst (bs.map D.bl)) (q : Q (.bl (bs.any id)) S) : gAny [d] S Q := gBls_l e q
theorem gAll_l {bs : List Bool} (e : vw d S = .lst (bs.map D.bl)) (q : Q (.bl (bs.all id)) S) : gAll [d] S Q := gBls_l e q
theorem gIn_bls {b : Bool} {bs : List Bool} (q : Q (.bl (bs.any fun c => c == b)) S) : gIn false (.bl b) (.lst (bs.map D.bl)) S Q := by
  refine ⟨rfl, ?_, ?_⟩
  · rw [List.all_map]; exact List.all_eq_true.mpr fun _ _ => rfl
  · have e : inD (.bl b) (bs.map D.bl) = bs.any fun c => c == b := by
      unfold inD
      rw [List.any_map]
      rfl
    show Q (.bl (if false = true then _ else inD (.bl b) (bs.map D.bl))) S
    rw [if_neg (by decide), e]
    exact q
/-! a list against the empty one -/
theorem toPys_map {α : Type} (enc : α → D) (pe : α → PyData) (h : ∀ x, toPy (enc x) = some (pe x)) : ∀ xs : List α, toPys (xs.map enc) = some (xs.map pe)
  | [] => rfl
  | x :: r => by
    show (toPy (enc x)).bind (fun p => (toPys (r.map enc)).map fun ps => p :: ps) = _
    rw [h, toPys_map enc pe h r]
    rfl
theorem lay_map {α : Type} (pe : α → PyData) (h : ∀ x, (pe x).canLay0 = true) : ∀ xs : List α, PyData.canLayAll0 (xs.map pe) = true
  | [] => (by simp [PyData.canLayAll0])
  | x :: r => by simp [PyData.canLayAll0, h x, lay_map pe h r]
theorem depth_map {α : Type} (pe : α → PyData) (h : ∀ x, (pe x).depth ≤ 8) : ∀ xs : List α, PyData.depthAll (xs.map pe) ≤ 8
  | [] => (by simp [PyData.depthAll])
  | x :: r => by
    have h1 := h x
    have h2 := depth_map pe h r
    simp only [PyData.depthAll, List.map_cons]
    omega
theorem eq_nil {α : Type} {f : Bool → Bool} (enc : α → D) (pe : α → PyData) (h : ∀ x, toPy (enc x) = some (pe x) ∧ (pe x).canLay0 = true ∧ (pe x).depth ≤ 8) {xs : List α} (e : vw d S = .lst (xs.map enc)) (hd : ∀ z, d ≠ .str z) (q : Q (.bl (f xs.isEmpty)) S) : eqG f d (.lst []) S Q := by
  unfold eqG
  split
  · rename_i a b e1 e2; cases e2
  · rw [e]
    have e1 : toPy (.lst (xs.map enc)) = some (.list (xs.map pe)) := by
      show (toPys (xs.map enc)).map PyData.list = _
      rw [toPys_map enc pe (fun x => (h x).1) xs]
      rfl
    rw [e1]
    refine ⟨?_, rfl, ?_⟩
    · show (PyData.canLay0 (.list (xs.map pe)) && decide (PyData.depth (.list (xs.map pe)) ≤ 64)) = true
      have hd := depth_map pe (fun x => (h x).2.2) xs
      rw [Bool.and_eq_true]
      exact ⟨by simp only [PyData.canLay0]; exact lay_map pe (fun x => (h x).2.1) xs, decide_eq_true (by simp only [PyData.depth]; omega)⟩
    · cases xs with
      | nil => exact q
      | cons x r => exact q
theorem int_lay (x : Int) : toPy (.int x) = some (.int x) ∧ (PyData.int x).canLay0 = true ∧ (PyData.int x).depth ≤ 8 := ⟨rfl, rfl, by simp [PyData.depth]⟩
/-! dicts of the store -/
theorem gIx_box {a : Addr} {ks : List Key} {k : Key} (h : S a = some (.dct ks ds)) (hk : keyD y = some k) (e : dlook ks ds k = some d) (q : Q d S) : gIx (.ref a) y S Q := by
  have hv : vw (.ref a) S = .dct ks ds := by unfold vw; simp only [h]
  unfold gIx
  rw [hv]
  simp only [hk, e]
  exact q
theorem setD_box {a : Addr} {ks ks' : List Key} {ds' : List D} {k : Key} {QS : Store → Prop} (h : S a = some (.dct ks ds)) (hk : keyD y = some k) (hl : ks.length < sizeLine) (e1 : putKs ks k = ks') (e2 : putVs ks ds k d = ds') (q : QS (S.set a (.dct ks' ds'))) : setD (.ref a) y d S QS := by
  unfold setD
  simp only [h, hk]
  exact ⟨hl, by rw [e1, e2]; exact q⟩
theorem vw_l {a : Addr} (h : S a = some (.lst ds)) : vw (.ref a) S = .lst ds := by unfold vw; simp only [h]
end MP

set_option Elab.async false
set_option linter.all false
set_option maxRecDepth 100000
set_option maxHeartbeats 2100000
/-! MPText: texts, slices, tuples joined, dicts asked. -/
namespace MP
open PySem PySem.Spec PyProof.Rows L2 MP
/-! ### the signs of a text -/
def signs (x : Str) : List D := x.cps.toList.map fun c => .str ⟨#[c]⟩
def onStr (d : D) (k : Str → Prop) : Prop := match d with
  | .str x => k x
  | _ => False
def iChars (f : ET) : EI := fun ρ S Q E => f ρ S (fun d S1 => onStr d fun x => Q (signs x) S1) E
theorem yields_str {K : PySem.W.Frag} {H : Hp} (x : Str) : Yields K (Its x) (signs x) H where
  go := fun i H' hi _ => by
    show i < x.cps.size
    simpa [signs] using hi
  stop := fun H' _ => by
    show x.cps.size ≤ (signs x).length
    simp [signs]
  yld := fun i H' v H2 d ed _ ⟨e, c, hc, hv⟩ => by
    subst e hv
    refine ⟨.inl rfl, ?_⟩
    have e2 : (signs x)[i]? = some (.str ⟨#[c]⟩) := by
      unfold signs
      rw [List.getElem?_map, Array.getElem?_toList, hc]
      rfl
    rw [e2] at ed
    cases ed
    rfl
theorem i_chars {X : Cx} {W : WX} {tg l : Expr} {f : ET} (hl : PE X l (rdE X.K W f)) : PI X tg l (rdI X.K W (iChars f)) :=
  PI_imp (pi_str hl) fun σ H R ⟨ρ, S, Qd, Ed, hρ, hS, hf, y, lx⟩ => by
    refine ⟨ρ, S, _, Ed, hρ, hS, hf, fun d S1 v H1 e1 r1 q1 h1 => ?_, lx⟩
    cases d with
    | str x => exact ⟨x, q1, y (signs x) S1 _ H1 e1 r1 (yields_str x) h1⟩
    | _ => exact h1.elim
theorem iChars_i {f : ET} {ρ : MP.Env} {S : Store} {Q : List D → Store → Prop} {E : XPost} (q : f ρ S (fun d S1 => onStr d fun x => Q (signs x) S1) E) : iChars f ρ S Q E := q
theorem onStr_i {x : Str} {k : Str → Prop} (q : k x) : onStr (.str x) k := q

/-! ### slices -/
abbrev EO := MP.Env → Store → (Option Int → Store → Prop) → XPost → Prop
def rdO (K : PySem.W.Frag) (W : WX) (f : EO) : TO := fun σ H Q => ∃ ρ S Qd Ed, EnvR K H ρ σ ∧ SRel K S H ∧ f ρ S Qd Ed ∧ (∀ o S' H', Evo S H S' H' → SRel K S' H' → Qd o S' → Q o H') ∧ LX K S H Ed (fun c dd H' => W c dd σ H')
def onInt (d : D) (k : Int → Prop) : Prop := match d with
  | .int i => k i
  | _ => False
theorem onInt_i {i : Int} {k : Int → Prop} (q : k i) : onInt (.int i) k := q
def oNo : EO := fun _ S Q _ => Q none S
def oPart (f : ET) : EO := fun ρ S Q E => f ρ S (fun d S1 => onInt d fun i => Q (some i) S1) E
theorem PO_imp {X : Cx} {e : Option Expr} {t t' : TO} (h : PO X e t) (i : ∀ σ H Q, t' σ H Q → t σ H Q) : PO X e t' := ⟨fun pins s σ H Q I q => h.run pins s σ H Q I (i σ H Q q)⟩
theorem o_none {X : Cx} {W : WX} : PO X none (rdO X.K W oNo) := PO_imp po_none fun σ H Q ⟨ρ, S, Qd, Ed, hρ, hS, hf, l, _⟩ => l none S H (Evo.refl _ _) hS hf
theorem o_some {X : Cx} {W : WX} {e : Expr} {f : ET} (h : PE X e (rdE X.K W f)) : PO X (some e) (rdO X.K W (oPart f)) :=
  PO_imp (po_some h) fun σ H Q ⟨ρ, S, Qd, Ed, hρ, hS, hf, l, lx⟩ => by
    refine ⟨ρ, S, _, Ed, hρ, hS, hf, fun d S1 v H1 e1 r1 q1 h1 => ?_, lx⟩
    cases d with
    | int i => exact ⟨i, q1, l (some i) S1 H1 e1 r1 h1⟩
    | _ => exact h1.elim
def cutL {α : Type} (xs : List α) (lo hi : Option Int) : List α := (xs.drop (HT.sIx xs.length 0 lo)).take (HT.sIx xs.length xs.length hi - HT.sIx xs.length 0 lo)
theorem Rels.cut {K : PySem.W.Frag} {H : Hp} {ds : List D} {vs : List V} (lo hi : Option Int) (r : Rels K H ds vs) : Rels K H (cutL ds lo hi) (cutV vs lo hi) := by
  unfold cutL cutV
  rw [r.length]
  exact Rels.take _ (Rels.drop _ r)
abbrev GS := D → Option Int → Option Int → Store → Post → Prop
def SlD (K : PySem.W.Frag) (r : V → Option Int → Option Int → Hp → VK → Prop) (g : GS) : Prop := ∀ x lo hi S H dx Qd Q, SRel K S H → Rel K H dx x → g dx lo hi S Qd → LQ K S H Qd Q → r x lo hi H (FzQ Q)
def rSlAll (K : PySem.W.Frag) : V → Option Int → Option Int → Hp → VK → Prop := fun x lo hi H Q => rSlA K x lo hi H Q ∨ rSlS x lo hi H Q ∨ rSlL K x lo hi H Q
theorem sl_all {X : Cx} : SlR X (rSlAll X.K) := SlR.or sl_tupA (SlR.or sl_str sl_list)
def gSl (mk : MkT) : GS := fun x lo hi S Q => match vw x S with
  | .tup xs => Q (.tup (cutL xs lo hi)) S
  | .str z => z.length ≤ sizeLine ∧ Q (.str (cutS z lo hi)) S
  | .lst xs => mk (cutL xs lo hi) S Q
  | _ => False
def evSl (g : GS) (f : ET) (fl fu : EO) : ET := fun ρ S Q E => f ρ S (fun d S1 => fl ρ S1 (fun lo S2 => fu ρ S2 (fun hi S3 => g d lo hi S3 Q) E) E) E
theorem cut_whole {α : Type} {xs : List α} {lo hi : Option Int} (h : HT.sIx xs.length 0 lo = 0 ∧ HT.sIx xs.length xs.length hi = xs.length) : cutL xs lo hi = xs := by
  unfold cutL
  rw [h.1, h.2]
  simp
theorem cutV_whole {xs : List V} {lo hi : Option Int} (h : HT.sIx xs.length 0 lo = 0 ∧ HT.sIx xs.length xs.length hi = xs.length) : cutV xs lo hi = xs := by
  unfold cutV
  rw [h.1, h.2]
  simp
theorem d_sl {K : PySem.W.Frag} {mk : MkT} (hm : MkOk K mk) : SlD K (rSlAll K) (gSl mk) := by
  intro x lo hi S H dx Qd Q hS rx h l
  unfold gSl at h
  split at h
  · rename_i xs e
    obtain ⟨a, vs, rfl, ht, rs⟩ := vw_tup hS rx e
    refine .inl ⟨a, vs, rfl, ht, fun w => ?_, fun w p hp => .inl (new_tup hS hp (Rels.cut lo hi rs) h l)⟩
    have rc := Rels.cut lo hi rs
    rw [cutV_whole w] at rc
    exact l.fz hS (d := .tup (cutL xs lo hi)) ⟨a, vs, rfl, ht, rc⟩ h
  · rename_i z e
    exact .inr (.inl ⟨z, vw_str hS rx e, h.1, l.fz hS (d := .str _) rfl h.2⟩)
  · rename_i xs e
    obtain ⟨a, vs, rfl, ht, rs⟩ := vw_lst hS rx e
    exact .inr (.inr ⟨a, vs, rfl, .inl ht, fun p hp => hm _ _ _ _ _ _ _ hS hp (Rels.cut lo hi rs) h l⟩)
  · exact h.elim
section
variable {X : Cx} {W : WX} {e : Expr} {lo hi : Option Expr} {f : ET} {fl fu : EO} {g : GS} {r : V → Option Int → Option Int → Hp → VK → Prop} {pos p2 : Pos}
theorem e_sl (hr : SlR X r) (hg : SlD X.K r g) (he : PE X e (rdE X.K W f)) (hl : PO X lo (rdO X.K W fl)) (hu : PO X hi (rdO X.K W fu)) : PE X (.Subscript e (.Slice lo hi none p2) pos) (rdE X.K W (evSl g f fl fu)) :=
  PE_imp (pe_fz (pe_slice hr he hl hu)) fun σ H Q ⟨ρ, S, Qd, Ed, hρ, hS, hf, lq, lx⟩ => by
    refine ⟨ρ, S, _, Ed, hρ, hS, hf, fun d S1 v H1 e1 r1 q1 h1 => ?_, lx⟩
    refine ⟨ρ, S1, _, Ed, hρ.imm (e1.imm hS), r1, h1, fun o S2 H2 e2 r2 h2 => ?_, lx.mono e1⟩
    refine ⟨ρ, S2, _, Ed, (hρ.imm (e1.imm hS)).imm (e2.imm r1), r2, h2, fun o2 S3 H3 e3 r3 h3 => ?_, (lx.mono e1).mono e2⟩
    exact hg _ _ _ _ _ _ _ _ r3 (Rel.imm (e3.imm r2) _ _ (Rel.imm (e2.imm r1) _ _ q1)) h3 (((lq.mono e1).mono e2).mono e3)
end
section
variable {ρ : MP.Env} {S : Store} {Q : Post} {E : XPost} {f : ET} {fl fu : EO} {g : GS} {mk : MkT} {lo hi : Option Int} {QO : Option Int → Store → Prop}
theorem evSl_i (q : f ρ S (fun d S1 => fl ρ S1 (fun lo S2 => fu ρ S2 (fun hi S3 => g d lo hi S3 Q) E) E) E) : evSl g f fl fu ρ S Q E := q
theorem oNo_i (q : QO none S) : oNo ρ S QO E := q
theorem oPart_i (q : f ρ S (fun d S1 => onInt d fun i => QO (some i) S1) E) : oPart f ρ S QO E := q
theorem gSl_t {xs : List D} (q : Q (.tup (cutL xs lo hi)) S) : gSl mk (.tup xs) lo hi S Q := q
theorem gSl_s {z : Str} (e : z.length ≤ sizeLine) (q : Q (.str (cutS z lo hi)) S) : gSl mk (.str z) lo hi S Q := ⟨e, q⟩
theorem gSl_l {xs : List D} (q : mk (cutL xs lo hi) S Q) : gSl mk (.lst xs) lo hi S Q := q
end

/-! ### tuples joined, any -/
def rAddT (K : PySem.W.Frag) : R2 := fun x y H Q => rAddAll K x y H Q ∨ rCatA K x y H Q
theorem op_addT {X : Cx} : OpR X (binaryOp .Add) (rAddT X.K) := OpR.or op_addAll op_catA
def gAddT (mk : MkT) : G2 := fun x y S Q => match vw x S, vw y S with
  | .tup i, .tup j => i.length + j.length ≤ sizeLine ∧ Q (.tup (i ++ j)) S
  | _, _ => gAdd mk x y S Q
theorem d_addT {K : PySem.W.Frag} {mk : MkT} (hm : MkOk K mk) : OpD K (rAddT K) (gAddT mk) := by
  intro x y S H dx dy Qd Q hS rx ry h l
  unfold gAddT at h
  split at h
  · rename_i i j e1 e2
    obtain ⟨a, xs, rfl, ha, rs⟩ := vw_tup hS rx e1
    obtain ⟨b, ys, rfl, hb, rt⟩ := vw_tup hS ry e2
    have ra := Rels.append rs rt
    refine .inr ⟨a, b, xs, ys, rfl, rfl, ha, hb, by rw [← rs.length, ← rt.length]; exact h.1, fun z => ?_, fun _ z => ?_, fun _ _ p hp => .inl (new_tup hS hp ra h.2 l)⟩
    · subst z
      exact l.fz hS (d := .tup (i ++ j)) ⟨b, ys, rfl, hb, ra⟩ h.2
    · subst z
      rw [List.append_nil] at ra
      exact l.fz hS (d := .tup (i ++ j)) ⟨a, xs, rfl, ha, ra⟩ h.2
  · exact .inl (d_add hm x y S H dx dy Qd Q hS rx ry h l)
theorem gAddT_t {mk : MkT} {S : Store} {Q : Post} {xs ys : List D} (e : xs.length + ys.length ≤ sizeLine) (q : Q (.tup (xs ++ ys)) S) : gAddT mk (.tup xs) (.tup ys) S Q := ⟨e, q⟩

/-! ### a text some times -/
def repS (x : Str) (n : Int) : Str := if n < 1 then Str.empty else if (n == 1 || x.length == 0) = true then x else ⟨(List.replicate n.toNat x.cps).foldl (· ++ ·) #[]⟩
def rRepS : R2 := fun x y H Q => ∃ (z : Str) (n : Int), x = .str z ∧ y = .int n ∧ z.length ≤ 1000 ∧ -1000 ≤ n ∧ n ≤ 1000 ∧ (repS z n).length ≤ sizeLine ∧ Q (.str (repS z n)) H
theorem op_repS {X : Cx} : OpR X (binaryOp .Mult) rRepS := by
  intro pnl s σ H x y v u Q I rx ry h
  obtain ⟨z, n, rfl, rfl, hz, n0, n1, hl, q⟩ := h
  obtain ⟨t, rfl⟩ := rx
  obtain ⟨t', rfl⟩ := ry
  have big : (z.length * n.toNat : Nat) ≤ 1000000 := by
    have h1 : n.toNat ≤ 1000 := by omega
    exact Nat.le_trans (Nat.mul_le_mul hz h1) (by decide)
  refine P.mul_str ?_ ?_ ?_ ?_
  · rw [decide_eq_false (by omega : ¬ n < -(2 ^ 63 : Int)), decide_eq_false (by omega : ¬ n ≥ 2 ^ 63)]
    rfl
  · intro h1 _ h3
    have h4 : (1000 : Int) ≤ (2 ^ 63 - 1) / n := by
      rw [Int.le_ediv_iff_mul_le (by omega)]
      omega
    omega
  · intro h1 _
    show decide (z.length * n.toNat > sizeLine) = false
    exact decide_eq_false (by show ¬ z.length * n.toNat > 2 ^ 24; omega)
  · unfold repS at hl q
    split
    · rename_i c
      rw [if_pos c] at hl q
      exact ⟨hl, .str Str.empty, H, I.tok _, ⟨_, rfl⟩, q⟩
    · rename_i c
      rw [if_neg c] at hl q
      split
      · rename_i c2
        rw [if_pos c2] at hl q
        exact ⟨.str z, H, I.tok _, ⟨_, rfl⟩, q⟩
      · rename_i c2
        rw [if_neg c2] at hl q
        exact And.intro hl ⟨.str _, H, I.tok _, ⟨_, rfl⟩, q⟩
def rMulA : R2 := fun x y H Q => (∃ i j, x = .int i ∧ y = .int j ∧ CMul i j ∧ Q (.int (i * j)) H) ∨ rRepS x y H Q
theorem op_mulA {X : Cx} : OpR X (binaryOp .Mult) rMulA := OpR.or op_mul op_repS
def gMulA : G2 := fun x y S Q => match x, y with
  | .int i, .int j => CMul i j ∧ Q (.int (i * j)) S
  | .str z, .int n => z.length ≤ 1000 ∧ -1000 ≤ n ∧ n ≤ 1000 ∧ (repS z n).length ≤ sizeLine ∧ Q (.str (repS z n)) S
  | _, _ => False
theorem d_mulA {K : PySem.W.Frag} : OpD K rMulA gMulA := by
  intro x y S H dx dy Qd Q hS rx ry h l
  unfold gMulA at h
  split at h
  · exact .inl ⟨_, _, rx, ry, h.1, l.fz hS (d := .int _) rfl h.2⟩
  · exact .inr ⟨_, _, rx, ry, h.1, h.2.1, h.2.2.1, h.2.2.2.1, l.fz hS (d := .str _) rfl h.2.2.2.2⟩
  · exact h.elim

/-! ### dicts asked -/
def rInDct (neg : Bool) : R2 := fun x y H Q => ∃ a o, y = .ref a ∧ DGet H a x o ∧ Q (.bl (if neg then !o.isSome else o.isSome)) H
theorem op_inDct {X : Cx} (hu : X.A.units + 1 < cLine) : OpR X (compareOp .In) (rInDct false) := by
  intro pins s σ H x y v u Q I rx ry ⟨a, o, ey, g, q⟩
  subst ey
  cases ry
  exact L2.d_in hu I g rx fun s' J => ⟨.bl o.isSome, H, J, rfl, q⟩
theorem op_notInDct {X : Cx} (hu : X.A.units + 1 < cLine) : OpR X (compareOp .NotIn) (rInDct true) := by
  intro pins s σ H x y v u Q I rx ry ⟨a, o, ey, g, q⟩
  subst ey
  cases ry
  exact L2.d_notIn hu I g rx fun s' J => ⟨.bl (!o.isSome), H, J, rfl, q⟩
def rInB (K : PySem.W.Frag) (neg : Bool) : R2 := fun x y H Q => rInA K neg x y H Q ∨ rInDct neg x y H Q
theorem op_inB {X : Cx} (hu : X.A.units + 1 < cLine) : OpR X (compareOp .In) (rInB X.K false) := OpR.or op_inA (op_inDct hu)
theorem op_notInB {X : Cx} (hu : X.A.units + 1 < cLine) : OpR X (compareOp .NotIn) (rInB X.K true) := OpR.or op_notInA (op_notInDct hu)
theorem dget_rel {K : PySem.W.Frag} {S : Store} {H : Hp} {d x : D} {v y : V} {ks : List Key} {ds : List D} {k : Key} (hS : SRel K S H) (rd : Rel K H d v) (rx : Rel K H x y) (e : vw d S = .dct ks ds) (hk : keyD x = some k) :
    ∃ a o, v = .ref a ∧ DGet H a y o ∧ ((dlook ks ds k = none ∧ o = none) ∨ ∃ d' v', dlook ks ds k = some d' ∧ o = some v' ∧ Rel K H d' v') := by
  obtain ⟨a, xs, rfl, hr, hl, rs⟩ := vw_dct hS rd e
  have ey := keyD_rel rx hk
  subst ey
  refine ⟨a, valV (ks.zip xs) k, rfl, .inl ⟨_, k, hr, rfl, rfl⟩, ?_⟩
  rcases dlook_rel k rs hl with ⟨h1, h2⟩ | ⟨d', v', h1, h2, h3⟩
  · exact .inl ⟨h1, h2⟩
  · exact .inr ⟨d', v', h1, h2, h3⟩
def gInB (neg : Bool) : G2 := fun x y S Q => match vw y S with
  | .dct ks ds => match keyD x with
    | some k => Q (.bl (if neg then !(dlook ks ds k).isSome else (dlook ks ds k).isSome)) S
    | none => False
  | _ => gIn neg x y S Q
theorem d_inB {K : PySem.W.Frag} {neg : Bool} : OpD K (rInB K neg) (gInB neg) := by
  intro x y S H dx dy Qd Q hS rx ry h l
  unfold gInB at h
  split at h
  · rename_i ks ds e
    split at h
    · rename_i k hk
      obtain ⟨a, o, ea, g, c⟩ := dget_rel hS ry rx e hk
      refine .inr ⟨a, o, ea, g, ?_⟩
      have eo : (dlook ks ds k).isSome = o.isSome := by
        rcases c with ⟨h1, h2⟩ | ⟨_, _, h1, h2, _⟩
        · rw [h1, h2]; rfl
        · rw [h1, h2]; rfl
      rw [eo] at h
      exact l.fz hS (d := .bl _) rfl h
    · exact h.elim
  · exact .inl (d_in x y S H dx dy Qd Q hS rx ry h l)
def isDct (d : D) : Prop := match d with
  | .dct _ _ => True
  | _ => False
def gGet (d y z : D) (S : Store) (Q : Post) : Prop := match vw d S with
  | .dct ks ds => match keyD y with
    | some k => Q ((dlook ks ds k).getD z) S
    | none => False
  | _ => False
def evGet2 (f fy fz : ET) : ET := fun ρ S Q E => f ρ S (fun d S1 => isDct (vw d S1) ∧ fy ρ S1 (fun y S2 => fz ρ S2 (fun z S3 => gGet d y z S3 Q) E) E) E
theorem isDct_rel {K : PySem.W.Frag} {S : Store} {H : Hp} {d : D} {v : V} (hS : SRel K S H) (r : Rel K H d v) (h : isDct (vw d S)) : ∃ a, v = .ref a ∧ IsD H a := by
  cases e : vw d S with
  | dct ks ds =>
    obtain ⟨a, xs, ea, hr, _⟩ := vw_dct hS r e
    exact ⟨a, ea, .inl ⟨_, hr⟩⟩
  | _ => rw [e] at h; exact h.elim
section
variable {X : Cx} {W : WX} {o a b : Expr} {f fy fz : ET} {apos cpos : Pos}
theorem e_get2 (hu : X.A.units + 1 < cLine) (ho : PE X o (rdE X.K W f)) (hy : PE X a (rdE X.K W fy)) (hz : PE X b (rdE X.K W fz)) (m : M2 X o "get" apos a b cpos) : PE X (.Call (.Attribute o "get" apos) [a, b] [] cpos) (rdE X.K W (evGet2 f fy fz)) :=
  PE_imp (pe_dget2 hu ho hy hz m) fun σ H Q ⟨ρ, S, Qd, Ed, hρ, hS, hf, lq, lx⟩ => by
    refine ⟨ρ, S, _, Ed, hρ, hS, hf, fun d S1 v H1 e1 r1 q1 h1 => ?_, lx⟩
    obtain ⟨p, ep, isd⟩ := isDct_rel r1 q1 h1.1
    refine ⟨p, ep, isd, ρ, S1, _, Ed, hρ.imm (e1.imm hS), r1, h1.2, fun y S2 vy H2 e2 r2 q2 h2 => ?_, lx.mono e1⟩
    refine ⟨ρ, S2, _, Ed, (hρ.imm (e1.imm hS)).imm (e2.imm r1), r2, h2, fun z S3 vz H3 e3 r3 q3 h3 => ?_, (lx.mono e1).mono e2⟩
    replace h3 : gGet d y z S3 Qd := h3
    unfold gGet at h3
    cases e : vw d S3 with
    | dct ks ds =>
      rw [e] at h3
      cases hk : keyD y with
      | none => rw [hk] at h3; exact h3.elim
      | some k =>
        rw [hk] at h3
        have h4 : Qd ((dlook ks ds k).getD z) S3 := h3
        have rd := Rel.imm (e3.imm r2) _ _ (Rel.imm (e2.imm r1) _ _ q1)
        obtain ⟨p', o, ep', g, c⟩ := dget_rel r3 rd (Rel.imm (e3.imm r2) _ _ q2) e hk
        rw [ep] at ep'
        cases ep'
        refine ⟨o, g, ?_⟩
        have l3 := ((lq.mono e1).mono e2).mono e3
        rcases c with ⟨c1, c2⟩ | ⟨d', v', c1, c2, c3⟩
        · rw [c1] at h4
          rw [c2]
          exact l3.here r3 q3 h4
        · rw [c1] at h4
          rw [c2]
          exact l3.here r3 c3 h4
    | _ => rw [e] at h3; exact h3.elim
end
theorem evGet2_i {f fy fz : ET} {ρ : MP.Env} {S : Store} {Q : Post} {E : XPost} (q : f ρ S (fun d S1 => isDct (vw d S1) ∧ fy ρ S1 (fun y S2 => fz ρ S2 (fun z S3 => gGet d y z S3 Q) E) E) E) : evGet2 f fy fz ρ S Q E := q

/-! ### deep «in» -/
def rInC (K : PySem.W.Frag) (neg : Bool) : R2 := fun x y H Q => rInB K neg x y H Q ∨ ∃ d ds, Dp K H x d ∧ Dp K H y (.list ds) ∧ SeqAt.shaped d = true ∧ SeqAt.shaped (.list ds) = true ∧ Q (.bl (if neg then !(ds.any fun z => PyData.eqv z d) else (ds.any fun z => PyData.eqv z d))) H
theorem op_inC {X : Cx} (hu : X.A.units + 65 < cLine) : OpR X (compareOp .In) (rInC X.K false) := OpR.or (op_inB (by omega)) (op_inD hu)
theorem op_notInC {X : Cx} (hu : X.A.units + 65 < cLine) : OpR X (compareOp .NotIn) (rInC X.K true) := OpR.or (op_notInB (by omega)) (op_notInD hu)
def gInC (neg : Bool) : G2 := fun x y S Q => gInB neg x y S Q ∨ match toPy (vw x S), toPy (vw y S) with
  | some d, some (.list ds) => SeqAt.shaped d = true ∧ SeqAt.shaped (.list ds) = true ∧ Q (.bl (if neg then !(ds.any fun z => PyData.eqv z d) else (ds.any fun z => PyData.eqv z d))) S
  | _, _ => False
theorem d_inC {K : PySem.W.Frag} {neg : Bool} : OpD K (rInC K neg) (gInC neg) := by
  intro x y S H dx dy Qd Q hS rx ry h l
  rcases h with h | h
  · exact .inl (d_inB x y S H dx dy Qd Q hS rx ry h l)
  · split at h
    · rename_i d ds h1 h2
      exact .inr ⟨d, ds, toPy_vw hS rx h1, toPy_vw hS ry h2, h.1, h.2.1, l.fz hS (d := .bl _) rfl h.2.2⟩
    · exact h.elim
end MP

set_option Elab.async false
set_option linter.all false
set_option maxRecDepth 100000
set_option maxHeartbeats 2100000
/-! MPGuard: the law's def is run by the caller alone, so nothing is being shown there; repr of data. -/
namespace MP
open PySem PySem.Spec PyProof.Rows L2 MP
section
variable {P : Program} {w : World} {K : PySem.W.Frag} {mg : Str → Option Value}
/-- a def's promise where it is called with nothing being shown -/
def Quiet (P : Program) (w : World) (K : PySem.W.Frag) (mg : Str → Option Value) (base : Heap) (CX : CXT) (k : Nat) (f : Addr) (fd : FuncData) (ps : List Str) (sp : L2.Sp) : Prop :=
  ∀ (A : Around), A.guards = some [] → ∀ (outer : List PySem.Env) (s : Shared) (H : Hp) (args : Args) (us : List Value) (vs : List V) (Q : VK) (E : XK), Room k A → Env0 P w K mg base A outer s H → BindsTo s fd args (ps.zip us) → Vals vs us → sp vs H Q E →
    codeAny (model P w) A (.call (.ref f) args) ((CR CX outer P w H s) Q E) s
theorem deeper_guards (A : Around) (env : PySem.Env) : (A.deeper env).guards = A.guards := by
  first | rfl | (unfold Around.deeper; rfl)
theorem quiet_of {x qual : Str} {st : Stmt} {f : Addr} {fd : FuncData} {N ps : List Str} {k : Nat} {g : ST} {base : Heap} (F : Fun K x qual st f fd) (Sc : FnScope N ps (defScope st))
    (hb : ∀ (cdv : Value) (A : Around) (outer : List PySem.Env) (s : Shared) (H : Hp) (E : XK), A.guards = some [] → Room k (A.deeper (envOfC qual (defScope st) s.heap.objs.size f cdv)) →
      PSs (cxOf (L2.CX P w) P w K mg base N qual (defScope st) f cdv A outer s H E) (defBody st) (rdS K (Wd E) g)) : Quiet P w K mg base (L2.CX P w) (k + 1) f fd ps (spM K ps.length (runF N.length g)) := by
  have ⟨oc, od, kV, doc, pm, an, cdv, ct, osl, ed, lk, hcd⟩ := F.ex
  subst ed
  intro A hg outer s H args us vs Q E hr e0 bd rv ⟨ds, S, Qd, Ed, rds, hS, hl, hf, lq, lx⟩
  have kin : K.In s.heap := e0.mod.kin.keeps fun b o e => (e0.bs b o e).1
  have slots : ∀ y ∈ ps.zip us, (defScope st).names.lookup y.1 = some .local ∨ ((defScope st).names.lookup y.1 = some .cell ∧ ((cellsFrom (s.heap.objs.size + 1) (defScope st).names []).lookup y.1).isSome = true) := by
    rintro ⟨n, v⟩ hy
    exact (Sc.par n (List.of_mem_zip hy).1).imp id fun q => ⟨q, PySem.W.cellsFrom_some _ _ _ (.inl q)⟩
  apply codeAny_call_function hr.depth (kin _ _ lk) rfl Sc.co Sc.gen rfl (PySem.W.codeRec_of kin hcd) (bd _ _ _ _ ?_)
  apply wpAny_newFunctionEnv_cells Sc.kind slots
  rintro env rfl s1 made
  have full : vs.length = ps.length := by rw [← rds.length]; exact hl
  refine ⟨(e0.mod.nolimit.keeps fun b o e => (e0.bs b o e).1).keeps made.toInCall.keep, codeAny_func ?_⟩
  have inv : Inv (cxOf (L2.CX P w) P w K mg base N qual (defScope st) f cdv A outer s H E) [] (L2.start N vs) H s1 := inv_start Sc hr.hd e0 full rv made
  have body := hb cdv A outer s H E hg (hr.deeper _)
  have goal : rdS K (Wd E) g { nx := fun _ H' => Q .non H', rt := Q } (L2.start N vs) H := by
    refine ⟨_, S, _, ?_, hS, hf, ⟨fun ρ' S' σ' H' e r' k' h => lq .non S' .non H' e r' rfl h, lq, fun x ρ' S' c dd σ' H' e r' k' q h => lx x S' c dd H' e r' q h, fun _ _ _ _ _ _ _ h => h.elim, fun _ _ _ _ _ _ _ h => h.elim⟩⟩
    unfold L2.start
    rw [← rds.length]
    exact EnvR.start _ rds
  refine wpAny_mono (body.run [] s1 _ H _ inv goal) (fun fl s' done => ?_) fun _ _ z => z
  cases fl with
  | ret u =>
    have ⟨v, σ', H', J, rv', q⟩ := done
    exact ⟨v, H', J.os, J.bare, J.base, J.hok, rv', q⟩
  | next =>
    have ⟨σ', H', J, q⟩ := done
    exact ⟨.non, H', J.os, J.bare, J.base, J.hok, rfl, q⟩
  | brk => exact done.elim fun _ z => z.elim fun _ z => z.2.elim
  | cont => exact done.elim fun _ z => z.elim fun _ z => z.2.elim
end
/-! ### the law's row, of a def that is quiet at the caller -/
section
variable {P : Program} {w : World} {K : PySem.W.Frag} {mg mb : Str → Option Value} {CX : CXT} {k : Nat} {fa a : Addr} {fd : FuncData} {x : Str} {sp : L2.Sp} {s1 : Shared} {vs : List Value} {ns : List Int}
/-- the heap as the law's def finds it: the script alone may be known -/
theorem begin_heap (P : Program) (w : World) (KX : K.In s1.heap) (ha : s1.heap.get? a = some { cls := .type "list", data := .seq vs.toArray }) (hi : IntsAre vs ns) (hl : ns.length ≤ sizeLine) :
    ∃ H : Hp, Only H ∧ SqL K H a (ns.map V.int) ∧ HOk P w H s1.heap ∧ (∀ b, H b ≠ none → b = a ∧ K.lookup a = none) := by
  have rv := vals_ints hi
  cases hk : K.lookup a with
  | some o =>
    have e := KX a o hk
    rw [ha] at e
    have eo := Option.some.inj e
    subst eo
    refine ⟨fun _ => none, fun _ => .inl rfl, .inr ⟨_, vs.toArray, _, hk, rfl, rfl, rfl, ?_, by simpa using rv⟩, ?_, ?_⟩
    · rw [List.size_toArray]
      exact hi.length.symm ▸ hl
    · intro b u z
      cases (z : (none : Option HO) = some u)
    · intro b z
      exact absurd rfl z
  | none =>
    let it : HO := .frz { cls := .type "list", data := .seq vs.toArray } (.lst (ns.map V.int))
    have at_a : (fun b => if b = a then some it else none : Hp) a = some it := if_pos rfl
    have off : ∀ b, b ≠ a → (fun b => if b = a then some it else none : Hp) b = none := fun b h => if_neg h
    refine ⟨fun b => if b = a then some it else none, fun b => ?_, .inl (.inr ⟨_, at_a⟩), fun b u z => ?_, fun b z => ⟨Classical.byContradiction fun h => z (off b h), rfl⟩⟩
    · by_cases h : b = a
      · exact .inr ⟨_, _, by rw [h]; exact at_a⟩
      · exact .inl (off b h)
    · by_cases h : b = a
      · subst h
        have eu := Option.some.inj (at_a.symm.trans z)
        subst eu
        exact ⟨ha, (List.length_map ..).symm ▸ hl, vs, _, rv, ha⟩
      · exact nomatch (off b h).symm.trans z
theorem quiet_call (KX : K.In s1.heap) (hns : s1.heap.Ns mainGlobals mg) (hb : s1.heap.Ns builtinsNs mb) (hbb : ∀ x : Str, x ≠ "__name__" → mb x = bootBuiltins x) (noLim : s1.heap.NoLimit) (noGen : s1.gens = #[])
    (ha : s1.heap.get? a = some { cls := .type "list", data := .seq vs.toArray }) (hi : IntsAre vs ns) (hl : ns.length ≤ sizeLine) (hr : Room k callerA)
    (F : ∀ base : Heap, K.In base → base.Ns mainGlobals mg → Quiet P w K mg base CX k fa fd [x] sp) (hbind : ∀ (s : Shared) (u : Value), BindsTo s fd ⟨[u], []⟩ [(x, u)])
    (holds : ∀ H : Hp, Only H → SqL K H a (ns.map V.int) → sp [.ref a] H (fun v _ => v = .bl true) fun _ _ _ => False)
    (hCX : ∀ H e s', CX [] H s1 (fun _ _ _ => False) e s' → False) :
    codeAny (model P w) callerA (.call (.ref fa) ⟨[.ref a], []⟩) (fun r s' => r = .ok (.ret (.bool true)) ∧ OldK s1.heap s'.heap ∧ s'.os = s1.os ∧ AllBare s'.gens) s1 := by
  obtain ⟨H, hO, hS, hok, hA⟩ := begin_heap P w KX ha hi hl
  have clear : ∀ {b : Addr} {o : Obj} {es : Array DictEntry} {ep : Nat}, s1.heap.get? b = some o → o.data = .dict es ep → H b = none := fun {b o es ep} e d => Classical.byContradiction fun z => by
    have eb := (hA b z).1
    subst eb
    rw [ha] at e
    cases e
    exact nomatch (d : Data.seq vs.toArray _ = Data.dict es ep)
  have nsB : ∀ {b : Addr} {m : Str → Option Value}, s1.heap.Ns b m → (hidT s1.heap H).Ns b m := fun ⟨o, es, ep, e, d, r⟩ => ⟨o, es, ep, hidT_get e (clear e d), d, r⟩
  have inB : K.In (hidT s1.heap H) := fun b o e => hidT_get (KX b o e) (Classical.byContradiction fun z => by
    have ⟨eb, en⟩ := hA b z
    subst eb
    rw [en] at e
    exact nomatch e)
  have md : Mod K mg (hidT s1.heap H) := ⟨inB, nsB hns, ⟨mb, nsB hb, hbb⟩, let ⟨mc, h1, h2⟩ := noLim; ⟨mc, nsB h1, h2⟩⟩
  have e0 : Env0 P w K mg (hidT s1.heap H) callerA [] s1 H := ⟨rfl, md, fun b o e => of_hidT e, Nat.le_of_eq (hidT_size _ _), trivial, (fun b hb => absurd (show b ∈ ([] : List Addr) from hb) List.not_mem_nil), hok, .of_eq noGen⟩
  apply codeAny_mono (F _ inB (nsB hns) callerA rfl [] s1 H ⟨[.ref a], []⟩ [.ref a] [.ref a] _ _ hr e0 (hbind s1 (.ref a)) (.cons rfl .nil) (holds H hO hS))
  intro r s' h
  match r, h with
  | .error e, h => exact (hCX H e s' h).elim
  | .ok .next, h => exact h.elim
  | .ok .brk, h => exact h.elim
  | .ok .cont, h => exact h.elim
  | .ok (.ret u), ⟨v, H', os, bare, un, hok', r', q⟩ =>
    have ev : v = .bl true := q
    subst ev
    have eu : u = Value.bool true := r'
    subst eu
    refine ⟨rfl, .of_keep fun b o e => ?_, os, bare⟩
    cases q : H b with
    | none => exact un.keep b o e q (fun z => by cases (z : b ∈ ([] : List Addr))) (fun z => by cases z)
    | some u =>
      rcases hO b with z | ⟨ob, ys, z⟩
      · rw [q] at z
        cases z
      · have ⟨e1, _⟩ := hok b _ z
        have ⟨e2, _⟩ := hok' b _ (un.frzs b ob _ z)
        rw [e] at e1
        rw [Option.some.inj e1]
        exact e2
end
/-- the goal that the head leaves, from a def that is quiet at the caller -/
theorem walk_quiet {l : PySem.W.OpenLaw} {n k : Nat} {q : Program} {loose : List Str} {XP : (Str → Option Value) → Heap → Prop} {YP : World → Heap → Prop} {d : DefRec} {K : Params → PySem.W.Frag} {CX : World → CXT} {sp : World → L2.Sp} {x : Str}
    (hn : l.most = some n) (hn2 : n ≤ sizeLine) (hdf : d.params.defaults = []) (hr : Room k callerA) (inK : ∀ (w : World) (h : Heap), YP w h → (K w.params).In h)
    (F : ∀ (w : World) (mg : Str → Option Value) (fa : Addr) (h : Heap), (K w.params).In h → h.Ns mainGlobals mg → mg d.name = some (.ref fa) → ∃ fd : FuncData, (∀ (s : Shared) (u : Value), BindsTo s fd ⟨[u], []⟩ [(x, u)]) ∧ ∀ base : Heap, (K w.params).In base → base.Ns mainGlobals mg → Quiet l.prog w (K w.params) mg base (CX w) k fa fd [x] (sp w))
    (holds : ∀ (w : World) (H : Hp) (a : Addr) (ns : List Int), ns.length ≤ n → Only H → SqL (K w.params) H a (ns.map V.int) → sp w [.ref a] H (fun v _ => v = .bl true) fun _ _ _ => False)
    (noX : ∀ (w : World) (H : Hp) (s : Shared) (e : Value) (s' : Shared), CX w [] H s (fun _ _ _ => False) e s' → False) : PySem.W.WalkO q loose XP YP (l.row.toRowW) d [] (fun f vs => PySem.call f vs) := by
  apply Att.attach_call hn hdf
  intro w s₀ s₁ mg mb fa o pm cd doc a vs ns G Y ho hd hcd hmg hobj hints hlen hg
  have KX := inK w _ Y
  have ⟨fd, hb, hF⟩ := F w mg fa _ KX G.T.g hmg
  exact quiet_call KX G.T.g G.T.b G.T.builtins G.T.nolimit hg hobj hints (Nat.le_trans hlen hn2) hr hF hb (fun H hO hS => holds w H a ns hlen hO hS) fun H e s' => noX w H s₁ e s'
/-! ### repr of data -/
def rRepr (K : PySem.W.Frag) : List V → Hp → VK → Prop := fun xs H Q => ∃ v p, xs = [v] ∧ Dp K H v p ∧ p.showable = true ∧ p.hasDict = false ∧ p.depth ≤ 64 ∧ p.shown.length ≤ sizeLine ∧ Q (.str p.shown) H
theorem call_repr {X : Cx} (quiet : X.A.guards = some []) (hu : X.A.units + 66 < cLine) : CallR X (.builtin "repr") (rRepr X.K) := by
  intro pnl s σ H xs us Q I r ⟨v, p, ex, hd, show1, noD, dep, hz, q⟩
  subst ex
  obtain ⟨u, rfl, ru⟩ : ∃ u, us = [u] ∧ RelV v u := by
    cases r with
    | cons h t => cases t; exact ⟨_, rfl, h⟩
  obtain ⟨as, rd⟩ := Dp.reads I p v u hd ru
  cases v with
  | ref a =>
    cases ru
    exact repr_of_reads' rd show1 (PyData.noDict_hsm noD) quiet (by omega) (fun b o e => e) (fun h' t tk keep => ⟨.str p.shown, H, I.kept (t' := tk) keep, ⟨_, rfl⟩, q⟩) hz
  | non =>
    cases hd
    cases ru
    exact PySem.P.repr_of_none ⟨.str _, H, I.tok _, ⟨_, rfl⟩, q⟩
  | bl b =>
    cases hd
    cases ru
    exact PySem.P.repr_of_bool ⟨.str _, H, I.tok _, ⟨_, rfl⟩, q⟩
  | int i =>
    cases hd
    obtain ⟨t, rfl⟩ := ru
    exact PySem.P.repr_of_int (of_decide_eq_true show1) ⟨.str _, H, I.tok _, ⟨_, rfl⟩, q⟩
  | str x =>
    cases hd
    obtain ⟨t, rfl⟩ := ru
    exact PySem.P.repr_of_str ⟨.str _, H, I.tok _, ⟨_, rfl⟩, q⟩ hz
  | _ => cases hd
def gRepr : GA := fun ds S Q => match ds with
  | [d] => match toPy (vw d S) with
    | some p => p.showable = true ∧ p.hasDict = false ∧ p.depth ≤ 64 ∧ p.shown.length ≤ sizeLine ∧ Q (.str p.shown) S
    | none => False
  | _ => False
theorem d_repr {K : PySem.W.Frag} : CallD K (rRepr K) gRepr := by
  intro xs S H ds Qd Q hS r h l
  unfold gRepr at h
  split at h
  · obtain ⟨v, rfl, rv⟩ := rels1 r
    split at h
    · rename_i p e
      exact ⟨v, p, rfl, toPy_vw hS rv e, h.1, h.2.1, h.2.2.1, h.2.2.2.1, l.fz hS (d := .str _) rfl h.2.2.2.2⟩
    · exact h.elim
  · exact h.elim
theorem gRepr_i {d : D} {p : PyData} {S : Store} {Q : Post} (e : toPy (vw d S) = some p) (h1 : p.showable = true) (h2 : p.hasDict = false) (h3 : p.depth ≤ 64) (h4 : p.shown.length ≤ sizeLine) (q : Q (.str p.shown) S) : gRepr [d] S Q := by
  show (match toPy (vw d S) with
    | some p => p.showable = true ∧ p.hasDict = false ∧ p.depth ≤ 64 ∧ p.shown.length ≤ sizeLine ∧ Q (.str p.shown) S
    | none => False)
  rw [e]
  exact ⟨h1, h2, h3, h4, q⟩
end MP

set_option Elab.async false
set_option linter.all false
set_option maxRecDepth 100000
set_option maxHeartbeats 2100000
/-! MPEnum: enumerate over a tuple or a list; target tuples; three targets. -/
namespace MP
open PySem PySem.Spec PyProof.Rows L2 MP
/-! ### enumerate(t) -/
theorem meets_enum1 {v : Value} {o : Obj} {G : Heap → Prop} (B : Begins v o G) :
    Meets (Builtin.«enumerate.__new__» ⟨[.type "enumerate", v], []⟩) (fun _ R s => G s.heap ∧
      R (.ok (.ret (.ref (s.heap.push o).objs.size))) { s with heap := (s.heap.push o).push { cls := .type "enumerate", data := .fields #[.none, .bool false, .ref s.heap.objs.size, rawInt 0, .none, .none] } }) :=
  .of_wp fun prog w A R s ⟨g0, h⟩ => by
    obtain ⟨hp, gn, d, tk, os⟩ := s
    have hsub := sub_enumerate
    have walk : ∀ {A' : Around} {E : Value → Shared → Prop} {Q : Value → Shared → Prop}, Q (.ref hp.objs.size) ⟨hp.push o, gn, d, tk, os⟩ → wpAny (model prog w) A' (pyIter v) Q E ⟨hp, gn, d, tk, os⟩ :=
      fun q => B.iter prog w _ _ ⟨hp, gn, d, tk, os⟩ _ g0 q
    wp_walk using walk
    refine wpAny_stack_any fun _ => wpAny_pure ?_
    split
    · rename_i c _ _ _ _ _
      cases (c == Value.type "enumerate") <;> (wp_walk using walk; exact ⟨_, rfl, h⟩)
    · wp_walk using walk
      exact ⟨_, rfl, h⟩
theorem enum_one {prog : Program} {w : World} {A : Around} {E : Value → Shared → Prop} {s : Shared} {v : Value} {o : Obj} {G : Heap → Prop} {Q : Value → Shared → Prop} (B : Begins v o G) (g0 : G s.heap)
    (h : ∀ h', IsEnum h' (s.heap.objs.size + 1) s.heap.objs.size 0 .none → h'.get? s.heap.objs.size = some o → (∀ b ob, s.heap.get? b = some ob → h'.get? b = some ob) → Q (.ref (s.heap.objs.size + 1)) { s with heap := h' }) :
    wpAny (model prog w) A (call (.type "enumerate") [v]) Q E s := by
  apply callType_new F.called_enumerate (by decide) (F.typeCall_enumerate_1 _) (F.newCall_enumerate_1 _) (fun obj => F.args_object_init_2 obj _) F.entry_enumerate_new (meets_enum1 B)
  have sz : (s.heap.push o).objs.size = s.heap.objs.size + 1 := Heap.size_push ..
  have at2 := Heap.get?_push_size (s.heap.push o) (o := { cls := .type "enumerate", data := .fields #[.none, .bool false, .ref s.heap.objs.size, rawInt 0, .none, .none] }) rfl
  rw [sz] at at2
  refine ⟨g0, ?_⟩
  show _ ∧ _
  rw [sz]
  exact ⟨⟨_, at2, rfl⟩, h _ at2 (Heap.get?_push_of_some _ (Heap.get?_push_size _ B.free)) fun b ob x => Heap.get?_push_of_some _ (Heap.get?_push_of_some _ x)⟩
def IteT (K : PySem.W.Frag) (a : Addr) : It :=
  ⟨fun i H => ∃ (xs : List V) (x : V), SqT K H a xs ∧ xs[i]? = some x, fun i H v H' => ∃ T x, v = .ref T ∧ H T = none ∧ H' = upd H T (.tup [.int (i : Nat), x]) ∧ ∀ xs, SqT K H a xs → xs[i]? = some x, fun i H => ∃ xs : List V, SqT K H a xs ∧ xs.length = i⟩
theorem turn_enumT {P : Program} {w : World} {K : PySem.W.Frag} {elts : List Expr} {kk : Nat} {tpos : Pos} (a e it : Addr) :
    Turn P w K (.Tuple elts kk tpos) (IteT K a) [e, it] e (fun i h => (∃ old, IsEnum h e it ((i : Nat) : Int) old) ∧ h.IsTupleIter it a i ∧ e ≠ it ∧ a ≠ it ∧ a ≠ e) where
  mem := by simp
  obj := by
    rintro i h ⟨⟨old, he⟩, ⟨o, ho, hc, hd⟩, -⟩ b hb
    rcases (by simpa using hb : b = e ∨ b = it) with rfl | rfl
    · exact ⟨_, he, nofun⟩
    · exact ⟨o, ho, fun v q => (by rw [hd] at q; cases q)⟩
  keep := fun i h h' ⟨⟨old, he⟩, hi, ne⟩ k => ⟨⟨old, k e (by simp) _ he⟩, hi.at fun o q => k it (by simp) o q, ne⟩
  item := by
    intro X hP hw hK calm i pnl s σ H E I free ⟨⟨old, he⟩, hit, n1, n2, n3⟩ ⟨xs, x, hq, hx⟩
    subst hP hw hK
    have ⟨its, rv, p, hz⟩ := I.tuple hq
    have ⟨u, hu, ru⟩ := rv.get hx
    have lt : i < its.toArray.size := by
      have := (List.getElem?_eq_some_iff.mp hu).1
      simpa using this
    have le : e < s.heap.objs.size := Heap.lt_size he
    have li : it < s.heap.objs.size := let ⟨_, q, _⟩ := hit; Heap.lt_size q
    have D := Draws.tuple (prog := X.prog) (w := X.w) (A := X.A.in1) (I.ok.hd calm) it a n2 its.toArray
    apply wpAny_pyNext_enum_itemD D he ⟨hit, p⟩ lt n1 (by simp [n1, Ne.symm n3])
    intro y h' tk py out st hT hsz keep
    have ey : y = u := by
      have py' : its.toArray[i]? = some y := py
      have z : its[i]? = some y := by simpa using py'
      rw [hu] at z
      exact (Option.some.inj z).symm
    subst ey
    refine ⟨_, rfl, wpAny_letOwnedTupleGo_enum (s := { s with heap := h', toks := tk + 1 }) out fun h'' he' sb => ?_⟩
    have at3 : h''.get? s.heap.objs.size = some { cls := .type "tuple", data := .seq #[.int i tk, y] } := (sb.2 _ (Nat.ne_of_gt le)).trans hT
    have new : ObjOk X.prog X.w (upd H s.heap.objs.size (.tup [.int (i : Nat), x])) h'' s.heap.objs.size ((.tup [.int (i : Nat), x])) :=
      ⟨by show 2 ≤ sizeLine; decide, [.int i tk, y], .cons ⟨_, rfl⟩ (.cons ru .nil), ⟨_, at3, rfl, _, rfl⟩⟩
    have J : Inv X pnl σ (upd H s.heap.objs.size (.tup [.int (i : Nat), x])) { s with heap := h'', toks := tk + 1 } :=
      I.turnedNew (ch := [e, it]) (fun b ob hb q => (sb.2 b (fun z => hb (by simp [z]))).trans (keep b ob (fun z => hb (by simp [z])) (fun z => hb (by simp [z])) q)) free (Nat.le_refl _) new
    refine ⟨.ref s.heap.objs.size, _, J, rfl, ⟨_, x, rfl, I.hok.fresh (Nat.le_refl _), rfl, fun ys hy => ?_⟩, ⟨⟨y, ?_⟩, st.1.at fun o q => (sb.2 it (Ne.symm n1)).trans q, n1, n2, n3⟩, fun b hb => ?_⟩
    · rw [I.tuple_inj hy hq]
      exact hx
    · rw [show ((i + 1 : Nat) : Int) = (i : Int) + 1 by omega]
      exact he'
    · have lb : b < s.heap.objs.size := by
        rcases (by simpa using hb : b = e ∨ b = it) with rfl | rfl
        · exact le
        · exact li
      rw [upd_ne (Nat.ne_of_lt lb)]
      exact (free b hb).1
  done := by
    intro X hP hw hK calm i pnl s σ H E I free ⟨⟨old, he⟩, hit, n1, n2, n3⟩ ⟨xs, hq, hx⟩
    subst hP hw hK
    have ⟨its, rv, p, hz⟩ := I.tuple hq
    have ⟨f0, f1, f2, f3, f4, f5⟩ := free it (by simp)
    have all : its.toArray.size = i := by rw [List.size_toArray, ← rv.length]; exact hx
    have D := Draws.tuple (prog := X.prog) (w := X.w) (A := X.A.in1) (I.ok.hd calm) it a n2 its.toArray
    subst all
    exact wpAny_pyNext_enum_endD D he ⟨hit, p⟩ fun h' eb => ⟨rfl, I.turned (t' := s.toks) (fun b o hb q => eb b o hb q) f0 f1 f3 f4 f5⟩
  self := fun A i s Q E ⟨⟨_, he⟩, _⟩ h => wpAny_pyIter_enum he h
def iEnumV (K : PySem.W.Frag) (ta : TA) : TI := fun σ H R => ta σ H fun vs H1 => ∃ a xs, vs = [.ref a] ∧ SqT K H1 a xs ∧ R (IteT K a) H1
theorem pi_enumT {X : Cx} {e : Expr} {ta : TA} {p pos tpos : Pos} {elts : List Expr} {kk : Nat} (hg : Gl X "enumerate") (hm : X.mg "enumerate" = none) (ha : PA X [e] ta) (hs : starEach [e] X.env = [(false, eval e X.env)] := by rfl) :
    PI X (.Tuple elts kk tpos) (.Call (.Name "enumerate" p) [e] [] pos) (iEnumV X.K ta) := by
  constructor
  intro pnl s σ H R I h
  refine Call_ (ld_blt I hg hm boot_enumerate (PyProof.Rows.callWith_type1 (thn (ha.run pos pnl s σ H _ I h) ?_) hs rfl))
  rintro us s1 ⟨vs, H1, I1, r1, a, xs, rfl, hq, q⟩
  cases r1 with
  | cons r rr =>
    cases rr
    cases r
    have ⟨its, rv, tp, hz⟩ := I1.tuple hq
    have ⟨oa, ea, _⟩ := id tp
    have la : a < s1.heap.objs.size := Heap.lt_size ea
    apply enum_one (begins_tuple a its.toArray) tp
    intro h' he hi keep
    apply wpAny_pyIter_enum he
    have I2 : Inv X pnl σ H1 { s1 with heap := h' } := I1.kept (t' := s1.toks) keep
    refine ⟨s1.heap.objs.size + 1, [s1.heap.objs.size + 1, s1.heap.objs.size], _, _, H1, rfl, I2, turn_enumT a (s1.heap.objs.size + 1) s1.heap.objs.size, ⟨⟨.none, he⟩, ⟨_, hi, rfl, rfl⟩, Nat.succ_ne_self _, Nat.ne_of_lt la, Nat.ne_of_lt (Nat.lt_succ_of_lt la)⟩, fun b hb => ?_, q⟩
    have le : s1.heap.objs.size ≤ b := by
      rcases (by simpa using hb : b = s1.heap.objs.size + 1 ∨ b = s1.heap.objs.size) with rfl | rfl
      · exact Nat.le_succ _
      · exact Nat.le_refl _
    exact I1.fpOk le (I1.hok.fresh le)
def enumD (k : Nat) : List D → List D
  | [] => []
  | d :: r => .tup [.int (k : Nat), d] :: enumD (k + 1) r
theorem enumD_len (k : Nat) : ∀ ds : List D, (enumD k ds).length = ds.length
  | [] => rfl
  | d :: r => congrArg (· + 1) (enumD_len (k + 1) r)
theorem enumD_get (k : Nat) : ∀ (ds : List D) (i : Nat) (d : D), (enumD k ds)[i]? = some d → ∃ x, ds[i]? = some x ∧ d = .tup [.int ((k + i : Nat) : Int), x]
  | [], i, d, h => by cases i <;> cases h
  | x :: r, 0, d, h => ⟨x, rfl, (Option.some.inj h).symm⟩
  | x :: r, i + 1, d, h => by
    have ⟨y, e1, e2⟩ := enumD_get (k + 1) r i d h
    exact ⟨y, e1, by rw [e2, show k + 1 + i = k + (i + 1) by omega]⟩
theorem yields_enum {K : PySem.W.Frag} {H : Hp} {a : Addr} {ds : List D} {vs : List V} (h : SqT K H a vs) (rs : Rels K H ds vs) : Yields K (IteT K a) (enumD 0 ds) H where
  go := fun i H' hi im => by
    rw [enumD_len] at hi
    have ⟨v, ev, _⟩ := rs.get (i := i) (List.getElem?_eq_getElem hi)
    exact ⟨vs, v, im.sqT h, ev⟩
  stop := fun H' im => ⟨vs, im.sqT h, by rw [enumD_len, rs.length]⟩
  yld := fun i H' x H2 d ed im ⟨T, y, ex, hT, eH, hx⟩ => by
    have ⟨dx, edx, e⟩ := enumD_get 0 ds i d ed
    subst e ex eH
    have ⟨v, ev, rv⟩ := rs.get edx
    have e2 := hx vs (im.sqT h)
    rw [ev] at e2
    cases (Option.some.inj e2)
    refine ⟨.inr ⟨T, _, hT, rfl⟩, T, _, rfl, .inl (.inl upd_same), .int (i : Nat), [y], rfl, ?_, y, [], rfl, Rel.imm (im.trans (upd_imm hT)) _ _ rv, rfl⟩
    show V.int (i : Nat) = V.int ((0 + i : Nat) : Int)
    rw [Nat.zero_add]
def onTup (d : D) (k : List D → Prop) : Prop := match d with
  | .tup ds => k ds
  | _ => False
def iEnumD (fa : EA) : EI := fun ρ S Q E => fa ρ S (fun ds S1 => match ds with
  | [d] => onTup d fun xs => Q (enumD 0 xs) S1
  | _ => False) E
theorem i_enumT {X : Cx} {W : WX} {e : Expr} {fa : EA} {p pos tpos : Pos} {elts : List Expr} {kk : Nat} (hg : Gl X "enumerate") (hm : X.mg "enumerate" = none) (ha : PA X [e] (rdA X.K W 1 fa)) (hs : starEach [e] X.env = [(false, eval e X.env)] := by rfl) :
    PI X (.Tuple elts kk tpos) (.Call (.Name "enumerate" p) [e] [] pos) (rdI X.K W (iEnumD fa)) :=
  PI_imp (pi_enumT hg hm ha hs) fun σ H R ⟨ρ, S, Qd, Ed, hρ, hS, hf, y, lx⟩ => by
    refine ⟨ρ, S, _, Ed, hρ, hS, hf, fun ds S1 vs H1 e1 r1 q1 hl h1 => ?_, lx⟩
    dsimp only at h1
    split at h1
    · rename_i d
      obtain ⟨v, rfl, rv⟩ := Rels.one q1
      cases d with
      | tup xs =>
        obtain ⟨a, ws, rfl, ht, rs⟩ := rv
        exact ⟨a, ws, rfl, ht, y (enumD 0 xs) S1 _ H1 e1 r1 (yields_enum ht rs) h1⟩
      | _ => exact h1.elim
    · exact h1.elim

/-! ### target tuples in a comprehension -/
def TgsMono (t : TGs) : Prop := ∀ vs σ H Q Q', (∀ σ' H', Q σ' H' → Q' σ' H') → t vs σ H Q → t vs σ H Q'
theorem monos_nil : TgsMono gNil := fun vs σ H Q Q' i h => ⟨h.1, i _ _ h.2⟩
theorem monos_cons {t : TG} {u : TGs} (m : TgMono t) (n : TgsMono u) : TgsMono (gCons t u) := fun vs σ H Q Q' i ⟨v, r, e, h⟩ => ⟨v, r, e, m v σ H _ _ (fun σ' H' => n r σ' H' Q Q' i) h⟩
theorem mono_tup {K : PySem.W.Frag} {n : Nat} {t : TGs} (m : TgsMono t) : TgMono (gTup K n t) := fun v σ H Q Q' i ⟨a, xs, e, hq, hl, h⟩ => ⟨a, xs, e, hq, hl, m xs σ H Q Q' i h⟩
end MP

set_option Elab.async false
set_option linter.all false
set_option maxRecDepth 100000
set_option maxHeartbeats 2100000
/-! MPVar: a local name that holds a def is called; three targets; defs that call themselves. -/
namespace MP
open PySem PySem.Spec PyProof.Rows L2 MP
/-! ### a local name that holds a def -/
def onRef (o : Option D) (TB : Addr → Option DF) (k : DF → Prop) : Prop := match o with
  | some (.ref a) => (match TB a with
    | some F => k F
    | none => False)
  | _ => False
theorem onRef_i {o : Option D} {TB : Addr → Option DF} {k : DF → Prop} {a : Addr} {F : DF} (e : o = some (.ref a)) (h : TB a = some F) (q : k F) : onRef o TB k := by
  subst e
  show (match TB a with
    | some F => k F
    | none => False)
  rw [h]
  exact q
theorem onRef_inv {o : Option D} {TB : Addr → Option DF} {k : DF → Prop} (h : onRef o TB k) : ∃ a F, o = some (.ref a) ∧ TB a = some F ∧ k F := by
  unfold onRef at h
  split at h
  · rename_i a
    split at h
    · rename_i F e
      exact ⟨a, F, rfl, e, h⟩
    · exact h.elim
  · exact h.elim
def evCallV (TB : Addr → Option DF) (i : Nat) (fa : EA) : ET := fun ρ S Q E => onRef (lk ρ i) TB fun F => fa ρ S (fun ds S1 => F ds S1 Q E) E
theorem evCallV_i {TB : Addr → Option DF} {i : Nat} {fa : EA} {ρ : MP.Env} {S : Store} {Q : Post} {E : XPost} (q : onRef (lk ρ i) TB fun F => fa ρ S (fun ds S1 => F ds S1 Q E) E) : evCallV TB i fa ρ S Q E := q
section
variable {X : Cx} {W : WX} {i n : Nat} {x : Str} {p pos : Pos} {e : Expr} {es : List Expr} {kws : List Keyword} {fa : EA} {t : TA} {TB : Addr → Option DF} {E : L2.St → XK} {ps ks : List Str} {is : List Nat}
/-- each def of the table keeps its promise here -/
def TabOk (X : Cx) (n : Nat) (TB : Addr → Option DF) : Prop := ∀ f F, TB f = some F → ∃ (k : Nat) (fd : FuncData) (ps : List Str), FnOk X.prog X.w X.K X.mg X.base (L2.CX X.prog X.w) k f fd ps (spM X.K n F) ∧ Room k X.A ∧ PySem.W.keepIn X.K (.ref f) = true ∧ Binds X.K fd ps []
theorem pe_held (T : TabOk X n TB) (hN : X.N[i]? = some x) (hv : Vis X.env.scope x) (hx : ∀ σ, PassesAt (L2.CX X.prog X.w) X σ (E σ)) (ha : PA X (e :: es) t)
    (noDbg : (x == ("__debug__" : Str)) = false := by decide) (noCd : (x == ("__classdict__" : Str)) = false := by decide)
    (hst : starEach (e :: es) X.env = (false, eval e X.env) :: starEach es X.env := by rfl) (noStar : (backTo pos (starEach es X.env)).any (·.1) = false := by rfl) :
    PE X (.Call (.Name x p) (e :: es) [] pos) (fun σ H Q => ∃ f F, σ[i]? = some (some (.ref f)) ∧ TB f = some F ∧ t σ H fun vs H1 => spM X.K n F vs H1 Q (E σ)) := by
  constructor
  intro pnl s σ H Q I ⟨f, F, at_i, inT, ht⟩
  have ⟨k, fd, ps, ok, room, kp, bd⟩ := T f F inT
  apply wpAny_Call_Name_kw
  apply thn ((pe_var (pos := p) hN hv noDbg noCd).run pnl s σ H (fun v H1 => v = .ref f ∧ H1 = H) I ⟨.ref f, at_i, rfl, rfl⟩)
  rintro u s1 ⟨v, H1, I1, r1, rfl, rfl⟩
  cases r1
  refine PySem.W.callWith_K (h₀ := X.base) I.ok.mod.kin kp (thn (ha.run pos pnl s1 σ _ _ I1 ht) ?_) hst noStar
  rintro us s2 ⟨vs, H2, I2, r, q⟩
  exact ⟨I2.kIn, run_fnS ok room bd (hx σ) I2 r q⟩
theorem e_callV (T : TabOk X n TB) (hN : X.N[i]? = some x) (hv : Vis X.env.scope x) (tk : Takes X W) (ha : PA X (e :: es) (rdA X.K W n fa))
    (noDbg : (x == ("__debug__" : Str)) = false := by decide) (noCd : (x == ("__classdict__" : Str)) = false := by decide)
    (hst : starEach (e :: es) X.env = (false, eval e X.env) :: starEach es X.env := by rfl) (noStar : (backTo pos (starEach es X.env)).any (·.1) = false := by rfl) :
    PE X (.Call (.Name x p) (e :: es) [] pos) (rdE X.K W (evCallV TB i fa)) :=
  PE_imp (pe_held T hN hv (fun σ => passAt tk σ) ha noDbg noCd hst noStar) fun σ H Q ⟨ρ, S, Qd, Ed, hρ, hS, hf, lq, lx⟩ => by
    obtain ⟨a, F, ea, eF, hk⟩ := onRef_inv hf
    have ⟨v, ev, rv⟩ := hρ.get ea
    have e2 : v = .ref a := rv
    subst e2
    exact ⟨a, F, ev, eF, ρ, S, _, Ed, hρ, hS, hk, fun ds S1 vs H1 e1 r1 q1 hl h1 => ⟨ds, S1, Qd, Ed, q1, r1, hl, h1, lq.mono e1, lx.mono e1⟩, lx⟩
/-- .. by keywords alone -/
def TabOkK (X : Cx) (n m : Nat) (ks : List Str) (is : List Nat) (TB : Addr → Option DF) : Prop := ∀ f F, TB f = some F → ∃ (k : Nat) (fd : FuncData) (ps : List Str), FnOk X.prog X.w X.K X.mg X.base (L2.CX X.prog X.w) k f fd ps (spM X.K n F) ∧ Room k X.A ∧ PySem.W.keepIn X.K (.ref f) = true ∧ KBinds X.K fd ps ks (gK 0 m is) (gK 0 m is)
theorem pe_heldK {m : Nat} {tk : TA} (T : TabOkK X n m ks is TB) (hN : X.N[i]? = some x) (hv : Vis X.env.scope x) (hx : ∀ σ, PassesAt (L2.CX X.prog X.w) X σ (E σ)) (hkws : PK X kws tk)
    (hall : (backToKw pos (keywordEach kws X.env)).all (·.1.isSome) = true := by rfl) (hks : (backToKw pos (keywordEach kws X.env)).filterMap (·.1) = ks := by rfl)
    (noDbg : (x == ("__debug__" : Str)) = false := by decide) (noCd : (x == ("__classdict__" : Str)) = false := by decide)
    (noStar : ((backTo pos (starEach [] X.env)).any (·.1) || (backToKw pos (keywordEach kws X.env)).any (·.1.isNone)) = false := by rfl) :
    PE X (.Call (.Name x p) [] kws pos) (fun σ H Q => ∃ f F, σ[i]? = some (some (.ref f)) ∧ TB f = some F ∧ tk σ H fun zs H1 => spM X.K n F (gK 0 m is [] zs) H1 Q (E σ)) := by
  constructor
  intro pnl s σ H Q I ⟨f, F, at_i, inT, ht⟩
  have ⟨k, fd, ps, ok, room, kp, bd⟩ := T f F inT
  apply wpAny_Call_Name_kw
  apply thn ((pe_var (pos := p) hN hv noDbg noCd).run pnl s σ H (fun v H1 => v = .ref f ∧ H1 = H) I ⟨.ref f, at_i, rfl, rfl⟩)
  rintro u s1 ⟨v, H1, I1, r1, rfl, rfl⟩
  cases r1
  refine PySem.W.callWith_KW0 (h₀ := X.base) I.ok.mod.kin kp hall (thn (hkws.run pos pnl s1 σ _ _ I1 ht) ?_) noStar
  rintro ws s2 ⟨zs, H2, I2, rz, q⟩
  refine ⟨I2.kIn, ?_⟩
  rw [hks]
  exact run_fnkS ok room bd (hx σ) I2 .nil rz q
def evCallVK (TB : Addr → Option DF) (i : Nat) (is : List Nat) (fk : EA) : ET := fun ρ S Q E => onRef (lk ρ i) TB fun F => fk ρ S (fun zs S1 => F (pickL is zs) S1 Q E) E
theorem evCallVK_i {TB : Addr → Option DF} {is : List Nat} {fk : EA} {ρ : MP.Env} {S : Store} {Q : Post} {E : XPost} (q : onRef (lk ρ i) TB fun F => fk ρ S (fun zs S1 => F (pickL is zs) S1 Q E) E) : evCallVK TB i is fk ρ S Q E := q
theorem e_callVK {m : Nat} {fk : EA} (T : TabOkK X is.length m ks is TB) (hN : X.N[i]? = some x) (hv : Vis X.env.scope x) (tk : Takes X W) (hkws : PK X kws (rdA X.K W m fk)) (his : ∀ i ∈ is, i < m := by decide)
    (hall : (backToKw pos (keywordEach kws X.env)).all (·.1.isSome) = true := by rfl) (hks : (backToKw pos (keywordEach kws X.env)).filterMap (·.1) = ks := by rfl)
    (noDbg : (x == ("__debug__" : Str)) = false := by decide) (noCd : (x == ("__classdict__" : Str)) = false := by decide)
    (noStar : ((backTo pos (starEach [] X.env)).any (·.1) || (backToKw pos (keywordEach kws X.env)).any (·.1.isNone)) = false := by rfl) :
    PE X (.Call (.Name x p) [] kws pos) (rdE X.K W (evCallVK TB i is fk)) :=
  PE_imp (pe_heldK T hN hv (fun σ => passAt tk σ) hkws hall hks noDbg noCd noStar) fun σ H Q ⟨ρ, S, Qd, Ed, hρ, hS, hf, lq, lx⟩ => by
    obtain ⟨a, F, ea, eF, hk⟩ := onRef_inv hf
    have ⟨v, ev, rv⟩ := hρ.get ea
    have e2 : v = .ref a := rv
    subst e2
    refine ⟨a, F, ev, eF, ρ, S, _, Ed, hρ, hS, hk, fun ds S1 vs H1 e1 r1 q1 hl h1 => ⟨pickL is ds, S1, Qd, Ed, ?_, r1, ?_, h1, lq.mono e1, lx.mono e1⟩, lx⟩
    · unfold gK
      rw [if_pos ⟨rfl, by rw [← q1.length, hl]⟩]
      exact Rels.pick q1 is
    · exact pick_length fun i hi => by rw [hl]; exact his i hi
end
/-! ### three targets -/
def dPar3 (i j l : Nat) (fa : EA) : ST := fun ρ S N => fa ρ S (fun ds S' => match ds with
  | [x, y, z] => N.nx (st (st (st ρ i (some x)) j (some y)) l (some z)) S'
  | _ => False) (fun x S' => N.ex x ρ S')
theorem dPar3_i {i j l : Nat} {fa : EA} {ρ : MP.Env} {S : Store} {N : DEnds} (q : fa ρ S (fun ds S' => match ds with
  | [x, y, z] => N.nx (st (st (st ρ i (some x)) j (some y)) l (some z)) S'
  | _ => False) (fun x S' => N.ex x ρ S')) : dPar3 i j l fa ρ S N := q
theorem s_par3 {X : Cx} {W : WX} {fa : EA} {i j l : Nat} {x y z : Str} {a b c : Expr} {px py pz pt pos : Pos} {kt k2 pt2} (hc : X.calm = true) (hN : X.N.Nodup) (hi : X.N[i]? = some x) (hj : X.N[j]? = some y) (hl : X.N[l]? = some z) (hij : i ≠ j) (hil : i ≠ l) (hjl : j ≠ l)
    (hx : X.env.scope.names.lookup x = some .local) (hy : X.env.scope.names.lookup y = some .local) (hz : X.env.scope.names.lookup z = some .local) (ha : PA X [a, b, c] (rdA X.K W 3 fa))
    (hSw : swappedStores [.Tuple [.Name x px, .Name y py, .Name z pz] kt pt] (.Tuple [a, b, c] k2 pt2) X.env = pure (some [x, y, z]))
    (hSole : swapsWithSole [.Tuple [.Name x px, .Name y py, .Name z pz] kt pt] (.Tuple [a, b, c] k2 pt2) pos.line X.env = pure false := by rfl) :
    PS X (.Assign [.Tuple [.Name x px, .Name y py, .Name z pz] kt pt] (.Tuple [a, b, c] k2 pt2) pos) (rdS X.K W (dPar3 i j l fa)) :=
  PS_imp (ps_par3 hc hN hi hj hl hij hil hjl hx hy hz ha hSw hSole) fun D σ H ⟨ρ, S, N, hρ, hS, hf, ln⟩ => by
    refine ⟨ρ, S, _, _, hρ, hS, hf, fun ds S1 vs H1 e1 r1 q1 hl h1 => ?_, ln.lx hS hρ⟩
    dsimp only at h1
    split at h1
    · rename_i x1 y1 z1
      obtain ⟨v, r, rfl, k1, v2, r2, rfl, k2, v3, r3, rfl, k3, w⟩ := q1
      have w' : r3 = [] := w
      subst w'
      exact ⟨v, v2, v3, rfl, ln.nx _ S1 _ H1 e1 r1 ((((hρ.imm (e1.imm hS)).set k1 i).set k2 j).set k3 l) h1⟩
    · exact h1.elim
/-! ### defs that call themselves: out of fuel nothing is promised -/
def dNone : DF := fun _ _ _ _ => False
theorem fn_none {P : Program} {w : World} {K : PySem.W.Frag} {mg : Str → Option Value} {base : Heap} {CX : CXT} {k n : Nat} {f : Addr} {fd : FuncData} {ps : List Str} (h : ps.length = n) : FnOk P w K mg base CX k f fd ps (spM K n dNone) where
  len := fun vs H Q E ⟨ds, S, Qd, Ed, r, hS, hl, hf, _⟩ => hf.elim
  run := fun A outer s H args us vs Q E hr e0 bd rv ⟨ds, S, Qd, Ed, r, hS, hl, hf, _⟩ => hf.elim
/-! ### the module's constants; room -/
theorem e_glob {X : Cx} {W : WX} {x : Str} {d : D} {pos : Pos} (hg : Gl X x) (h : ∃ u v, X.mg x = some u ∧ RelV v u ∧ ∀ H, Rel X.K H d v) (noDbg : (x == ("__debug__" : Str)) = false := by decide) : PE X (.Name x pos) (rdE X.K W (evC d)) :=
  let ⟨_, _, hm, r, rel⟩ := h
  e_const (pe_glob hg hm r noDbg) rel
theorem hu65 {A : Around} {k : Nat} (hr : Room k A) : A.units + 65 < cLine := by have := hr.un; omega
theorem hu66 {A : Around} {k : Nat} (hr : Room k A) : A.units + 66 < cLine := by have := hr.un; omega
theorem bools_inC {K : PySem.W.Frag} {neg : Bool} : Bools (rInC K neg) := by
  intro x y H Q h
  rcases h with (h | ⟨a, o, e, g, q⟩) | ⟨d, ds, h1, h2, h3, h4, q⟩
  · exact .inl (.inl (bools_in x y H Q h))
  · exact .inl (.inr ⟨a, o, e, g, fz_bl q⟩)
  · exact .inr ⟨d, ds, h1, h2, h3, h4, fz_bl q⟩
end MP

set_option Elab.async false
set_option linter.all false
set_option maxRecDepth 100000
set_option maxHeartbeats 2100000
/-! MPLive: a list of the store times a number; a list of the store that is walked while nobody changes it. -/
namespace MP
open PySem PySem.Spec PyProof.Rows L2 MP
theorem Rels.flat {K : PySem.W.Frag} {H : Hp} {ds : List D} {vs : List V} (r : Rels K H ds vs) : ∀ n : Nat, Rels K H (List.replicate n ds).flatten (List.replicate n vs).flatten
  | 0 => rfl
  | n + 1 => by
    rw [List.replicate_succ, List.replicate_succ, List.flatten_cons, List.flatten_cons]
    exact Rels.append r (Rels.flat r n)
def rMulB : R2 := fun x y H Q => rMulA x y H Q ∨ rRep x y H Q
theorem op_mulB {X : Cx} : OpR X (binaryOp .Mult) rMulB := OpR.or op_mulA op_rep
def gMulB (mk : MkT) : G2 := fun x y S Q => gMulA x y S Q ∨ match y with
  | .int k => onL x S fun _ xs => -(2 ^ 63) ≤ k ∧ k < 2 ^ 63 ∧ xs.length * k.toNat ≤ sizeLine ∧ mk (List.replicate k.toNat xs).flatten S Q
  | _ => False
theorem d_mulB {K : PySem.W.Frag} {mk : MkT} (hm : MkOk K mk) : OpD K rMulB (gMulB mk) := by
  intro x y S H dx dy Qd Q hS rx ry h l
  rcases h with h | h
  · exact .inl (d_mulA x y S H dx dy Qd Q hS rx ry h l)
  · split at h
    · rename_i k
      obtain ⟨a, ds, xs, ea, e1, e2, rs, h1, h2, h3, h4⟩ := onL_rel hS rx h
      exact .inr ⟨a, k, xs, ea, ry, e2, h1, h2, by rw [← rs.length]; exact h3, fun p hp => hm _ _ _ _ _ _ _ hS hp (Rels.flat rs _) h4 l⟩
    · exact h.elim
theorem gMulB_l {mk : MkT} {a : Addr} {k : Int} {xs : List D} {S : Store} {Q : Post} (h : S a = some (.lst xs)) (h1 : -(2 ^ 63) ≤ k) (h2 : k < 2 ^ 63) (h3 : xs.length * k.toNat ≤ sizeLine) (q : mk (List.replicate k.toNat xs).flatten S Q) : gMulB mk (.ref a) (.int k) S Q := by
  refine .inr ?_
  show onL (.ref a) S _
  unfold onL
  simp only [h]
  exact ⟨h1, h2, h3, q⟩
theorem gMulB_i {mk : MkT} {i j : Int} {S : Store} {Q : Post} (e : CMul i j) (q : Q (.int (i * j)) S) : gMulB mk (.int i) (.int j) S Q := .inl ⟨e, q⟩
/-! ### a list of the store, walked while it stays as it is -/
def live (L : Addr) (all : List D) (g : DG) (t : EB) (f : ET) (Q : List D → Store → Prop) : List D → List D → MP.Env → Store → Prop
  | [], acc, _, S => S L = some (.lst all) ∧ Q acc S
  | d :: ds, acc, ρ, S => S L = some (.lst all) ∧ g d ρ S fun ρ1 S1 => t ρ1 S1 (fun b S2 => if b = true then f ρ1 S2 (fun y S3 => acc.length < sizeLine ∧ live L all g t f Q ds (acc ++ [y]) ρ S3) (fun _ _ => False) else live L all g t f Q ds acc ρ S2) (fun _ _ => False)
def evLive (mk : MkT) (j : Nat) (g : DG) (t : EB) (f : ET) (vs : List Nat) : ET := fun ρ S Q _ => match lk ρ j with
  | some (.ref a) => (match S a with
    | some (.lst ds) => live a ds g t f (fun acc S2 => mk acc S2 Q) ds [] (wipeD ρ vs) S
    | _ => False)
  | _ => False
theorem live_inv {mk : MkT} {j : Nat} {g : DG} {t : EB} {f : ET} {vs : List Nat} {ρ : MP.Env} {S : Store} {Q : Post} {E : XPost} (h : evLive mk j g t f vs ρ S Q E) : ∃ a ds, lk ρ j = some (.ref a) ∧ S a = some (.lst ds) ∧ live a ds g t f (fun acc S2 => mk acc S2 Q) ds [] (wipeD ρ vs) S := by
  unfold evLive at h
  cases e : lk ρ j with
  | none => rw [e] at h; exact h.elim
  | some d =>
    rw [e] at h
    cases d with
    | ref a =>
      replace h : (match S a with
        | some (.lst ds) => live a ds g t f (fun acc S2 => mk acc S2 Q) ds [] (wipeD ρ vs) S
        | _ => False) := h
      cases e2 : S a with
      | none => rw [e2] at h; exact h.elim
      | some o =>
        rw [e2] at h
        cases o with
        | lst ds => exact ⟨a, ds, rfl, e2, h⟩
        | _ => exact h.elim
    | _ => exact h.elim
theorem evLive_i {mk : MkT} {j : Nat} {g : DG} {t : EB} {f : ET} {vs : List Nat} {ρ : MP.Env} {S : Store} {Q : Post} {E : XPost} {a : Addr} {ds : List D} (e : lk ρ j = some (.ref a)) (h : S a = some (.lst ds)) (q : live a ds g t f (fun acc S2 => mk acc S2 Q) ds [] (wipeD ρ vs) S) : evLive mk j g t f vs ρ S Q E := by
  unfold evLive
  rw [e]
  show (match S a with
    | some (.lst ds) => live a ds g t f (fun acc S2 => mk acc S2 Q) ds [] (wipeD ρ vs) S
    | _ => False)
  rw [h]
  exact q
theorem lc_live {K : PySem.W.Frag} {W W1 W2 : WX} {mk : MkT} {j : Nat} (hm : MkOk K mk) {g : DG} {tg : TG} {t : EB} {f : ET} {vs : List Nat} (hmono : TgMono tg) (htg : TgOk K vs tg g) (σ : L2.St) (H : Hp) (Q : VK)
    (h : rdE K W (evLive mk j g t f vs) σ H Q) : tFz (tLc (iSeqV K (tVar j)) tg (rdB K W1 t) (rdE K W2 f) vs) σ H Q := by
  obtain ⟨ρ, S1, Qd, Ed, hρ, r1, hf, lq, lx⟩ := h
  obtain ⟨L, ds, eL, sL, h1⟩ := live_inv hf
  have ⟨vL, aL, rL⟩ := hρ.get eL
  have eV : vL = .ref L := rL
  subst eV
  have atL : ∀ {S' : Store} {H' : Hp}, SRel K S' H' → S' L = some (.lst ds) → ∃ xs, SqL K H' L xs ∧ Rels K H' ds xs := fun r e => let ⟨xs, hx, rs⟩ := r L _ e; ⟨xs, .inl (.inl hx), rs⟩
  have hS := r1
  have e1 : Evo S1 H S1 H := Evo.refl _ _
  obtain ⟨xs0, q0, rs0⟩ := atL r1 sL
  refine ⟨.ref L, aL, .inl ⟨L, xs0, rfl, q0, ?_⟩⟩
  intro D hD
  have iD : ∀ o, Imm H (upd H D o) := fun o => upd_imm hD
  have hρ1 : EnvR K H (wipeD ρ vs) (L2.wipe σ vs) := (hρ.imm (e1.imm hS)).wipe vs
  have lq1 := lq.mono e1
  refine ⟨fun i m H' => m = ds.length - i ∧ i ≤ ds.length ∧ ∃ S' acc accV, SRel K S' H' ∧ Evo S1 H S' H' ∧ S' D = none ∧ H' D = some (.lst accV) ∧ Rels K H' acc accV ∧ live L ds g t f (fun acc S2 => mk acc S2 Qd) (ds.drop i) acc (wipeD ρ vs) S',
    ⟨ds.length, by simp, Nat.zero_le _, S1, [], [], r1.upd_new hD, evo_new hD, r1.free hD, upd_same, rfl, h1⟩, ?_⟩
  rintro i m H' ⟨rfl, hle, S', acc, accV, r', e', nD, eD, ra, h'⟩
  have im : Imm H H' := e'.imm r1
  by_cases hlt : i < ds.length
  · rw [drop_cons hlt] at h'
    obtain ⟨sl, h'⟩ := h'
    obtain ⟨xs', q', rs'⟩ := atL r' sl
    have ⟨v0, ev0, rv0⟩ := rs'.get (i := i) (List.getElem?_eq_getElem hlt)
    refine .inr ⟨⟨xs', v0, q', ev0⟩, _, fun H2 z => ⟨ds.length - (i + 1), by omega, rfl, hlt, z⟩, fun x H2 hy => ?_⟩
    obtain ⟨ex, rx⟩ : Ext H' H2 ∧ Rel K H2 ds[i] x := by
      obtain ⟨e, hx⟩ := hy
      have e2 := hx xs' q'
      rw [ev0] at e2
      cases Option.some.inj e2
      subst e
      exact ⟨.inl rfl, rv0⟩
    have e2 := ex.evo S'
    have r2 := ex.srel r'
    have z := htg x (L2.wipe σ vs) H2 (wipeD ρ vs) S' ds[i] _ (hρ1.imm ((e'.trans e2).imm r1)) rx h'
    refine hmono _ _ _ _ _ (fun σ3 H3 z => ?_) z
    obtain ⟨rfl, w, ρ3, k3, q3⟩ := z
    refine ⟨w.trans (wipe_idem _ _), ρ3, S', _, _, k3, r2, q3, fun b S4 H4 e4 r4 h4 => ?_, fun _ _ _ _ _ _ _ _ z => z.elim⟩
    have D2 : H3 D = some (.lst accV) := e2.keep D _ eD nD (fun _ z => nomatch z)
    have D4 : H4 D = some (.lst accV) := e4.keep D _ D2 nD (fun _ z => nomatch z)
    have nD4 : S4 D = none := by
      cases q : S4 D with
      | none => rfl
      | some u => exact (e4.new D nD (by rw [q]; exact fun z => nomatch z) _ D2 (fun _ z => nomatch z)).elim
    have e14 := (e'.trans e2).trans e4
    cases b with
    | false =>
      rw [if_neg Bool.false_ne_true] at h4
      refine L2.iteF ?_
      exact ⟨S4, acc, accV, r4, e14, nD4, D4, Rels.imm ((e2.trans e4).imm r') _ _ ra, h4⟩
    | true =>
      rw [if_pos rfl] at h4
      refine L2.iteT ?_
      refine ⟨ρ3, S4, _, _, k3.imm (e4.imm r2), r4, h4, fun d S5 v H5 e5 r5 q5 h5 => ?_, fun _ _ _ _ _ _ _ _ z => z.elim⟩
      have D5 : H5 D = some (.lst accV) := e5.keep D _ D4 nD4 (fun _ z => nomatch z)
      have nD5 : S5 D = none := by
        cases q : S5 D with
        | none => rfl
        | some u => exact (e5.new D nD4 (by rw [q]; exact fun z => nomatch z) _ D4 (fun _ z => nomatch z)).elim
      have ra5 : Rels K H5 acc accV := Rels.imm (((e2.trans e4).trans e5).imm r') _ _ ra
      have iU : Imm H5 (upd H5 D (.lst (accV ++ [v]))) := upd_immS D5 rfl
      refine ⟨accV, D5, by rw [← ra5.length]; exact h5.1, S5, acc ++ [d], accV ++ [v], fun b u q => ?_, ⟨fun b o q n nt => ?_, (e14.trans e5).new⟩, nD5, upd_same, Rels.append (Rels.imm iU _ _ ra5) (Rels.mk1 (Rel.imm iU _ _ q5)), h5.2⟩
      · have hb : b ≠ D := fun z => by subst z; rw [nD5] at q; cases q
        exact (r5 b u q).imm iU fun w q => by rw [upd_ne hb]; exact q
      · have hb : b ≠ D := fun z => by subst z; rw [hD] at q; cases q
        rw [upd_ne hb]
        exact (e14.trans e5).keep b o q n nt
  · have ei : i = ds.length := by omega
    subst ei
    rw [List.drop_length] at h'
    obtain ⟨sl, h'⟩ := h'
    obtain ⟨xs', q', rs'⟩ := atL r' sl
    refine .inl ⟨⟨xs', q', by rw [rs'.length]; exact Nat.le_refl _⟩, ?_⟩
    have id : Imm H' (delH' H' D) := fun b o q mq => by
      have hb : b ≠ D := fun z => by subst z; rw [eD] at q; cases q; cases mq
      exact (if_neg hb : delH' H' D b = H' b).trans q
    have rd : SRel K S' (delH' H' D) := fun b u q => by
      have hb : b ≠ D := fun z => by subst z; rw [nD] at q; cases q
      exact (r' b u q).imm id fun w q => (if_neg hb : delH' H' D b = H' b).trans q
    have ed : Evo S1 H S' (delH' H' D) := ⟨fun b o q n nt => by
      have hb : b ≠ D := fun z => by subst z; rw [hD] at q; cases q
      exact (if_neg hb : delH' H' D b = H' b).trans (e'.keep b o q n nt), e'.new⟩
    have fin := hm S' (delH' H' D) acc accV D Qd Q rd (if_pos rfl) (Rels.imm id _ _ ra) h' (lq1.mono ed)
    rw [delH'_upd eD] at fin
    exact fin
section
variable {X : Cx} {W W1 W2 : WX} {pos : Pos} {elt tg : Expr} {ifs : List Expr} {scope : Scope} {own : List (Str × Nat)} {g : DG} {tt : TG} {t : EB} {f : ET} {mk : MkT}
theorem e_live {j : Nat} {x : Str} {px : Pos} (hm : MkOk X.K mk) (hc : X.calm = true) (hN : X.N.Nodup) (hv : PE X (.Name x px) (tVar j)) (ok : BlkOk X.N X.env.scope scope own) (hmono : TgMono tt) (htg : TgOk X.K (own.map (·.2)) tt g)
    (hg : ∀ (s : Shared) (H : Hp) (C : Addr) (cl : List (Str × Addr)) (fp : List Addr), PG (X.blk s H scope (compEnvC scope cl C X.env) fp) tg tt) (ht : ∀ (s : Shared) (H : Hp) (C : Addr) (cl : List (Str × Addr)) (fp : List Addr), PTs (X.blk s H scope (compEnvC scope cl C X.env) fp) ifs (rdB X.K W1 t))
    (he : ∀ (s : Shared) (H : Hp) (C : Addr) (cl : List (Str × Addr)) (fp : List Addr), PE (X.blk s H scope (compEnvC scope cl C X.env) fp) elt (rdE X.K W2 f)) (hs : ∀ y, foldedSetIterable (.Name x px) X.env y = pure y := by intro _; rfl) :
    PE X (.ListComp elt [⟨tg, .Name x px, ifs, 0⟩] scope pos) (rdE X.K W (evLive mk j g t f (own.map (·.2)))) :=
  PE_imp (pe_fz (pe_lc hc hN (pi_seq hv) ok hg ht he hs)) (lc_live hm hmono htg)
end
end MP

set_option Elab.async false
set_option linter.all false
set_option maxRecDepth 100000
set_option maxHeartbeats 2100000
/-! MPStepB: more lemmas to step through a mirror. -/
namespace MP
open PySem PySem.Spec PyProof.Rows L2 MP
variable {ρ : MP.Env} {S : Store} {Q : Post} {E : XPost} {d x y : D} {i j : Int} {mk : MkT}
theorem gAddT_i (q : Q (.int (i + j)) S) : gAddT mk (.int i) (.int j) S Q := q
theorem gAddT_s {a b : Str} (e : a.length + b.length ≤ sizeLine) (q : Q (.str (a ++ b)) S) : gAddT mk (.str a) (.str b) S Q := ⟨e, q⟩
theorem gAddT_l {a b : List D} (e : a.length + b.length ≤ sizeLine) (q : mk (a ++ b) S Q) : gAddT mk (.lst a) (.lst b) S Q := ⟨e, q⟩
theorem gLen_s {z : Str} (e : z.length ≤ sizeLine) (q : Q (.int z.length) S) : gLen [.str z] S Q := ⟨e, q⟩
/-- a value without a thing of the store or of the module at its head -/
def tyN : D → String
  | .non => "NoneType"
  | .bl _ => "bool"
  | .int _ => "int"
  | .str _ => "str"
  | .tup _ => "tuple"
  | .lst _ => "list"
  | .dct _ _ => "dict"
  | _ => ""
def Val : D → Prop
  | .non => True
  | .bl _ => True
  | .int _ => True
  | .str _ => True
  | .tup _ => True
  | .lst _ => True
  | .dct _ _ => True
  | _ => False
theorem Val.vw (h : Val d) : vw d S = d := by cases d <;> first | exact h.elim | rfl
theorem isi_v {sub : Value → Value → Option Bool} {ex : Addr → Bool} {n : String} {b : Bool} (h : Val d) (eb : kitB (tyN d) n = some b) (q : Q (.bl b) S) : gIsi sub ex [d, .ty n] S Q := by
  cases d <;> first | exact h.elim | exact gIsi_t rfl rfl eb q
def isStr : D → Bool
  | .str _ => true
  | _ => false
def isTup : D → Bool
  | .tup _ => true
  | _ => false
def isLst : D → Bool
  | .lst _ => true
  | _ => false
def isBl : D → Bool
  | .bl _ => true
  | _ => false
def isNum : D → Bool
  | .int _ => true
  | .bl _ => true
  | _ => false
theorem isi_str {sub : Value → Value → Option Bool} {ex : Addr → Bool} (h : Val d) (q : Q (.bl (isStr d)) S) : gIsi sub ex [d, .ty "str"] S Q := by
  cases d <;> first | exact h.elim | exact isi_v h rfl q
theorem isi_tup {sub : Value → Value → Option Bool} {ex : Addr → Bool} (h : Val d) (q : Q (.bl (isTup d)) S) : gIsi sub ex [d, .ty "tuple"] S Q := by
  cases d <;> first | exact h.elim | exact isi_v h rfl q
theorem isi_lst {sub : Value → Value → Option Bool} {ex : Addr → Bool} (h : Val d) (q : Q (.bl (isLst d)) S) : gIsi sub ex [d, .ty "list"] S Q := by
  cases d <;> first | exact h.elim | exact isi_v h rfl q
theorem isi_bl {sub : Value → Value → Option Bool} {ex : Addr → Bool} (h : Val d) (q : Q (.bl (isBl d)) S) : gIsi sub ex [d, .ty "bool"] S Q := by
  cases d <;> first | exact h.elim | exact isi_v h rfl q
theorem isi_int {sub : Value → Value → Option Bool} {ex : Addr → Bool} (h : Val d) (q : Q (.bl (isNum d)) S) : gIsi sub ex [d, .ty "int"] S Q := by
  cases d <;> first | exact h.elim | exact isi_v h rfl q
/-! «in» -/
theorem inC_lst {neg : Bool} {ys : List D} (h1 : flatD x = true) (h2 : ys.all flatD = true) (q : Q (.bl (if neg then !inD x ys else inD x ys)) S) : gInC neg x (.lst ys) S Q := .inl ⟨h1, h2, q⟩
theorem inC_tup {neg : Bool} {ys : List D} (h1 : flatD x = true) (h2 : ys.all flatD = true) (q : Q (.bl (if neg then !inD x ys else inD x ys)) S) : gInC neg x (.tup ys) S Q := .inl ⟨h1, h2, q⟩
theorem inC_sign {neg : Bool} {c : Nat} {z : Str} (q : Q (.bl (if neg then !decide (c ∈ z.cps.toList) else decide (c ∈ z.cps.toList))) S) : gInC neg (.str ⟨#[c]⟩) (.str z) S Q := .inl q
theorem inC_dct {neg : Bool} {ks : List Key} {ds : List D} {k : Key} (e : vw y S = .dct ks ds) (hk : keyD x = some k) (q : Q (.bl (if neg then !(dlook ks ds k).isSome else (dlook ks ds k).isSome)) S) : gInC neg x y S Q := by
  refine .inl ?_
  unfold gInB
  rw [e]
  show (match keyD x with
    | some k => Q (.bl (if neg then !(dlook ks ds k).isSome else (dlook ks ds k).isSome)) S
    | none => False)
  rw [hk]
  exact q
theorem gGet_i {ks : List Key} {ds : List D} {k : Key} {z r : D} (e : vw d S = .dct ks ds) (hk : keyD y = some k) (er : (dlook ks ds k).getD z = r) (q : Q r S) : gGet d y z S Q := by
  unfold gGet
  rw [e]
  show (match keyD y with
    | some k => Q ((dlook ks ds k).getD z) S
    | none => False)
  rw [hk]
  show Q ((dlook ks ds k).getD z) S
  rw [er]
  exact q
theorem signs_enc (x : Str) : signs x = x.cps.toList.map fun c => D.str ⟨#[c]⟩ := rfl
theorem sign_lay (c : Nat) (h : c < 0x110000) : True := trivial
/-! ### a list against the empty one, whatever it holds -/
def rNil (K : PySem.W.Frag) (neg : Bool) : R2 := fun x y H Q => ∃ a b xs, x = .ref a ∧ y = .ref b ∧ SqL K H a xs ∧ SqL K H b [] ∧ Q (.bl (if neg then !xs.isEmpty else xs.isEmpty)) H
theorem op_eqNil {X : Cx} (hu : X.A.units < cLine) : OpR X (compareOp .Eq) (rNil X.K false) := by
  intro pnl s σ H x y v u Q I rx ry ⟨a, b, xs, ex, ey, ha, hb, q⟩
  subst ex ey
  cases rx
  cases ry
  have ⟨i1, r1, p1, _⟩ := I.list ha
  have ⟨i2, r2, p2, _⟩ := I.list hb
  cases r2
  cases xs with
  | nil =>
    cases r1
    exact SeqAt.eq_listAt (e := fun _ => true) p1.isList p2.isList rfl hu (fun j h1 => by cases h1) ⟨.bl true, H, I, rfl, q⟩
  | cons z r =>
    cases r1
    exact SeqAt.eq_list_lengthsAt p1.isList p2.isList (by simp) hu ⟨.bl false, H, I, rfl, q⟩
theorem op_neNil {X : Cx} (hu : X.A.units < cLine) : OpR X (compareOp .NotEq) (rNil X.K true) := by
  intro pnl s σ H x y v u Q I rx ry ⟨a, b, xs, ex, ey, ha, hb, q⟩
  subst ex ey
  cases rx
  cases ry
  have ⟨i1, r1, p1, _⟩ := I.list ha
  have ⟨i2, r2, p2, _⟩ := I.list hb
  cases r2
  cases xs with
  | nil =>
    cases r1
    exact SeqAt.RcNeAt.lists (e := fun _ => true) p1.isList p2.isList rfl hu (fun j h1 => by cases h1) X.prog X.w _ _ ⟨.bl false, H, I, rfl, q⟩
  | cons z r =>
    cases r1
    exact SeqAt.RcNeAt.lists_lengths p1.isList p2.isList (by simp) hu X.prog X.w _ _ ⟨.bl true, H, I, rfl, q⟩
def gNil (g : G2) (neg : Bool) : G2 := fun x y S Q => g x y S Q ∨ ∃ xs, vw x S = .lst xs ∧ vw y S = .lst [] ∧ Q (.bl (if neg then !xs.isEmpty else xs.isEmpty)) S
theorem d_nil {K : PySem.W.Frag} {r : R2} {g : G2} {neg : Bool} (h : OpD K r g) : OpD K (fun x y H Q => r x y H Q ∨ rNil K neg x y H Q) (gNil g neg) := by
  intro x y S H dx dy Qd Q hS rx ry hg l
  rcases hg with hg | ⟨xs, e1, e2, q⟩
  · exact .inl (h x y S H dx dy Qd Q hS rx ry hg l)
  · obtain ⟨a, vs, rfl, ha, rs⟩ := vw_lst hS rx e1
    obtain ⟨b, ws, rfl, hb, rt⟩ := vw_lst hS ry e2
    have ew : ws = [] := rt
    subst ew
    have ei : xs.isEmpty = vs.isEmpty := by
      have := rs.length
      cases xs <;> cases vs <;> first | rfl | cases this
    rw [ei] at q
    exact .inr ⟨a, b, vs, rfl, rfl, .inl ha, .inl hb, l.fz hS (d := .bl _) rfl q⟩
abbrev gEqE : G2 := gNil gEq false
abbrev gNeE : G2 := gNil gNe true
theorem op_eqE {X : Cx} (hu : X.A.units + 64 < cLine) : OpR X (compareOp .Eq) (fun x y H Q => rEqA X.K x y H Q ∨ rNil X.K false x y H Q) := OpR.or (op_eqA hu) (op_eqNil (by omega))
theorem op_neE {X : Cx} (hu : X.A.units + 64 < cLine) : OpR X (compareOp .NotEq) (fun x y H Q => rNeA X.K x y H Q ∨ rNil X.K true x y H Q) := OpR.or (op_neA hu) (op_neNil (by omega))
theorem bools_nil {K : PySem.W.Frag} {r : R2} {neg : Bool} (h : Bools r) : Bools (fun x y H Q => r x y H Q ∨ rNil K neg x y H Q) := fun x y H Q z => z.elim (fun z => .inl (h x y H Q z)) fun ⟨a, b, xs, e1, e2, h1, h2, q⟩ => .inr ⟨a, b, xs, e1, e2, h1, h2, fz_bl q⟩
theorem gEqE_nil {xs : List D} (e : vw d S = .lst xs) (q : Q (.bl xs.isEmpty) S) : gEqE d (.lst []) S Q := .inr ⟨xs, e, rfl, q⟩
theorem gNeE_nil {xs : List D} (e : vw d S = .lst xs) (q : Q (.bl (!xs.isEmpty)) S) : gNeE d (.lst []) S Q := .inr ⟨xs, e, rfl, q⟩
theorem gEqE_i (q : Q (.bl (i == j)) S) : gEqE (.int i) (.int j) S Q := .inl ⟨rfl, rfl, q⟩
theorem gNeE_i (q : Q (.bl (!(i == j))) S) : gNeE (.int i) (.int j) S Q := .inl ⟨rfl, rfl, q⟩
theorem gEqE_s {a b : Str} (q : Q (.bl (a == b)) S) : gEqE (.str a) (.str b) S Q := .inl q
theorem gNeE_s {a b : Str} (q : Q (.bl (!(a == b))) S) : gNeE (.str a) (.str b) S Q := .inl q
end MP

set_option Elab.async false
set_option linter.all false
set_option maxRecDepth 100000
set_option maxHeartbeats 2100000
/-! MPLam: a lambda handed to a def that calls it in a try and keeps the exception. -/
namespace MP
open PySem PySem.Spec PyProof.Rows L2 MP LamX
/-- an exception is met where the frame has its whole length -/
theorem takes_len {X : Cx} {W : WX} (t : Takes X W) : Takes X (fun c d σ H => σ.length = X.N.length → W c d σ H) := fun u s' ⟨a, B, sI, pins, σ, H, cls, d, e, I, nb, up, sky, na, os, ag, w⟩ =>
  t u s' ⟨a, B, sI, pins, σ, H, cls, d, e, I, nb, up, sky, na, os, ag, w I.len⟩
/-- what such a def makes of the lambda's reading -/
def TKept (K : PySem.W.Frag) (c : Value) : (XK → Hp → VK → Prop) → Hp → VK → Prop := fun tl H Q =>
  tl (fun cls d H' => ∃ b, PySem.W.exmOne K cls c = some b ∧ (b = true → ∀ a, H' a = none → Q (.ref a) (upd H' a (exT cls d a))) ∧ (b = false → False)) H fun _ H' => Q .non H'
theorem kept_gives {X : Cx} {Ng : List Str} {x a e y xs q : Str} {sg : Scope} {g : Addr} {c cdg : Value} {i j k : Nat} {p1 p2 p3 p4 p5 p6 p7 p8 p9 p10 p11 p12 p13 p14 : Pos} (hN : Ng.Nodup) (hi : Ng[i]? = some e) (hj : Ng[j]? = some y) (hij : i ≠ j) (h0j : 0 ≠ j) (hl0 : 0 < Ng.length)
    (he : sg.names.lookup e = some .local) (hy : sg.names.lookup y = some .local) (hx : sg.names.lookup xs = some .globalImplicit) (hmx : X.mg xs = some c) (hdx : (xs == ("__debug__" : Str)) = false := by decide)
    (hde : (e == ("__debug__" : Str)) = false := by decide) (hdc : (e == ("__classdict__" : Str)) = false := by decide) (hdy : (y == ("__debug__" : Str)) = false := by decide) (hdyc : (y == ("__classdict__" : Str)) = false := by decide) :
    GivesTo X Ng x sg g cdg [.Assign [.Name y p1] (.Constant .none k p2) p3, .Try [.Expr (.Call (.Name a p4) [] [] p5) p6] [.ExceptHandler (some (.Name xs p7)) (some e) [.Assign [.Name y p8] (.Name e p9) p10] p11] [] [] p12, .Return (some (.Name y p13)) p14] a q (TKept X.K c) := by
  intro f c' s H Q tl act hc h
  let Z := (cxOf C8.CX0 X.prog X.w X.K X.mg X.base Ng x sg g cdg X.A X.stack s H C8.E0).nox
  have hgl : Gl Z xs := hx
  have gt : ∀ (l : L2.St), l.length = Ng.length → ∀ v : V, (((l.set i (some v)).set j (some v)).set i none)[j]? = some (some v) := fun l hl v => by
    have hjl : j < l.length := by rw [hl]; exact (List.getElem?_eq_some_iff.mp hj).1
    rw [List.getElem?_set_ne hij, List.getElem?_set_self (by simpa using hjl)]
  refine ⟨_, pss_cons (ps_set (X := Z) (i := j) hN hj (Or.inl hy) pe_non (hf := .inr hy)) (pss_cons (ps_try_keep (X := Z) (i := i) (j := j) (c := c)
      (tb := fun W D σ H => ∃ Ech : XK, (∀ cls d σ' H', Ech cls d H' → σ'.length = Ng.length → W cls d σ' H') ∧ σ[0]? = some (some (.ref f)) ∧ H c' = some (CodeO c' q) ∧ tl Ech H fun _ H' => D.nx σ H')
      rfl rfl hN hi he hj hy hij ⟨hgl, hdx, .inl hmx⟩ LamX.takes0 (fun W pn xe tk _ => ?_) hde hdc) (pss_one (ps_ret (pe_var (i := j) hj (.inl hy) hdy hdyc)))), ?_⟩
  · refine ⟨fun pins s' σ H' D I h' => ?_⟩
    obtain ⟨Ech, hW, h1, h2, h3⟩ := h'
    have hp := act (fun cls d σ' H' => σ'.length = Ng.length → W cls d σ' H') pn xe Ech p4 p5 (takes_len tk) hW
    have hq := pss_one (ps_expr (pos := p6) hp)
    exact hq.run pins s' σ H' D I ⟨h1, h2, h3⟩
  · have hjl : j < (L2.start Ng [V.ref f]).length := by
      have h1 := (List.getElem?_eq_some_iff.mp hj).1
      have h2 : (L2.start Ng [V.ref f]).length = Ng.length := by
        show (([V.ref f]).map some ++ List.replicate (Ng.length - 1) none).length = _
        simp
        omega
      omega
    have eQ : (fun (_ : V) (H' : Hp) => tRet (tVar j) { nx := fun _ H' => Q .non H', rt := Q } ((L2.start Ng [V.ref f]).set j (some V.non)) H') = fun _ H' => Q .non H' := by
      funext v H'
      apply propext
      show (∃ v, ((L2.start Ng [V.ref f]).set j (some V.non))[j]? = some (some v) ∧ Q v H') ↔ _
      rw [List.getElem?_set_self hjl]
      exact ⟨fun ⟨v, e, z⟩ => by cases e; exact z, fun z => ⟨_, rfl, z⟩⟩
    have h' : tl (fun cls d H' => ∃ b, PySem.W.exmOne X.K cls c = some b ∧ (b = true → ∀ a, H' a = none → Q (.ref a) (upd H' a (exT cls d a))) ∧ (b = false → False)) H fun _ H' => Q .non H' := h
    rw [← eQ] at h'
    refine ⟨_, fun cls d σ' H' z hl => ?_, ?_, hc, h'⟩
    · obtain ⟨b, e1, e2, e3⟩ := z
      exact ⟨b, e1, fun hb a' ha => ⟨_, gt σ' hl _, e2 hb a' ha⟩, fun hb => e3 hb⟩
    · show ((L2.start Ng [V.ref f]).set j (some V.non))[0]? = _
      rw [List.getElem?_set_ne (Ne.symm h0j)]
      rfl
def evLam (P : Addr) (q : Str) (catch_ : Value → Option Bool) (f : ET) : ET := fun ρ S Q _ => S P = some (.tab q) ∧ f ρ S (fun _ S' => Q .non S') fun x S' => match catch_ x.cls with
  | some true => ∀ a, Q (.exn x.cls a x.ks x.xs) S'
  | _ => False
theorem e_lam {X : Cx} {W : WX} {x a : Str} {g cc P : Addr} {c : Value} {k : Nat} {pg : Arguments} {bg : List Stmt} {sg : Scope} {dV kV doc pm cdv ct oc : Value} {an od : Option Addr} {osl : Array (Option Value)} {Ng : List Str} {catch_ : Value → Option Bool} {f : ET}
    {params : Arguments} {body : Expr} {scope : Scope} {p lpos pos : Pos} (hg : Gl X x) (hm : X.mg x = some (.ref g)) (hk : PySem.W.keepIn X.K (.ref g) = true)
    (lk : X.K.lookup g = some ⟨oc, od, .func (PySem.W.fnOf x x pg bg sg dV kV doc pm an cdv ct), osl⟩) (hcg : PySem.W.codeIn X.K cdv x = true) (hb : L2.Binds X.K (PySem.W.fnOf x x pg bg sg dV kV doc pm an cdv ct) [a] []) (Sg : FnScope Ng [a] sg) (hNg : Ng[0]? = some a) (hva : Vis sg a)
    (hG : GivesTo X Ng x sg g cdv bg a (X.env.qual ++ "<lambda>") (TKept X.K c)) (hcatch : ∀ cls b, catch_ cls = some b → PySem.W.exmOne X.K cls c = some b)
    (TB : TabB X.base X.mg cc P) (hcode : X.env.code = .ref cc) (hr : Room (k + 2) X.A) (L : LamS X.env.scope scope) (hdef : defaultsOf params X.env = ([], []))
    (hbind : ∀ (q : Str) (cl : List (Str × Addr)) (pm cv ctv : Value), bindArgs (PySem.W.kla_fn "<lambda>" q params body scope cl pm cv ctv) ⟨[], []⟩ = pure [])
    (hbody : ∀ (A : Around) (outer : List PySem.Env) (s : Shared) (H : Hp) (E : XK) (fl c' : Addr), Room k (A.deeper (lamEnv X scope s.heap.objs.size fl c')) → PE (lamCx X A outer s H E scope fl c') body (rdE X.K (fun cls d _ H => E cls d H) f))
    (hdb : (x == ("__debug__" : Str)) = false := by decide) (hd : (a == ("__debug__" : Str)) = false := by decide) (hcd : (a == ("__classdict__" : Str)) = false := by decide) :
    PE X (.Call (.Name x p) [.Lambda params body scope lpos] [] pos) (rdE X.K W (evLam P (X.env.qual ++ "<lambda>") catch_ f)) := by
  refine ⟨fun pins s σ H Q I h => ?_⟩
  obtain ⟨ρ, S, Qd, Ed, hρ, hS, ⟨hP, hf⟩, lq, -⟩ := h
  let T : List (Addr × Str) := (List.range s.heap.objs.size).filterMap fun b => match S b with
    | some (.tab q) => some (b, q)
    | _ => none
  have inT : ∀ b q, S b = some (.tab q) → (b, q) ∈ T := fun b q e => by
    obtain ⟨ps, e1, -⟩ := hS b _ e
    have e2 : s.heap.get? b = some { cls := .none, data := .fields ps } := I.hok b _ e1
    exact List.mem_filterMap.mpr ⟨b, List.mem_range.mpr (Heap.lt_size e2), by simp only [e]⟩
  have ofT : ∀ z ∈ T, S z.1 = some (.tab z.2) := fun z hz => by
    obtain ⟨b, -, e⟩ := List.mem_filterMap.mp hz
    split at e
    · rename_i q eq
      cases e
      exact eq
    · cases e
  refine (pe_lamcall (T := T) (t := fun E => rdE X.K (fun cls d _ H => E cls d H) f) hg hm hk lk hcg hb Sg hNg hva hG TB hcode (inT P _ hP) (fun z hz e => ?_) hr L hdef hbind hbody hdb hd hcd).run pins s σ H Q I ⟨fun z hz => hS z.1 _ (ofT z hz), fun H1 eN T1 => ?_⟩
  · have h1 := ofT z hz
    rw [e, hP] at h1
    injection h1 with h1
    injection h1 with h1
    exact h1.symm
  have i1 : Imm H H1 := fun b o e m => eN b o e (nt_of m)
  have r1 : SRel X.K S H1 := fun b o e => by
    have z := hS b o e
    cases o with
    | tab q => exact T1 (b, q) (inT b q e)
    | lst ds => obtain ⟨xs, e1, rs⟩ := z; exact ⟨xs, eN b _ e1 (fun _ z => nomatch z), Rels.imm i1 _ _ rs⟩
    | dct ks ds => obtain ⟨xs, e1, l, rs⟩ := z; exact ⟨xs, eN b _ e1 (fun _ z => nomatch z), l, Rels.imm i1 _ _ rs⟩
    | ins C ks ds => obtain ⟨dx, xs, e1, e2, l, rs⟩ := z; exact ⟨dx, xs, eN b _ e1 (fun _ z => nomatch z), eN dx _ e2 (fun _ z => nomatch z), l, Rels.imm i1 _ _ rs⟩
  have ev : Evo S H S H1 := ⟨fun b o h _ nt => eN b o h nt, fun b n n2 => absurd n n2⟩
  refine ⟨ρ, S, fun _ S' => Qd .non S', _, hρ.imm i1, r1, hf, fun d S' v H' e r _ q => lq .non S' .non H' (ev.trans e) r rfl q, ?_⟩
  intro y S' cl dd H' e r ⟨ecl, vs, xa, l, rs⟩ q
  subst ecl
  cases ec : catch_ y.cls with
  | none => rw [ec] at q; exact q.elim
  | some bb =>
    rw [ec] at q
    cases bb with
    | false => exact q.elim
    | true =>
      refine ⟨true, hcatch _ _ ec, fun _ b hb => ?_, fun z => nomatch z⟩
      exact lq (.exn y.cls b y.ks y.xs) S' (.ref b) _ ((ev.trans e).trans (evo_new hb)) (r.upd_new hb) ⟨rfl, dd, vs, upd_same, (upd_imm hb).xd xa, l, Rels.imm (upd_imm hb) _ _ rs⟩ (q b)
theorem evLam_i {P : Addr} {qn : Str} {catch_ : Value → Option Bool} {f : ET} {ρ : MP.Env} {S : Store} {Q : Post} {E : XPost} (h : S P = some (.tab qn)) (q : f ρ S (fun _ S' => Q .non S') (fun x S' => match catch_ x.cls with
  | some true => ∀ a, Q (.exn x.cls a x.ks x.xs) S'
  | _ => False)) : evLam P qn catch_ f ρ S Q E := ⟨h, q⟩
end MP

set_option Elab.async false
set_option linter.all false
set_option maxRecDepth 100000
set_option maxHeartbeats 2100000
/-! MPSup: a class of errors whose __init__ says super().__init__(text), then sets fields. -/
namespace MP
open PySem PySem.Spec PySem.Calls PyProof.Rows L2 MP NdefX
/-- what the written part says of such a class -/
structure SupF (P : Program) (K : PySem.W.Frag) (cda cc C : Addr) : Prop where
  code : ∃ cl d vs sl file tf, K.lookup cda = some ⟨cl, d, .fields vs, sl⟩ ∧ vs[2]? = some (.str file tf) ∧ ((P.main.file : Str) == file) = true
  cell : ∃ cl d sl, K.lookup cc = some ⟨cl, d, .cell (some (.ref C)), sl⟩
  own : PySem.W.mroIn K C (.ref C) = some true
  top : (P.main.scope.names.lookup ("super" : Str)).isSome = false
  opq : PySem.W.nsIn K cStatics "thirdparty.any" = some none
  sup : PySem.W.ks_superIn K C C "__init__" = some (some (.builtin "ValueError.__init__"))
  ve : PySem.W.subIn K (.ref C) (.type "ValueError") = some true
/-- the bound __init__ called -/
theorem call_mw {X : Cx} {pins : List (Addr × Obj)} {σ : L2.St} {H : Hp} {s : Shared} {a C u : Addr} {us : List Value} {Q : Value → Shared → Prop} {E : Value → Shared → Prop} {A : Around} (T : OexC X.K C) (I : Inv X pins σ H s)
    (e : H a = some (exo a C none)) (hu : s.heap.get? u = some (PySem.W.kxs_mw "ValueError.__init__" a)) (hl : us.length ≤ sizeLine) (h : ∀ s', Inv X pins σ H s' → Q .none s') : wpAny (model X.prog X.w) A (call (.ref u) us) Q E s := by
  obtain ⟨nm, q, N, bs, bm, sn, sub, ab, col, dd, k0, k1, k2, k3, k5, hC, hbm⟩ := T.cls
  obtain ⟨t1, ho⟩ := exo_at I.hok e
  obtain ⟨hp, g, d, t, os⟩ := s
  refine wpAny_call (codeAny_of_tree ?_)
  show wpAny _ A.in1 (callAny (.ref u) ⟨us, []⟩) _ _ _
  simp only [callAny]
  refine wpAny_bind (wpAny_load hu ?_)
  simp only [PySem.W.kxs_mw, show (Value.type "method-wrapper" == Value.type "method" || Value.type "method-wrapper" == Value.type "builtin_function_or_method" || Value.type "method-wrapper" == Value.type "method-wrapper") = true by decide, if_true]
  refine PySem.W.KFB.if_so (by decide) ?_
  refine wpAny_bind (PySem.W.check_bound_init F.excBase_ValueError.toExcCallFacts (I.kIn _ _ hC) ho rfl ?_)
  refine wpAny_bind (wpAny_pure (wpAny_pure ?_))
  refine ⟨plainId_quiet F.excBase_ValueError.init.plain _, codeAny_builtin F.excBase_ValueError.initEntry ?_⟩
  rw [Around.under_plainId F.excBase_ValueError.init.plain _]
  wp_walk
  have eu : upd H a (exo a C none) = H := by
    funext b
    by_cases hb : b = a
    · rw [hb, upd_same, e]
    · rw [upd_ne hb]
  have fin : ∀ h' t2, (∀ b o, b ≠ a → hp.get? b = some o → h'.get? b = some o) → h'.get? a = some (PySem.HandSPX.excO C t2) → Q .none ⟨h', g, d, t, os⟩ := fun h' t2 k hx => by
    have J := I.write (t' := t) (x := a) (e := a) (o := exo a C none) (by rw [e]; exact True.intro) (.inl rfl) k ⟨_, hx⟩ (exo_ok hx)
    rw [eu] at J
    exact h _ J
  refine fin _ hp.objs.size (fun b o hb hbo => ?_) ?_
  · rw [Heap.get?_update_other _ _ (Ne.symm hb)]
    exact Heap.get?_push_of_some _ hbo
  · rw [Heap.get?_update_self _ (Heap.get?_push_of_some _ ho) rfl]
    rfl
/-- the statement super().__init__('text') -/
theorem sup_step {X : Cx} {pins : List (Addr × Obj)} {σ : L2.St} {H : Hp} {s : Shared} {q : Str} {scope : Scope} {L f cda cc C a : Addr} {body : List Stmt} {o : Obj} {fd : FuncData} {ar : Arg} {text : Str} {j : Nat} {p0 p1 p2 p3 p4 p5 : Pos}
    (hX : X.env = PySem.W.ksEnv q scope L f (.ref cda) cc) (I : Inv X pins σ H s) (T : OexC X.K C) (G : SupF X.prog X.K cda cc C) (lk : X.K.lookup f = some o) (hfd : o.data = .func fd) (hp : (fd.params.posonlyargs ++ fd.params.args).head? = some ar)
    (hm : X.mg "super" = none) (hk : scope.kind = .function) (hks : scope.names.lookup ("super" : Str) = some .globalImplicit) (hkc : scope.names.lookup ("__class__" : Str) = some .free) (hka : scope.names.lookup ar.arg = some .local)
    (hN : X.N[0]? = some ar.arg) (hσ : σ[0]? = some (some (.ref a))) (ha : H a = some (exo a C none)) {pl : Sem Bool}
    (he : eval (.Call (.Attribute (.Call (.Name "super" p0) [] [] p1) "__init__" p2) [.Constant (.str text) j p3] [] p4) (PySem.W.ksEnv q scope L f (.ref cda) cc) = (do
      let ov ← attributeBase (.Call (.Name "super" p0) [] [] p1) "__init__" (PySem.W.ksEnv q scope L f (.ref cda) cc) (eval (.Call (.Name "super" p0) [] [] p1) (PySem.W.ksEnv q scope L f (.ref cda) cc))
      standAt p2.atName
      let (ff, first) ← holding [ov] (getMethod ov "__init__" pl)
      callWith p4 ff first (backTo p4 (starEach [.Constant (.str text) j p3] (PySem.W.ksEnv q scope L f (.ref cda) cc))) []) := by rfl) :
    _root_.PySem.wpAt (model X.prog X.w) X.A (.func body (PySem.W.ksEnv q scope L f (.ref cda) cc)) (exec (.Expr (.Call (.Attribute (.Call (.Name "super" p0) [] [] p1) "__init__" p2) [.Constant (.str text) j p3] [] p4) p5) (PySem.W.ksEnv q scope L f (.ref cda) cc))
      (fun fl s' => fl = .next ∧ Inv X pins σ H s') X.xe s := by
  obtain ⟨ccl, cdd, vs, ccs, file, tf, hcode, hvs, hfile⟩ := G.code
  obtain ⟨cl, cld, csl, hcell⟩ := G.cell
  obtain ⟨nm, qq, NN, bs, bm, sn, sub, ab, col, dd, k0, k1, k2, k3, k5, hC, hbm⟩ := T.cls
  have hcl : PySem.W.clsIn X.K C = some { name := nm, bases := bs, mro := .ref C :: bm, ns := NN, qualname := qq, hasDict := true, slotNames := sn, subclasses := sub, abstract := ab, collection := col, hasDel := false } := by unfold PySem.W.clsIn; rw [hC] <;> rfl
  have KX := I.kIn
  obtain ⟨mb, hb1, hb2⟩ := I.mod.blt
  obtain ⟨m, hns, hloc⟩ := I.loc
  rw [hX] at hns hloc
  obtain ⟨u0, ru, hu⟩ := hloc 0 ar.arg (.ref a) hN hσ (.inl hka)
  obtain rfl : u0 = Value.ref a := ru
  have hma : m ar.arg = some (.ref a) := by
    rcases hu with ⟨_, z⟩ | ⟨z, _⟩
    · exact z
    · have z1 : scope.names.lookup ar.arg = some .cell ∨ scope.names.lookup ar.arg = some .free := z
      rw [hka] at z1
      rcases z1 with z1 | z1 <;> cases z1
  have hq := I.quiet
  rw [hX] at hq
  refine ks_wpAt_Expr_any (hi := hq) (ks_wpAt_MethodCall (he := he) (ks_wpAt_super_base (env := PySem.W.ksEnv q scope L f (.ref cda) cc) hks hkc rfl rfl (KX _ _ lk) hfd hp rfl (KX _ _ hcode) rfl hvs hfile G.top ?_))
  refine PySem.W.ks_loadName_global hk hks (Calls.loadGlobal_builtin (env := PySem.W.ksEnv q scope L f (.ref cda) cc) (I.mod.glob.keeps I.bk) hm (hb1.keeps I.bk) ((hb2 "super" (by decide)).trans (show bootBuiltins "super" = some (.type "super") from by decide +kernel)) ⟨rfl, ?_⟩)
  refine wpAny_loadName_free hk hkc rfl ⟨_, KX _ _ hcell, rfl⟩ ?_
  refine wpAny_loadName_local hk hka hns hma ?_
  obtain ⟨t1, ho⟩ := exo_at I.hok ha
  refine ks_wpAny_isType_cls (KX _ _ hC) rfl ⟨rfl, ?_⟩
  obtain ⟨hh, g, d, t, os⟩ := s
  refine ks_wpAny_call_super (KX _ _ hC) rfl ho rfl (fun c z => by cases z) (PySem.W.looks_mroIn KX G.own) (fun h1 e1 k1 => ?_)
  have I1 : Inv X pins σ H ⟨h1, g, d, t, os⟩ := I.kept (t' := t) k1
  have ho1 := k1 _ _ ho
  have KX1 := I1.kIn
  have hI : PySem.W.Looks (model X.prog X.w) h1 (isInstance (.ref a) (.type "ValueError")) true :=
    PySem.W.InstAt.type (ox := { cls := .ref C, dict := none, data := .fields #[.ref t1, .none, .none, .none, .bool false, .none] }) (od := none) ⟨ho1, rfl, rfl, trivial⟩ |>.andThen (PySem.W.looks_subIn KX1 G.ve)
  have hne : a ≠ C := PySem.W.ks_ne KX1 (ox := { cls := .ref C, dict := none, data := .fields #[.ref t1, .none, .none, .none, .bool false, .none] }) (odx := none) ⟨ho1, rfl, rfl, trivial⟩ hcl
  have hsp : PySem.W.alongIn X.K "__init__" (((Value.ref C :: bm).dropWhile (· != .ref C)).drop 1) = some (some (.builtin "ValueError.__init__")) := by
    have z := G.sup
    unfold PySem.W.ks_superIn at z
    rw [hcl] at z
    exact z
  refine PySem.W.kxs_getMethod PySem.W.kxs_ValueError e1 (PySem.W.looks_opaque KX1 G.opq) (l₀ := .ref C :: bm) (fun A Q E s k q => wpAny_bind ((PySem.W.looks_clsIn KX1 hcl) A _ E s k (wpAny_pure q))) rfl KX1 hsp hI hne rfl ?_
  have I2 : Inv X pins σ H ⟨h1.push (PySem.W.kxs_mw "ValueError.__init__" a), g, d, t + 1, os⟩ := I1.kept (t' := t + 1) fun b u e => Heap.get?_push_of_some _ e
  have hget : (h1.push (PySem.W.kxs_mw "ValueError.__init__" a)).get? h1.objs.size = some (PySem.W.kxs_mw "ValueError.__init__" a) := Heap.get?_push_at rfl rfl
  have I3 : Inv X ((h1.objs.size, PySem.W.kxs_mw "ValueError.__init__" a) :: pins) σ H ⟨h1.push (PySem.W.kxs_mw "ValueError.__init__" a), g, d, t + 1, os⟩ := I2.pins_of fun p hp => by
    rcases List.mem_cons.mp hp with rfl | hp
    · exact ⟨hget, I1.hok.fresh (Nat.le_refl _), fun z => absurd I1.lt (by rw [← z]; exact Nat.lt_irrefl _), I1.nofs (Nat.le_refl _), fun v z => by cases z⟩
    · exact I2.pin p (List.mem_append_right _ hp)
  show wpAny _ _ (callWith p4 (Value.ref h1.objs.size) [] (backTo p4 (starEach [Expr.Constant (.str text) j p3] (PySem.W.ksEnv q scope L f (.ref cda) cc))) []) _ _ _
  have pa : PA X [Expr.Constant (.str text) j p3] (tCons (tC (.str text)) tNil) := pa_cons pe_str pa_nil
  refine PySem.W.kxs_callWith (i := "ValueError.__init__") (x := a) rfl ?_
  have run := pa.run p4 _ _ σ H (fun vs H' => H' = H ∧ vs.length = 1) I3 ⟨rfl, rfl⟩
  rw [hX] at run
  refine evalArgs_plain (thn run fun us s4 ⟨vs, H4, I4, r4, e4, l4⟩ => ?_)
  subst e4
  obtain ⟨hu4, _⟩ := I4.pin (h1.objs.size, PySem.W.kxs_mw "ValueError.__init__" a) (List.mem_append_right _ List.mem_cons_self)
  refine ⟨hu4, call_mw T I4 ha hu4 (by show us.length ≤ sizeLine; rw [← Paired.length r4, l4, sizeLine_eq]; decide) fun s5 I5 => ⟨rfl, I5.pins_of fun p hp => I5.pin p (List.mem_append_right _ (List.mem_cons_of_mem _ ?_))⟩⟩
  exact hp
/-- self.f = f, for the parameters in their order from the i-th on -/
inductive Sets (me : Str) (N : List Str) (sc : Scope) : Nat → List Stmt → List Str → Prop
  | nil {i : Nat} : Sets me N sc i [] []
  | cons {i : Nat} {f y : Str} {r : List Stmt} {fs : List Str} {q1 q2 q3 q4 : Pos} (hy : N[i]? = some y) (hl : sc.names.lookup y = some .local) (h1 : (y == ("__debug__" : Str)) = false) (h2 : (y == ("__classdict__" : Str)) = false) (t : Sets me N sc (i + 1) r fs) :
    Sets me N sc i (.Assign [.Attribute (.Name me q1) f q2] (.Name y q3) q4 :: r) (f :: fs)
theorem upd_ba {H : Hp} {a d : Addr} {o1 o2 o3 : HO} (h : d ≠ a) : upd (upd (upd H d o1) a o2) d o3 = upd (upd H d o3) a o2 := by
  funext b
  by_cases hb : b = d
  · subst hb
    rw [upd_same, upd_ne h, upd_same]
  · by_cases hc : b = a
    · subst hc
      rw [upd_ne hb, upd_same, upd_same]
    · rw [upd_ne hb, upd_ne hc, upd_ne hb, upd_ne hc, upd_ne hb]
/-- what is wanted of the fields' statements: at first, and behind the first one -/
def tSets (C a : Addr) (H0 : Hp) (zs : List (Str × V)) (D : Ends) (σ : L2.St) (H : Hp) : Prop :=
  (∃ l d, H0 d = none ∧ d ≠ a ∧ H = upd (upd H0 d (exd d l)) a (exo a C (some d)) ∧ l.length + zs.length ≤ 900 ∧ D.nx σ (upd (upd H0 d (exd d (zs.reverse ++ l))) a (exo a C (some d)))) ∨
  (zs ≠ [] ∧ zs.length ≤ 900 ∧ H = H0 ∧ H0 a = some (exo a C none) ∧ ∀ d, H0 d = none → d ≠ a → D.nx σ (upd (upd H0 d (exd d zs.reverse)) a (exo a C (some d))))
theorem sets_ok {X : Cx} {me : Str} {C a : Addr} {H0 : Hp} (T : OexC X.K C) (hme : X.N[0]? = some me) (hml : X.env.scope.names.lookup me = some .local) (hm1 : (me == ("__debug__" : Str)) = false) (hm2 : (me == ("__classdict__" : Str)) = false) :
    ∀ {i : Nat} {r : List Stmt} {fs : List Str}, Sets me X.N X.env.scope i r fs → (∀ f ∈ fs, PySem.W.findIn X.K (.ref C) f = some none) →
      PSs X r (fun D σ H => ∃ ys, ys.length = fs.length ∧ σ[0]? = some (some (.ref a)) ∧ (∀ (k : Nat) (y : V), ys[k]? = some y → σ[i + k]? = some (some y)) ∧ tSets C a H0 (fs.zip ys) D σ H)
  | i, _, _, .nil, _ => PSs_imp pss_nil fun D σ H ⟨ys, hl, h0, hk, h⟩ => by
    rcases h with ⟨l, d, hd, hne, e, _, q⟩ | ⟨h, _⟩
    · subst e
      exact q
    · exact absurd rfl h
  | i, _, _, .cons (f := f) (y := y) (fs := fs) hy hl h1 h2 t, hno => by
    refine PSs_imp (pss_cons (ps_ost (pe_var (X := X) (i := 0) hme (.inl hml) hm1 hm2) (pe_var (X := X) (i := i) hy (.inl hl) h1 h2)) (sets_ok (a := a) (H0 := H0) T hme hml hm1 hm2 t fun g hg => hno g (List.mem_cons_of_mem _ hg))) fun D σ H ⟨ys, hl, h0, hk, h⟩ => ?_
    cases ys with
    | nil => cases hl
    | cons y0 ys =>
    have hl' : ys.length = fs.length := by simpa using hl
    have hk' : ∀ (k : Nat) (y : V), ys[k]? = some y → σ[i + 1 + k]? = some (some y) := fun k y e => by
      have z := hk (k + 1) y (by simpa using e)
      rw [show i + (k + 1) = i + 1 + k by omega] at z
      exact z
    have hy0 : σ[i]? = some (some y0) := hk 0 y0 rfl
    refine ⟨y0, hy0, .ref a, h0, a, C, rfl, T, hno f List.mem_cons_self, ?_⟩
    have hz : (f :: fs).zip (y0 :: ys) = (f, y0) :: fs.zip ys := rfl
    rw [hz] at h
    rcases h with ⟨l, d, hd, hne, e, hle, q⟩ | ⟨_, hle, e, ha, q⟩
    · subst e
      refine .inr ⟨d, l, upd_same, by rw [upd_ne hne, upd_same], by simp at hle; omega, ys, hl', h0, hk', .inl ⟨(f, y0) :: l, d, hd, hne, ?_, by simp at hle ⊢; omega, ?_⟩⟩
      · exact upd_ba hne
      · rw [List.reverse_cons, List.append_assoc] at q
        exact q
    · subst e
      refine .inl ⟨ha, fun d hd hne => ⟨ys, hl', h0, hk', .inl ⟨[(f, y0)], d, hd, hne, rfl, by simp at hle ⊢; omega, ?_⟩⟩⟩
      have z := q d hd hne
      rw [List.reverse_cons] at z
      exact z
/-- what C's __init__ keeps -/
def spSup (C : Addr) (fs : List Str) : Sp := fun vs H Q _ => ∃ a ys, vs = .ref a :: ys ∧ ys.length = fs.length ∧ H a = some (exo a C none) ∧ ∀ d, H d = none → d ≠ a → Q .non (upd (upd H d (exd d (fs.zip ys).reverse)) a (exo a C (some d)))
theorem sup_ok {CX : CXT} {P : Program} {w : World} {K : PySem.W.Frag} {mg : Str → Option Value} {base : Heap} {k : Nat} {f C cda cc : Addr} {name qual me text : Str} {params : Arguments} {rest : List Stmt} {scope : Scope} {dV kV doc pm ct oc : Value} {an od : Option Addr}
    {osl : Array (Option Value)} {N ps fs : List Str} {ar : Arg} {j : Nat} {p0 p1 p2 p3 p4 p5 : Pos} {pl : Sem Bool} {body : List Stmt}
    (lk : K.lookup f = some ⟨oc, od, .func (PySem.W.ksFn name qual params body scope dV kV doc pm an (.ref cda) ct cc), osl⟩)
    (hbd : body = .Expr (.Call (.Attribute (.Call (.Name "super" p0) [] [] p1) "__init__" p2) [.Constant (.str text) j p3] [] p4) p5 :: rest) (hcd : PySem.W.codeIn K (.ref cda) qual = true) (S : NScope N ps ["__class__"] scope)
    (T : OexC K C) (G : SupF P K cda cc C) (hm : mg "super" = none) (hks : scope.names.lookup ("super" : Str) = some .globalImplicit) (hp : (params.posonlyargs ++ params.args).head? = some ar) (har : ar.arg = me) (hme : N[0]? = some me) (hps : ps.length = fs.length + 1)
    (hm1 : (me == ("__debug__" : Str)) = false) (hm2 : (me == ("__classdict__" : Str)) = false) (hS : Sets me N scope 1 rest fs) (hno : ∀ f ∈ fs, PySem.W.findIn K (.ref C) f = some none) (hne : fs ≠ []) (hfl : fs.length ≤ 900)
    (he : ∀ env : PySem.Env, eval (.Call (.Attribute (.Call (.Name "super" p0) [] [] p1) "__init__" p2) [.Constant (.str text) j p3] [] p4) env = (do
      let ov ← attributeBase (.Call (.Name "super" p0) [] [] p1) "__init__" env (eval (.Call (.Name "super" p0) [] [] p1) env)
      standAt p2.atName
      let (ff, first) ← holding [ov] (getMethod ov "__init__" pl)
      callWith p4 ff first (backTo p4 (starEach [.Constant (.str text) j p3] env)) []) := by intros; rfl) :
    FnOk P w K mg base CX (k + 1) f (PySem.W.ksFn name qual params body scope dV kV doc pm an (.ref cda) ct cc) ps (spSup C fs) := by
  subst hbd
  refine ⟨fun vs H Q E ⟨a, ys, e, l, _⟩ => by subst e; rw [List.length_cons, l, hps], fun A outer s H args us vs Q E hr e0 hb r hsp => ?_⟩
  obtain ⟨a, ys, rfl, hl, ha, hq⟩ := hsp
  have KX : K.In s.heap := e0.mod.kin.keeps fun b o e => (e0.bs b o e).1
  have lim : s.heap.NoLimit := e0.mod.nolimit.keeps fun b o e => (e0.bs b o e).1
  have hpl : 0 < ps.length := by omega
  obtain ⟨cl, cld, csl, hcell⟩ := G.cell
  have hcb := e0.bs _ _ (e0.mod.kin _ _ hcell)
  let F : NF := { name := name, qual := qual, params := params, body := [], scope := scope, cl := [("__class__", cc)], c := cda }
  have hfc : ∀ {y : Str} {c : Addr}, ([(("__class__" : Str), cc)] : List (Str × Addr)).lookup y = some c → y = "__class__" ∧ c = cc := fun {y c} e => by
    have z := PySem.mem_of_lookup e
    simpa using z
  have CA : CellsAt F.cl ["__class__"] [some (.ref C)] s.heap H := {
    len := rfl
    all := fun y c e => by
      obtain ⟨_, rfl⟩ := hfc e
      exact ⟨hcb.2, _, _, hcb.1, rfl⟩
    inj := fun x y c e1 e2 => by rw [(hfc e1).1, (hfc e2).1]
    has := fun i y e => by
      cases i with
      | zero =>
        cases e
        exact ⟨cc, rfl, fun v z => by cases z; exact ⟨.ref C, rfl, _, hcb.1, rfl⟩⟩
      | succ i => simp at e }
  refine ks_codeAny_call_defAt (fd := PySem.W.ksFn name qual params _ scope dV kV doc pm an (.ref cda) ct cc) (binds := ps.zip us) hr.depth (KX _ _ lk) rfl lim (PySem.W.codeRec_of KX hcd) rfl hb S.nocell (fun ⟨n, _⟩ hy => S.par n (List.of_mem_zip hy).1) (fun h₁ hns kp => ?_) S.co S.gen S.kind
  have I : Inv (ncx CX P w K mg base N F f A outer s H E) [] (startF N (.ref a :: ys) [some (.ref C)]) H { s with heap := h₁, toks := s.toks + (ps.zip us).length } := inv_startN S hr.hd e0 (by rw [List.length_cons, hl, hps]) r CA hns kp
  have hka : scope.names.lookup me = some .local := by
    refine S.par me ?_
    have z : (N.take (ps.length + 1))[0]? = some me := by rw [List.getElem?_take_of_lt (by omega)]; exact hme
    have zp := S.pre
    rw [show (["__class__"] : List Str).length = 1 from rfl] at zp
    rw [zp, List.getElem?_append_left hpl] at z
    exact List.mem_of_getElem? z
  show _root_.PySem.wpAt (model P w) (A.deeper (PySem.W.ksEnv qual scope s.heap.objs.size f (.ref cda) cc)) (.func _ (PySem.W.ksEnv qual scope s.heap.objs.size f (.ref cda) cc)) (execs _ (PySem.W.ksEnv qual scope s.heap.objs.size f (.ref cda) cc)) _ _ _
  refine ks_wpAt_execs_cons (ks_wpAt_mono (sup_step (X := ncx CX P w K mg base N F f A outer s H E) (a := a) rfl I T G lk rfl hp hm S.kind hks (S.frk _ List.mem_cons_self) (by rw [har]; exact hka) (by rw [har]; exact hme) rfl ha (he := he _)) (fun fl s' ⟨e, J⟩ => ?_) fun _ _ z => z)
  subst e
  refine wpAt_of_wpAny ?_
  have body := sets_ok (X := ncx CX P w K mg base N F f A outer s H E) (a := a) (H0 := H) T hme hka hm1 hm2 hS hno
  refine wpAny_mono (body.run [] s' _ H { nx := fun _ H' => Q .non H', rt := Q } J ⟨ys, hl, rfl, fun k y e => ?_, .inr ⟨?_, ?_, rfl, ha, hq⟩⟩) (fun fl s2 hs => ?_) fun e s2 hs => hs
  · have hk : k < ys.length := (List.getElem?_eq_some_iff.mp e).1
    show (startF N (.ref a :: ys) [some (.ref C)])[1 + k]? = _
    unfold startF
    rw [List.getElem?_append_left (by rw [List.length_map, List.length_cons]; omega), List.getElem?_map, Nat.add_comm 1 k, List.getElem?_cons_succ, e]
    rfl
  · intro z
    cases fs with
    | nil => exact hne rfl
    | cons g gs =>
      cases ys with
      | nil => cases hl
      | cons y ys => cases z
  · rw [List.length_zip]; omega
  · cases fl with
    | ret u =>
      obtain ⟨v, σ', H', J2, rv, q⟩ := hs
      exact ⟨v, H', J2.os, J2.bare, J2.base, J2.hok, rv, q⟩
    | next =>
      obtain ⟨σ', H', J2, q⟩ := hs
      exact ⟨V.non, H', J2.os, J2.bare, J2.base, J2.hok, rfl, q⟩
    | brk =>
      obtain ⟨_, _, _, q⟩ := hs
      exact False.elim q
    | cont =>
      obtain ⟨_, _, _, q⟩ := hs
      exact False.elim q
theorem zip_rev {α β : Type} : ∀ {xs : List α} {ys : List β}, xs.length = ys.length → (xs.zip ys).reverse = xs.reverse.zip ys.reverse
  | [], [], _ => rfl
  | x :: xs, y :: ys, h => by
    have h1 : xs.length = ys.length := by simpa using h
    rw [List.zip_cons_cons, List.reverse_cons, List.reverse_cons, List.reverse_cons, zip_rev h1, List.zip_append (by simpa using h1)]
    rfl
theorem Rels.rev {K : PySem.W.Frag} {H : Hp} : ∀ {ds : List D} {vs : List V}, Rels K H ds vs → Rels K H ds.reverse vs.reverse
  | [], _, h => by have e : _ = [] := h; subst e; exact rfl
  | d :: ds, _, ⟨v, r, e, h, t⟩ => by
    subst e
    rw [List.reverse_cons, List.reverse_cons]
    exact Rels.append (Rels.rev t) (Rels.mk1 h)
/-- raise C(e, ..), C's __init__ keeping its parameters as fields (the last one first) -/
def dRaiseI (C : Addr) (fs : List Str) (fa : EA) : ST := fun ρ S N => fa ρ S (fun ds S' => N.ex { cls := .ref C, ks := fs.reverse, xs := ds.reverse } ρ S') (fun x S' => N.ex x ρ S')
theorem dRaiseI_i {C : Addr} {fs : List Str} {fa : EA} {ρ : MP.Env} {S : Store} {N : DEnds} (q : fa ρ S (fun ds S' => N.ex { cls := .ref C, ks := fs.reverse, xs := ds.reverse } ρ S') (fun x S' => N.ex x ρ S')) : dRaiseI C fs fa ρ S N := q
theorem s_raise_init {X : Cx} {W : WX} {x : Str} {C fI : Addr} {k n : Nat} {fd : FuncData} {ps fs : List Str} {e : Expr} {es : List Expr} {fa : EA} {p pos pos2 : Pos} (hc : X.calm = true) (tk : Takes X W) (T : OexC X.K C) (iC : PySem.W.findIn X.K (.ref C) "__init__" = some (some (.ref fI)))
    (tI : PySem.W.typeIn X.K (.ref fI) = some (.type "function")) (F1 : FnOk X.prog X.w X.K X.mg X.base (L2.CX X.prog X.w) k fI fd ps (spSup C fs)) (hr : Room (k + 1) X.A) (hb : Binds X.K fd ps []) (hg : Gl X x) (hm : X.mg x = some (.ref C))
    (ha : PA X (e :: es) (rdA X.K W n fa)) (hn : n = fs.length) (hfl : fs.length ≤ 900) (hne : fs ≠ []) (hdb : (x == ("__debug__" : Str)) = false := by decide) (he : starEach (e :: es) X.env = (false, eval e X.env) :: starEach es X.env := by rfl)
    (hpl : (backTo pos (starEach es X.env)).any (·.1) = false := by rfl) :
    PS X (.Raise (some (.Call (.Name x p) (e :: es) [] pos)) none pos2) (rdS X.K W (dRaiseI C fs fa)) :=
  PS_imp (ps_raise hc tk (pmk_oex (dvs := []) (ds := []) T iC tI F1 hr hb .nil (passes_call tk fun _ _ _ _ z => z.elim) hg hm ha hdb he hpl)) fun D σ H ⟨ρ, S, N, hρ, hS, hf, l⟩ => by
    refine ⟨ρ, S, _, _, hρ, hS, hf, fun ds S1 vs H1 e1 r1 q1 hl h1 => ?_, l.lx hS hρ⟩
    have hvl : vs.length = fs.length := by rw [← q1.length, hl, hn]
    refine ⟨by omega, fun a ha => ⟨a, vs, by rw [List.append_nil], hvl, upd_same, fun d hd hda => ?_⟩⟩
    have hd1 : H1 d = none := by rwa [upd_ne hda] at hd
    refine ⟨rfl, d, _, upd_same, by rw [upd_ne hda, upd_same], hd1, ?_⟩
    have eh : ∀ (o1 o2 o3 o4 : HO), upd (L2.del (upd (upd (upd H1 a o1) d o2) a o3) a) d o4 = upd H1 d o4 := fun o1 o2 o3 o4 => by
      funext b
      by_cases hb : b = d
      · rw [hb, upd_same, upd_same]
      · rw [upd_ne hb, upd_ne hb]
        by_cases hb2 : b = a
        · rw [hb2, del_same, ha]
        · rw [del_ne hb2, upd_ne hb2, upd_ne hb, upd_ne hb2]
    rw [eh]
    refine l.ex _ ρ S1 (.ref C) (some d) σ _ (e1.trans (evo_new hd1)) (r1.upd_new hd1) ((hρ.imm (e1.imm hS)).imm (upd_imm hd1)) ⟨rfl, vs.reverse, .inr ⟨d, rfl, ?_, ?_⟩, ?_, (Rels.imm (upd_imm hd1) _ _ q1).rev⟩ h1
    · intro z
      exact hne (by simpa using z)
    · rw [upd_same, zip_rev hvl.symm]
    · rw [List.length_reverse, List.length_reverse, hl, hn]
end MP

set_option Elab.async false
set_option linter.all false
set_option maxRecDepth 100000
set_option maxHeartbeats 2100000
/-! MPTab: the law's row where defs make lambdas: their code objects' tables are known to be empty at the start. -/
namespace MP
open PySem PySem.Spec PyProof.Rows L2 MP
/-- the script and the tables alone are known -/
def OnlyT (ps : List Addr) (H : Hp) : Prop := ∀ b, b ∉ ps → H b = none ∨ ∃ o xs, H b = some (.frz o (.lst xs))
abbrev noTab : Obj := { cls := .none, data := .fields #[] }
section
variable {P : Program} {w : World} {K : PySem.W.Frag} {mg mb : Str → Option Value} {CX : CXT} {k : Nat} {fa a : Addr} {fd : FuncData} {x : Str} {sp : L2.Sp} {s1 : Shared} {vs : List Value} {ns : List Int} {ts : List (Addr × Addr)}
theorem start_heap (P : Program) (w : World) (KX : K.In s1.heap) (ha : s1.heap.get? a = some { cls := .type "list", data := .seq vs.toArray }) (hi : IntsAre vs ns) (hl : ns.length ≤ sizeLine) (ps : List Addr) (hT : ∀ p ∈ ps, s1.heap.get? p = some noTab) :
    ∃ H : Hp, OnlyT ps H ∧ (∀ p ∈ ps, H p = some (.tbl #[])) ∧ SqL K H a (ns.map V.int) ∧ HOk P w H s1.heap ∧ (∀ b, H b ≠ none → (b = a ∧ K.lookup a = none) ∨ b ∈ ps) := by
  have rv := vals_ints hi
  have off : a ∉ ps := fun z => by
    have y := hT a z
    rw [ha] at y
    exact nomatch (congrArg Obj.data (Option.some.inj y) : Data.seq vs.toArray _ = Data.fields #[])
  cases hk : K.lookup a with
  | some o =>
    have e := KX a o hk
    rw [ha] at e
    have eo := Option.some.inj e
    subst eo
    refine ⟨fun b => if b ∈ ps then some (.tbl #[]) else none, fun b n => .inl (if_neg n), fun p h => if_pos h, .inr ⟨_, vs.toArray, _, hk, rfl, rfl, rfl, ?_, by simpa using rv⟩, ?_, ?_⟩
    · rw [List.size_toArray]
      exact hi.length.symm ▸ hl
    · intro b u z
      by_cases h : b ∈ ps
      · have z' := (if_pos h).symm.trans z
        have eu := Option.some.inj z'
        subst eu
        exact hT b h
      · exact nomatch (if_neg h).symm.trans z
    · intro b z
      by_cases h : b ∈ ps
      · exact .inr h
      · exact absurd (if_neg h) z
  | none =>
    let it : HO := .frz { cls := .type "list", data := .seq vs.toArray } (.lst (ns.map V.int))
    let H : Hp := fun b => if b ∈ ps then some (.tbl #[]) else if b = a then some it else none
    have at_a : H a = some it := (if_neg off).trans (if_pos rfl)
    have at_p : ∀ p ∈ ps, H p = some (.tbl #[]) := fun p h => if_pos h
    have at_n : ∀ b, b ∉ ps → b ≠ a → H b = none := fun b h1 h2 => (if_neg h1).trans (if_neg h2)
    refine ⟨H, fun b n => ?_, at_p, .inl (.inr ⟨_, at_a⟩), fun b u z => ?_, fun b z => ?_⟩
    · by_cases h : b = a
      · exact .inr ⟨_, _, by rw [h]; exact at_a⟩
      · exact .inl (at_n b n h)
    · by_cases h : b ∈ ps
      · have eu := Option.some.inj ((at_p b h).symm.trans z)
        subst eu
        exact hT b h
      · by_cases h2 : b = a
        · subst h2
          have eu := Option.some.inj (at_a.symm.trans z)
          subst eu
          exact ⟨ha, (List.length_map ..).symm ▸ hl, vs, _, rv, ha⟩
        · exact nomatch (at_n b h h2).symm.trans z
    · by_cases h : b ∈ ps
      · exact .inr h
      · by_cases h2 : b = a
        · exact .inl ⟨h2, rfl⟩
        · exact absurd (at_n b h h2) z
theorem quiet_callT (KX : K.In s1.heap) (hns : s1.heap.Ns mainGlobals mg) (hb : s1.heap.Ns builtinsNs mb) (hbb : ∀ x : Str, x ≠ "__name__" → mb x = bootBuiltins x) (noLim : s1.heap.NoLimit) (noGen : s1.gens = #[])
    (hT : ∀ p ∈ ts, s1.heap.get? p.2 = some noTab) (nT : ∀ p ∈ ts, K.lookup p.2 = none) (hC : ∀ p ∈ ts, PySem.W.CodeHd s1.heap p.1 p.2)
    (hbm : ∃ (bm : Addr) (ob : Obj), mg "__builtins__" = some (.ref bm) ∧ bm ≠ builtinsNs ∧ s1.heap.get? bm = some ob ∧ ob.cls = .type "module" ∧ ob.dict = some builtinsNs ∧ ob.data = .plain)
    (ha : s1.heap.get? a = some { cls := .type "list", data := .seq vs.toArray }) (hi : IntsAre vs ns) (hl : ns.length ≤ sizeLine) (hr : Room k callerA)
    (F : ∀ base : Heap, K.In base → base.Ns mainGlobals mg → (∀ p ∈ ts, LamX.TabB base mg p.1 p.2) → Quiet P w K mg base CX k fa fd [x] sp) (hbind : ∀ (s : Shared) (u : Value), BindsTo s fd ⟨[u], []⟩ [(x, u)])
    (holds : ∀ H : Hp, OnlyT (ts.map (·.2)) H → (∀ p ∈ ts, H p.2 = some (.tbl #[])) → SqL K H a (ns.map V.int) → sp [.ref a] H (fun v _ => v = .bl true) fun _ _ _ => False)
    (hCX : ∀ H e s', CX [] H s1 (fun _ _ _ => False) e s' → False) :
    codeAny (model P w) callerA (.call (.ref fa) ⟨[.ref a], []⟩) (fun r s' => r = .ok (.ret (.bool true)) ∧ OldK s1.heap s'.heap ∧ s'.os = s1.os ∧ AllBare s'.gens) s1 := by
  have toP : ∀ p ∈ ts, p.2 ∈ ts.map (·.2) := fun p hp => List.mem_map.mpr ⟨p, hp, rfl⟩
  have ofP : ∀ b ∈ ts.map (·.2), ∃ p ∈ ts, p.2 = b := fun b hb => let ⟨p, hp, e⟩ := List.mem_map.mp hb; ⟨p, hp, e⟩
  obtain ⟨H, hO, hP, hS, hok, hA⟩ := start_heap P w KX ha hi hl (ts.map (·.2)) fun b hb => let ⟨p, hp, e⟩ := ofP b hb; e ▸ hT p hp
  have hP2 : ∀ p ∈ ts, H p.2 = some (.tbl #[]) := fun p hp => hP _ (toP p hp)
  -- what is neither a list nor an empty record is in the base
  have free : ∀ {b : Addr} {o : Obj}, s1.heap.get? b = some o → (∀ vs n, o.data ≠ .seq vs n) → o.data ≠ .fields #[] → H b = none := fun {b o} e h1 h2 => Classical.byContradiction fun z => by
    rcases hA b z with ⟨eb, _⟩ | hb
    · subst eb
      rw [ha] at e
      cases e
      exact h1 _ _ rfl
    · obtain ⟨p, hp, e2⟩ := ofP b hb
      subst e2
      rw [hT p hp] at e
      cases e
      exact h2 rfl
  have nsB : ∀ {b : Addr} {m : Str → Option Value}, s1.heap.Ns b m → (hidT s1.heap H).Ns b m := fun ⟨o, es, ep, e, d, r⟩ => ⟨o, es, ep, hidT_get e (free e (fun vs n z => by rw [d] at z; cases z) fun z => by rw [d] at z; cases z), d, r⟩
  have inB : K.In (hidT s1.heap H) := fun b o e => hidT_get (KX b o e) (Classical.byContradiction fun z => by
    rcases hA b z with ⟨eb, en⟩ | hb
    · subst eb
      rw [en] at e
      exact nomatch e
    · obtain ⟨p, hp, e2⟩ := ofP b hb
      subst e2
      rw [nT p hp] at e
      exact nomatch e)
  have md : Mod K mg (hidT s1.heap H) := ⟨inB, nsB hns, ⟨mb, nsB hb, hbb⟩, let ⟨mc, h1, h2⟩ := noLim; ⟨mc, nsB h1, h2⟩⟩
  have tb : ∀ p ∈ ts, LamX.TabB (hidT s1.heap H) mg p.1 p.2 := fun p hp => by
    refine ⟨?_, ?_, fun z => ?_⟩
    · obtain ⟨o, us, file, tf, flags, tg, inF, text, tt, e1, r1, r2, r3, r⟩ := hC p hp
      refine ⟨o, us, file, tf, flags, tg, inF, text, tt, hidT_get e1 (free e1 (fun vs n z => ?_) fun z => ?_), r1, r2, r3, r⟩
      · rw [r2] at z; cases z
      · rw [r2] at z
        cases z
        simp at r3
    · obtain ⟨bm, ob, b1, b2, b3, b4, b5, b6⟩ := hbm
      refine ⟨bm, ob, b1, b2, fun q => ?_, fun q => ?_, hidT_get b3 (free b3 (fun vs n z => ?_) fun z => ?_), b4, b5, b6⟩
      · obtain ⟨o, es, ep, e, hd, _⟩ := hns
        rw [q, e] at b3
        cases b3
        rw [hd] at b6
        cases b6
      · rw [q, hT p hp] at b3
        cases b3
        cases b6
      · rw [b6] at z; cases z
      · rw [b6] at z; cases z
    · obtain ⟨o, es, ep, e, hd, _⟩ := hns
      rw [z, hT p hp] at e
      cases e
      cases hd
  have e0 : Env0 P w K mg (hidT s1.heap H) callerA [] s1 H := ⟨rfl, md, fun b o e => of_hidT e, Nat.le_of_eq (hidT_size _ _), trivial, (fun b hb => absurd (show b ∈ ([] : List Addr) from hb) List.not_mem_nil), hok, .of_eq noGen⟩
  apply codeAny_mono (F _ inB (nsB hns) tb callerA rfl [] s1 H ⟨[.ref a], []⟩ [.ref a] [.ref a] _ _ hr e0 (hbind s1 (.ref a)) (.cons rfl .nil) (holds H hO hP2 hS))
  intro r s' h
  match r, h with
  | .error e, h => exact (hCX H e s' h).elim
  | .ok .next, h => exact h.elim
  | .ok .brk, h => exact h.elim
  | .ok .cont, h => exact h.elim
  | .ok (.ret u), ⟨v, H', os, bare, un, hok', r', q⟩ =>
    have ev : v = .bl true := q
    subst ev
    have eu : u = Value.bool true := r'
    subst eu
    have same : ∀ b o, b ∉ ts.map (·.2) → s1.heap.get? b = some o → s'.heap.get? b = some o := fun b o nb e => by
      cases q : H b with
      | none => exact un.keep b o e q (fun z => by cases (z : b ∈ ([] : List Addr))) (fun z => by cases z)
      | some u =>
        rcases hO b nb with z | ⟨ob, ys, z⟩
        · rw [q] at z
          cases z
        · have ⟨e1, _⟩ := hok b _ z
          have ⟨e2, _⟩ := hok' b _ (un.frzs b ob _ z)
          rw [e] at e1
          rw [Option.some.inj e1]
          exact e2
    have more : ∀ p ∈ ts, ∃ ps : Array Value, s'.heap.get? p.2 = some { cls := .none, data := .fields ps } := fun p hp => by
      obtain ⟨m, z⟩ := un.tbls p.2 #[] (hP2 p hp)
      exact ⟨_, hok' p.2 _ z⟩
    refine ⟨rfl, ⟨fun b o e => ?_, fun b o e => ?_⟩, os, bare⟩
    · by_cases hb : b ∈ ts.map (·.2)
      · obtain ⟨p, hp, eb⟩ := ofP b hb
        subst eb
        obtain ⟨ps, hm⟩ := more p hp
        rw [hT p hp] at e
        cases e
        exact .inr (.inl ⟨((hC p hp).tab (hT p hp)).isCodeTable, rfl, #[], ps, rfl, by rw [Array.empty_append]; exact hm⟩)
      · exact .inl (same b o hb e)
    · by_cases hb : b ∈ ts.map (·.2)
      · obtain ⟨p, hp, eb⟩ := ofP b hb
        subst eb
        obtain ⟨ps, hm⟩ := more p hp
        exact ⟨_, hm⟩
      · exact ⟨o, same b o hb e⟩
end
/-- what the head knows of all defs' tables -/
def TabT (q : Program) (mg : Str → Option Value) (h : Heap) : Prop := ∀ d ∈ recsOf q, ∃ a o fd c P, mg d.name = some (.ref a) ∧ h.get? a = some o ∧ o.data = .func fd ∧ fd.code = .ref c ∧ h.IsCode c P #[] ∧ h.TableAt c P #[]
theorem tab_at {q : Program} {mg : Str → Option Value} {h : Heap} {K : PySem.W.Frag} {x : Str} {f c P : Addr} {oc e : Value} {od dd : Option Addr} {osl sl : Array (Option Value)} {fd : FuncData} {us : Array Value} (T : TabT q mg h) (X : K.In h) (hm : mg x = some (.ref f)) (hrec : ((recsOf q).any fun e => e.name == x) = true)
    (lk : K.lookup f = some ⟨oc, od, .func fd, osl⟩) (hcd : fd.code = .ref c) (lc : K.lookup c = some ⟨e, dd, .fields us, sl⟩) (hP : us[11]? = some (.ref P)) : PySem.W.CodeHd h c P ∧ h.get? P = some noTab := by
  obtain ⟨d, hd, hn⟩ := List.any_eq_true.mp hrec
  have hn2 : d.name = x := beq_iff_eq.mp hn
  obtain ⟨a', o', fd', c', P', h1, h2, h3, h4, h5, h6⟩ := T d hd
  rw [hn2, hm] at h1
  cases h1
  rw [X _ _ lk] at h2
  cases h2
  cases h3
  rw [hcd] at h4
  cases h4
  have h6' := h6
  obtain ⟨⟨oo, vc, e1, _, e3, e4⟩, hp⟩ := h6'
  rw [X _ _ lc] at e1
  cases e1
  cases e3
  rw [hP] at e4
  cases e4
  exact ⟨PySem.W.CodeHd.of h5 h6, hp⟩
/-- what the law's def must promise at the head's heap h -/
def LawQ (l : PySem.W.OpenLaw) (w : World) (K : PySem.W.Frag) (k n : Nat) (x : Str) (mg : Str → Option Value) (fa : Addr) (h : Heap) : Prop :=
  ∃ (fd : FuncData) (ts : List (Addr × Addr)) (sp : L2.Sp), (∀ p ∈ ts, PySem.W.CodeHd h p.1 p.2 ∧ h.get? p.2 = some noTab) ∧ (∀ p ∈ ts, K.lookup p.2 = none) ∧ (∀ (s : Shared) (u : Value), BindsTo s fd ⟨[u], []⟩ [(x, u)]) ∧
    (∀ (H : Hp) (a : Addr) (ns : List Int), ns.length ≤ n → (∀ z ∈ ns, Builtin.Int.intBits z ≤ 1048576) → OnlyT (ts.map (·.2)) H → (∀ p ∈ ts, H p.2 = some (.tbl #[])) → SqL K H a (ns.map V.int) → sp [.ref a] H (fun v _ => v = .bl true) fun _ _ _ => False) ∧
    ∀ base : Heap, K.In base → base.Ns mainGlobals mg → (∀ p ∈ ts, LamX.TabB base mg p.1 p.2) → Quiet l.prog w K mg base (L2.CX l.prog w) k fa fd [x] sp
theorem walk_quietT {l : PySem.W.OpenLaw} {n k : Nat} {q : Program} {loose : List Str} {XP : (Str → Option Value) → Heap → Prop} {YP : World → Heap → Prop} {d : DefRec} {K : Params → PySem.W.Frag} {x : Str}
    (hn : l.most = some n) (hn2 : n ≤ sizeLine) (hdf : d.params.defaults = []) (hr : Room k callerA) (inK : ∀ (w : World) (h : Heap), YP w h → (K w.params).In h)
    (F : ∀ (w : World) (mg : Str → Option Value) (fa : Addr) (h : Heap), (K w.params).In h → h.Ns mainGlobals mg → TabT q mg h → mg d.name = some (.ref fa) → LawQ l w (K w.params) k n x mg fa h) : PySem.W.WalkO q loose XP YP (l.row.toRowW) d [] (fun f vs => PySem.call f vs) := by
  refine Att.attach_callB hn hdf fun w s₀ s₁ mg mb fa o pm cd doc a vs ns G Y ho hd hcd hmg hobj hints hlen hbits hg => ?_
  have KX := inK w _ Y
  obtain ⟨fd, ts, sp, hC, nT, hb, hsp, hF⟩ := F w mg fa _ KX G.T.g G.T.tab hmg
  refine quiet_callT KX G.T.g G.T.b G.T.builtins G.T.nolimit hg (fun p hp => (hC p hp).2) nT (fun p hp => (hC p hp).1) G.T.bmain hobj hints (Nat.le_trans hlen hn2) hr hF hb (fun H hO hP hS => hsp H a ns hlen hbits hO hP hS) fun H e s' z => ?_
  obtain ⟨_, _, _, _, _, _, _, _, _, _, _, _, z⟩ := z
  exact z
/-- the store that shows the tables -/
def tabS (ts : List (Addr × Str)) : Store := fun a => (ts.lookup a).map SO.tab
theorem tab_mem {a : Addr} {q : Str} : ∀ {ts : List (Addr × Str)}, ts.lookup a = some q → (a, q) ∈ ts
  | [], h => nomatch h
  | (b, y) :: r, h => by
    by_cases e : a = b
    · subst e
      rw [List.lookup_cons_self] at h
      cases h
      exact List.mem_cons_self
    · have e2 : (a == b) = false := by simpa using e
      rw [List.lookup_cons, e2] at h
      exact List.mem_cons_of_mem _ (tab_mem h)
theorem tabS_rel {K : PySem.W.Frag} {H : Hp} {ts : List (Addr × Str)} (h : ∀ p ∈ ts, H p.1 = some (.tbl #[])) : SRel K (tabS ts) H := fun a o e => by
  obtain ⟨q, e1, e2⟩ := Option.map_eq_some_iff.mp e
  subst e2
  exact ⟨#[], h (a, q) (tab_mem e1), trivial, fun pos cv z => by simp [codeAmong] at z⟩
end MP

set_option Elab.async false
set_option linter.all false
set_option maxRecDepth 100000
set_option maxHeartbeats 2100000
/-! MPPlus: is of bools, sorted texts, join, name += e, a field of a kept error, a lambda's maker. -/
namespace MP
open PySem PySem.Spec PyProof.Rows L2 MP
/-! ### is, is not: None, bools -/
def isG (f : Bool → Bool) : G2 := fun x y S Q => match y with
  | .non => Q (.bl (f (isNon x))) S
  | .bl b => match x with
    | .bl a => Q (.bl (f (decide (a = b)))) S
    | _ => False
  | _ => False
def gIsA : G2 := isG fun b => b
def gIsnA : G2 := isG fun b => !b
def rIsA : R2 := fun x y H Q => rIsN x y H Q ∨ rIsB x y H Q
def rIsnA : R2 := fun x y H Q => rIsnN x y H Q ∨ rNotB x y H Q
theorem op_isAA {X : Cx} : OpR X (compareOp .Is) rIsA := OpR.or op_isN op_isBl
theorem op_isnAA {X : Cx} : OpR X (compareOp .IsNot) rIsnA := OpR.or op_notN op_notBl
theorem d_isAA {K : PySem.W.Frag} : OpD K rIsA gIsA := by
  intro x y S H dx dy Qd Q hS rx ry h l
  unfold gIsA isG at h
  split at h
  · exact .inl ⟨ry, by rw [isNon_rel rx]; exact l.fz hS (d := .bl _) rfl h⟩
  · split at h
    · exact .inr ⟨_, _, rx, ry, l.fz hS (d := .bl _) rfl h⟩
    · exact h.elim
  · exact h.elim
theorem d_isnAA {K : PySem.W.Frag} : OpD K rIsnA gIsnA := by
  intro x y S H dx dy Qd Q hS rx ry h l
  unfold gIsnA isG at h
  split at h
  · exact .inl ⟨ry, by rw [isNon_rel rx]; exact l.fz hS (d := .bl _) rfl h⟩
  · split at h
    · exact .inr ⟨_, _, rx, ry, l.fz hS (d := .bl _) rfl h⟩
    · exact h.elim
  · exact h.elim
theorem bools_isAA : Bools rIsA := fun x y H Q h => h.elim (fun z => .inl ⟨z.1, fz_bl z.2⟩) fun ⟨a, b, e1, e2, z⟩ => .inr ⟨a, b, e1, e2, fz_bl z⟩
theorem bools_isnAA : Bools rIsnA := fun x y H Q h => h.elim (fun z => .inl ⟨z.1, fz_bl z.2⟩) fun ⟨a, b, e1, e2, z⟩ => .inr ⟨a, b, e1, e2, fz_bl z⟩
/-! ### texts in a row -/
def strs? : List D → Option (List Str)
  | [] => some []
  | .str x :: r => (strs? r).map (x :: ·)
  | _ :: _ => none
theorem strs_map : ∀ zs : List Str, strs? (zs.map D.str) = some zs
  | [] => rfl
  | z :: r => by show (strs? (r.map D.str)).map (z :: ·) = _; rw [strs_map r]; rfl
theorem strs_cons {d : D} {ds : List D} {zs : List Str} (e : strs? (d :: ds) = some zs) : ∃ x us, d = .str x ∧ strs? ds = some us ∧ zs = x :: us := by
  unfold strs? at e
  split at e
  · rename_i h; cases h
  · rename_i x r h
    cases h
    obtain ⟨us, e2, e3⟩ := Option.map_eq_some_iff.mp e
    exact ⟨x, us, rfl, e2, e3.symm⟩
  · cases e
theorem strs_rel {K : PySem.W.Frag} {H : Hp} : ∀ {ds : List D} {vs : List V} {zs : List Str}, Rels K H ds vs → strs? ds = some zs → vs = zs.map V.str := by
  intro ds
  induction ds with
  | nil =>
    intro vs zs r e
    have e' : some [] = some zs := e
    cases e'
    exact r
  | cons d ds ih =>
    intro vs zs r e
    obtain ⟨x, us, rfl, e2, rfl⟩ := strs_cons e
    obtain ⟨v, r, e1, h, t⟩ := r
    subst e1
    have ev : v = V.str x := h
    rw [ev, ih t e2]
    rfl
theorem rels_strs {K : PySem.W.Frag} {H : Hp} : ∀ zs : List Str, Rels K H (zs.map D.str) (zs.map V.str)
  | [] => rfl
  | z :: r => ⟨.str z, r.map V.str, rfl, rfl, rels_strs r⟩
def lstW (d : D) : Option (List D) := match d with
  | .lst xs => some xs
  | .kls xs => some xs
  | _ => none
theorem lstW_rel {K : PySem.W.Frag} {S : Store} {H : Hp} {d : D} {v : V} {xs : List D} (hS : SRel K S H) (r : Rel K H d v) (e : lstW (vw d S) = some xs) : ∃ a vs, v = .ref a ∧ SqL K H a vs ∧ Rels K H xs vs := by
  unfold lstW at e
  split at e
  · rename_i ys ey
    cases e
    obtain ⟨a, vs, ea, ha, rs⟩ := vw_lst hS r ey
    exact ⟨a, vs, ea, .inl ha, rs⟩
  · rename_i ys ey
    cases e
    obtain ⟨a, vs, ea, ha, rs⟩ := vw_kls hS r ey
    exact ⟨a, vs, ea, ha, rs⟩
  · cases e
/-- sorted of a list of texts -/
def gSortS (mk : MkT) : GA := fun ds S Q => match ds with
  | [d] => match (lstW (vw d S)).bind strs? with
    | some zs => zs.length < 64 ∧ ∀ ys : List Str, ys.Perm zs → sortedS ys = true → mk (ys.map D.str) S Q
    | none => False
  | _ => False
theorem d_sortS {K : PySem.W.Frag} {mk : MkT} (hm : MkOk K mk) : CallD K (rSortedS K) (gSortS mk) := by
  intro xs S H ds Qd Q hS r h l
  unfold gSortS at h
  split at h
  · obtain ⟨v, rfl, rv⟩ := rels1 r
    split at h
    · rename_i zs e
      obtain ⟨ys, e1, e2⟩ := Option.bind_eq_some_iff.mp e
      obtain ⟨a, vs, ea, ha, rs⟩ := lstW_rel hS rv e1
      have ev := strs_rel rs e2
      subst ev
      exact ⟨a, zs, by rw [ea], ha, h.1, fun us p pm so hp => hm _ _ _ _ _ _ _ hS hp (rels_strs us) (h.2 us pm so) l⟩
    · exact h.elim
  · exact h.elim
/-- 'x'.join(texts) -/
def mJoin : GM := fun x ds S Q => match x, ds with
  | .str a, [d] => match (seqW (vw d S)).bind strs? with
    | some zs => (zs.map (·.length)).sum + zs.length * a.length ≤ 16777216 ∧ Q (.str (Txt.join a zs)) S
    | none => False
  | _, _ => False
def rJoin (K : PySem.W.Frag) : V → List V → Hp → VK → Prop := fun x xs H Q => ∃ a p, ∃ ys : List Str, x = .str a ∧ xs = [.ref p] ∧ (SqL K H p (ys.map V.str) ∨ SqT K H p (ys.map V.str)) ∧ (ys.map (·.length)).sum + ys.length * a.length ≤ 16777216 ∧ Q (.str (Txt.join a ys)) H
theorem m_join {K : PySem.W.Frag} : MtD K (rJoin K) mJoin := by
  intro x xs S H d ds Qd Q hS rx rs h l
  unfold mJoin at h
  split at h
  · rename_i a d1
    obtain ⟨v, rfl, rv⟩ := rels1 rs
    split at h
    · rename_i zs e
      obtain ⟨ys, e1, e2⟩ := Option.bind_eq_some_iff.mp e
      obtain ⟨p, vs, ea, ha, rs2⟩ := seqW_rel hS rv e1
      have ev := strs_rel rs2 e2
      subst ev
      exact ⟨a, p, zs, rx, by rw [ea], ha, h.1, l.fz hS (d := .str _) rfl h.2⟩
    · exact h.elim
  · exact h.elim
theorem mt_joinR {X : Cx} : MtR X "str.join" (rJoin X.K) := mt_join
/-! ### name += e, ints -/
def intK (k : Int → Store → Prop) : Post := fun d S => match d with
  | .int b => k b S
  | _ => False
theorem intK_i {k : Int → Store → Prop} {b : Int} {S : Store} (q : k b S) : intK k (.int b) S := q
def dAug (i : Nat) (f : ET) : ST := fun ρ S N => match lk ρ i with
  | some (.int a) => f ρ S (intK fun b S1 => N.nx (st ρ i (some (.int (a + b)))) S1) (fun x S1 => N.ex x ρ S1)
  | _ => False
theorem dAug_i {i : Nat} {f : ET} {ρ : MP.Env} {S : Store} {N : DEnds} {a : Int} (e : lk ρ i = some (.int a)) (q : f ρ S (intK fun b S1 => N.nx (st ρ i (some (.int (a + b)))) S1) (fun x S1 => N.ex x ρ S1)) : dAug i f ρ S N := by unfold dAug; rw [e]; exact q
theorem s_aug {X : Cx} {W : WX} {i : Nat} {x : Str} {e : Expr} {f : ET} {pos pos' : Pos} (hN : X.N.Nodup) (hi : X.N[i]? = some x) (hx : Loc X.env.scope x) (he : PE X e (rdE X.K W f)) (hf : X.fn x = true ∨ X.env.scope.names.lookup x = some .local := by first | exact .inl rfl | exact .inr rfl | assumption) :
    PS X (.AugAssign (.Name x pos') .Add e pos) (rdS X.K W (dAug i f)) :=
  PS_imp (ps_aug hN hi hx he ip_add hf) fun D σ H ⟨ρ, S, N, hρ, hS, h, l⟩ => by
    unfold dAug at h
    split at h
    · rename_i a ea
      obtain ⟨v, ev, rv⟩ := hρ.get ea
      have e1 : v = .int a := rv
      subst e1
      refine ⟨.int a, ev, ρ, S, _, _, hρ, hS, h, fun d S1 y H1 e1 r1 q1 h1 => ?_, l.lx hS hρ⟩
      unfold intK at h1
      split at h1
      · rename_i b
        have e2 : y = .int b := q1
        subst e2
        exact ⟨a, b, rfl, rfl, l.nx _ S1 _ H1 e1 r1 (EnvR.set (d := .int (a + b)) rfl i (hρ.imm (e1.imm hS))) h1⟩
      · exact h1.elim
    · exact h.elim
/-! ### a field of a kept error -/
def lkF (ks : List Str) (xs : List D) (n : Str) : Option D := match ks, xs with
  | k :: ks, x :: xs => if n = k then some x else lkF ks xs n
  | _, _ => none
theorem lkF_rel {K : PySem.W.Frag} {H : Hp} {n : Str} {x : D} : ∀ {ks : List Str} {xs : List D} {vs : List V}, Rels K H xs vs → lkF ks xs n = some x → ∃ v, (ks.zip vs).lookup n = some v ∧ Rel K H x v
  | [], _, _, _, e => by unfold lkF at e; cases e
  | k :: ks, [], _, _, e => by unfold lkF at e; cases e
  | k :: ks, y :: xs, _, ⟨v, r, e1, h, t⟩, e => by
    subst e1
    unfold lkF at e
    rw [List.zip_cons_cons, lookup_put]
    by_cases hn : n = k
    · rw [if_pos hn] at e ⊢
      cases e
      exact ⟨v, rfl, h⟩
    · rw [if_neg hn] at e ⊢
      exact lkF_rel t e
def xfK (fx : Addr → Str → Bool) (n : Str) (Q : Post) : Post := fun d S1 => match d with
  | .exn (.ref C) _ ks xs => fx C n = true ∧ match lkF ks xs n with
    | some x => Q x S1
    | none => False
  | _ => False
def evXf (fx : Addr → Str → Bool) (n : Str) (f : ET) : ET := fun ρ S Q E => f ρ S (xfK fx n Q) E
theorem evXf_i {fx : Addr → Str → Bool} {n : Str} {f : ET} {ρ : MP.Env} {S : Store} {Q : Post} {E : XPost} (q : f ρ S (xfK fx n Q) E) : evXf fx n f ρ S Q E := q
theorem e_xf {X : Cx} {W : WX} {e : Expr} {f : ET} {n : Str} {pos : Pos} {fx : Addr → Str → Bool} (hfx : ∀ C, fx C n = true → ExcC X.K C ∧ PySem.W.findIn X.K (.ref C) n = some none) (he : PE X e (rdE X.K W f)) (hb : attributeBase e n X.env (eval e X.env) = eval e X.env := by rfl) :
    PE X (.Attribute e n pos) (rdE X.K W (evXf fx n f)) := by
  refine ⟨fun pins s σ H Q I ⟨ρ, S, Qd, Ed, hρ, hS, hf, lq, lx⟩ => ?_⟩
  refine attr_of hb (thn (he.run pins s σ H (fun u H1 => ∃ (a C : Addr) (d : Option Addr) (ks : List Str) (ws : List V) (v : V), u = .ref a ∧ H1 a = some (exT (.ref C) d a) ∧ XdAt H1 ks d ws ∧ fx C n = true ∧ (ks.zip ws).lookup n = some v ∧ Q v H1) I ⟨ρ, S, _, Ed, hρ, hS, hf, fun d S1 v H1 e1 r1 q1 h1 => ?_, lx⟩) fun u s1 hh => ?_)
  · unfold xfK at h1
    split at h1
    · rename_i C a ks xs
      obtain ⟨h2, h3⟩ := h1
      split at h3
      · rename_i x ex
        obtain ⟨rfl, d, ws, ha, hx, hl, rs⟩ := q1
        obtain ⟨v, ev, rv⟩ := lkF_rel rs ex
        exact ⟨a, C, d, ks, ws, v, rfl, ha, hx, h2, ev, lq x S1 v H1 e1 r1 rv h3⟩
      · exact h3.elim
    · exact h1.elim
  · obtain ⟨x, H1, I1, rx, a, C, d, ks, ws, v, ex, ha, hxd, hC, hl, q⟩ := hh
    subst ex
    obtain rfl : u = Value.ref a := rx
    obtain ⟨T, hno⟩ := hfx C hC
    obtain ⟨⟨oe, vs, h1, h2, h3⟩, _⟩ := I1.hok a _ ha
    rcases hxd with ⟨z, _⟩ | ⟨dd, ed, _, hdd⟩
    · subst z
      simp at hl
    · subst ed
      have hx : ObjOk X.prog X.w H1 s1.heap dd (.xd (ks.zip ws)) := I1.hok dd _ hdd
      obtain ⟨mA, hns, hr⟩ := hx
      obtain ⟨od, ho, hlk⟩ := lookIn_ns hns
      obtain ⟨u, hu, ru⟩ := RelO.some_of (v := v) (o := mA n) (by rw [← hl]; exact hr n)
      have J : PySem.W.InstAt s1.heap a oe C (some od) := ⟨h1, h2.1, by unfold PySem.W.notCls; rw [h3] <;> rfl, by rw [h2.2]; exact ho⟩
      exact PySem.HandSPX.exc_get I1.kIn J T.hg T.hk T.hs (PySem.W.findObj_own T.hd hno rfl (by rw [hlk, hu])) (handed_of ru) ⟨v, H1, I1.tok _, ru, q⟩
/-! ### a def whose code object is known -/
structure FunC (K : PySem.W.Frag) (x qual : Str) (st : Stmt) (f c : Addr) (fd : FuncData) : Prop where
  ex : ∃ (oc : Value) (od : Option Addr) (kV doc pm : Value) (an : Option Addr) (ct : Value) (osl : Array (Option Value)),
    fd = PySem.W.fnOf x qual (defArgs st) (defBody st) (defScope st) .none kV doc pm an (.ref c) ct ∧ K.lookup f = some ⟨oc, od, .func fd, osl⟩ ∧ PySem.W.codeIn K (.ref c) qual = true
theorem fn_okC {P : Program} {w : World} {K : PySem.W.Frag} {mg : Str → Option Value} {base : Heap} {x qual : Str} {st : Stmt} {f c : Addr} {fd : FuncData} {N ps : List Str} {k : Nat} {g : ST} (F : FunC K x qual st f c fd) (Sc : FnScope N ps (defScope st))
    (hb : ∀ (A : Around) (outer : List PySem.Env) (s : Shared) (H : Hp) (E : XK), Room k (A.deeper (envOfC qual (defScope st) s.heap.objs.size f (.ref c))) →
      PSs (cxOf (L2.CX P w) P w K mg base N qual (defScope st) f (.ref c) A outer s H E) (defBody st) (rdS K (Wd E) g)) : FnOk P w K mg base (L2.CX P w) (k + 1) f fd ps (spM K ps.length (runF N.length g)) := by
  obtain ⟨oc, od, kV, doc, pm, an, ct, osl, rfl, lk, hcd⟩ := F.ex
  refine fn_of lk hcd Sc spM_len fun A outer s H vs Q E hr h => ⟨_, hb A outer s H E hr, ?_⟩
  obtain ⟨ds, S, Qd, Ed, r, hS, hl, hf, lq, lx⟩ := h
  refine ⟨_, S, _, ?_, hS, hf, ⟨fun ρ' S' σ' H' e r' k' h => lq .non S' .non H' e r' rfl h, lq, fun x ρ' S' c dd σ' H' e r' k' q h => lx x S' c dd H' e r' q h, fun _ _ _ _ _ _ _ h => h.elim, fun _ _ _ _ _ _ _ h => h.elim⟩⟩
  unfold L2.start
  rw [← r.length]
  exact EnvR.start _ r
section
variable {S : Store} {Q : Post}
theorem gInt_b {b : Bool} (q : Q (.int (if b then 1 else 0)) S) : gInt [.bl b] S Q := q
theorem gIsA_n {x : D} (q : Q (.bl (isNon x)) S) : gIsA x .non S Q := q
theorem gIsnA_n {x : D} (q : Q (.bl (!isNon x)) S) : gIsnA x .non S Q := q
theorem gIsA_b {a b : Bool} (q : Q (.bl (decide (a = b))) S) : gIsA (.bl a) (.bl b) S Q := q
theorem gIsnA_b {a b : Bool} (q : Q (.bl (!decide (a = b))) S) : gIsnA (.bl a) (.bl b) S Q := q
end
end MP

set_option Elab.async false
set_option linter.all false
set_option maxRecDepth 100000
set_option maxHeartbeats 2100000
/-! MPNew: errors made and held as values; the number of different ints of a list. -/
namespace MP
open PySem PySem.Spec PyProof.Rows L2 MP
/-- an error that is made is held from then on -/
theorem pe_mk {X : Cx} {e : Expr} {t : L2.St → Hp → XK → Prop} (h : PMk X e t) (hex : X.ex = []) : PE X e (fun σ H Q => t σ H fun cls d H' => ∀ a, H' a = none → Q (.ref a) (upd H' a (exT cls d a))) := by
  refine ⟨fun pins s σ H Q I q => thn (h pins s σ H _ I q) fun u s1 hu => ?_⟩
  obtain ⟨a, oe, vs, sI, H', cls, d, rfl, J, k, hne, ha, hz, hd, h1, na, os, ag, r, q1⟩ := hu
  have K1 := J.kept (t' := s1.toks) k
  have J1 : Inv X pins σ H' s1 := ⟨K1.ok, by rw [os]; exact J.os, ag, K1.base, K1.loc, K1.cell, K1.free, K1.freeC, K1.pin, K1.hok, K1.len⟩
  refine ⟨.ref a, _, Inv.track (o := exT cls d a) J1 na ?_ ?_ ?_ ?_ ?_, rfl, q1 a na⟩
  · refine Option.eq_none_iff_forall_ne_some.mpr fun ob e => ?_
    have ⟨_, z⟩ := J.base.there a ob e (by rw [hex]; intro w; cases w)
    rw [hne] at z
    exact nomatch z
  · intro p hp z
    have y := (J.pin p hp).1
    rw [z, hne] at y
    cases y
  · intro z
    obtain ⟨m, ⟨o, es, ep, e, _⟩, _⟩ := J.loc
    rw [← z, hne] at e
    cases e
  · intro x c e z
    obtain ⟨v', o', q', _⟩ := J.cell x c e
    rw [z, hne] at q'
    cases q'
  · exact ⟨⟨oe, vs, ha, hz, hd⟩, ⟨oe, ha⟩, fun _ _ ⟨o, v, q, r⟩ k => ⟨o, v, k o q, r⟩⟩
/-- C('..') -/
def evNew (C : Addr) : ET := fun _ S Q _ => ∀ a, Q (.exn (.ref C) a [] []) S
theorem evNew_i {C : Addr} {ρ : MP.Env} {S : Store} {Q : Post} {E : XPost} (q : ∀ a, Q (.exn (.ref C) a [] []) S) : evNew C ρ S Q E := q
theorem e_new {X : Cx} {W : WX} {e : Expr} {C : Addr} (he : PMk X e (fun _ H Q => Q (.ref C) none H)) (hex : X.ex = [] := by rfl) : PE X e (rdE X.K W (evNew C)) :=
  PE_imp (pe_mk he hex) fun σ H Q ⟨ρ, S, Qd, Ed, hρ, hS, hf, lq, lx⟩ => fun a na =>
    lq (.exn (.ref C) a [] []) S (.ref a) _ (evo_new na) (hS.upd_new na) ⟨rfl, none, [], upd_same, .inl ⟨rfl, rfl⟩, rfl, rfl⟩ (hf a)
/-- C(e, ..), C's __init__ keeping its parameters as fields -/
def evNewI (C : Addr) (fs : List Str) (fa : EA) : ET := fun ρ S Q E => fa ρ S (fun ds S' => ∀ a, Q (.exn (.ref C) a fs.reverse ds.reverse) S') E
theorem evNewI_i {C : Addr} {fs : List Str} {fa : EA} {ρ : MP.Env} {S : Store} {Q : Post} {E : XPost} (q : fa ρ S (fun ds S' => ∀ a, Q (.exn (.ref C) a fs.reverse ds.reverse) S') E) : evNewI C fs fa ρ S Q E := q
theorem e_newI {X : Cx} {W : WX} {x : Str} {C fI : Addr} {k n : Nat} {fd : FuncData} {ps fs : List Str} {e : Expr} {es : List Expr} {fa : EA} {p pos : Pos} (tk : Takes X W) (T : OexC X.K C) (iC : PySem.W.findIn X.K (.ref C) "__init__" = some (some (.ref fI)))
    (tI : PySem.W.typeIn X.K (.ref fI) = some (.type "function")) (F1 : FnOk X.prog X.w X.K X.mg X.base (L2.CX X.prog X.w) k fI fd ps (spSup C fs)) (hr : Room (k + 1) X.A) (hb : Binds X.K fd ps []) (hg : Gl X x) (hm : X.mg x = some (.ref C))
    (ha : PA X (e :: es) (rdA X.K W n fa)) (hn : n = fs.length) (hfl : fs.length ≤ 900) (hne : fs ≠ []) (hex : X.ex = [] := by rfl) (hdb : (x == ("__debug__" : Str)) = false := by decide) (he : starEach (e :: es) X.env = (false, eval e X.env) :: starEach es X.env := by rfl)
    (hpl : (backTo pos (starEach es X.env)).any (·.1) = false := by rfl) :
    PE X (.Call (.Name x p) (e :: es) [] pos) (rdE X.K W (evNewI C fs fa)) :=
  PE_imp (pe_mk (pmk_oex (dvs := []) (ds := []) T iC tI F1 hr hb .nil (passes_call tk fun _ _ _ _ z => z.elim) hg hm ha hdb he hpl) hex) fun σ H Q ⟨ρ, S, Qd, Ed, hρ, hS, hf, lq, lx⟩ => by
    refine ⟨ρ, S, _, Ed, hρ, hS, hf, fun ds S1 vs H1 e1 r1 q1 hl h1 => ?_, lx⟩
    have hvl : vs.length = fs.length := by rw [← q1.length, hl, hn]
    refine ⟨by omega, fun a ha => ⟨a, vs, by rw [List.append_nil], hvl, upd_same, fun d hd hda => ?_⟩⟩
    have hd1 : H1 d = none := by rwa [upd_ne hda] at hd
    refine ⟨rfl, d, _, upd_same, by rw [upd_ne hda, upd_same], hd1, ?_⟩
    have eh : ∀ (o1 o2 o3 o4 : HO), upd (L2.del (upd (upd (upd H1 a o1) d o2) a o3) a) d o4 = upd H1 d o4 := fun o1 o2 o3 o4 => by
      funext b
      by_cases hb : b = d
      · rw [hb, upd_same, upd_same]
      · rw [upd_ne hb, upd_ne hb]
        by_cases hb2 : b = a
        · rw [hb2, del_same, ha]
        · rw [del_ne hb2, upd_ne hb2, upd_ne hb, upd_ne hb2]
    rw [eh]
    intro a2 na2
    refine lq (.exn (.ref C) a2 fs.reverse ds.reverse) S1 (.ref a2) _ ((e1.trans (evo_new hd1)).trans (evo_new na2)) ((r1.upd_new hd1).upd_new na2) ⟨rfl, some d, vs.reverse, upd_same, .inr ⟨d, rfl, ?_, ?_⟩, ?_, Rels.imm (upd_imm na2) _ _ (Rels.imm (upd_imm hd1) _ _ q1).rev⟩ (h1 a2)
    · intro z
      exact hne (by simpa using z)
    · have nd : d ≠ a2 := fun z => by subst z; rw [upd_same] at na2; cases na2
      rw [upd_ne nd, upd_same, zip_rev hvl.symm]
    · rw [List.length_reverse, List.length_reverse, hl, hn]
/-! ### len(set(ints)) -/
def setK (Q : Post) : Post := fun d S1 => match (lstW (vw d S1)).bind ints? with
  | some ns => ns.Nodup ∧ ns.length ≤ 4000 ∧ Q (.int ns.length) S1
  | none => False
def evLenSet (f : ET) : ET := fun ρ S Q E => f ρ S (setK Q) E
theorem evLenSet_i {f : ET} {ρ : MP.Env} {S : Store} {Q : Post} {E : XPost} (q : f ρ S (setK Q) E) : evLenSet f ρ S Q E := q
theorem setK_i {d : D} {S : Store} {Q : Post} {ns : List Int} (e : lstW (vw d S) = some (ns.map D.int)) (h1 : ns.Nodup) (h2 : ns.length ≤ 4000) (q : Q (.int ns.length) S) : setK Q d S := by
  unfold setK
  rw [e, Option.bind_some, ints_map]
  exact ⟨h1, h2, q⟩
theorem e_lenSet {X : Cx} {W : WX} {a : Expr} {f : ET} {p p2 q pos : Pos} (hg : Gl X "len") (hm : X.mg "len" = none) (hg2 : Gl X "set") (hm2 : X.mg "set" = none) (ha : PE X a (rdE X.K W f)) (hc : X.calm = true := by rfl)
    (na : starEach [a] X.env = (false, eval a X.env) :: starEach [] X.env := by rfl) : PE X (.Call (.Name "len" p) [.Call (.Name "set" p2) [a] [] q] [] pos) (rdE X.K W (evLenSet f)) :=
  PE_imp (RZ.pe_lenSetI hg hm hg2 hm2 ha hc na) fun σ H Q ⟨ρ, S, Qd, Ed, hρ, hS, hf, lq, lx⟩ => by
    refine ⟨ρ, S, _, Ed, hρ, hS, hf, fun d S1 v H1 e1 r1 q1 h1 => ?_, lx⟩
    unfold setK at h1
    split at h1
    · rename_i ns e
      obtain ⟨ys, e2, e3⟩ := Option.bind_eq_some_iff.mp e
      obtain ⟨a, vs, ea, ha, rs⟩ := lstW_rel r1 q1 e2
      have ev := ints_rel rs e3
      subst ev
      exact ⟨a, ns, ea, ha, h1.1, h1.2.1, lq (.int ns.length) S1 (.int ns.length) H1 e1 r1 rfl h1.2.2⟩
    · exact h1.elim
end MP

set_option Elab.async false
set_option linter.all false
set_option maxRecDepth 100000
set_option maxHeartbeats 2100000
/-! MPShow: repr of data in which dicts stand. -/
namespace MP
open PySem PySem.Spec PyProof.Rows L2 MP
def IsDictAt (h : Heap) (b : Addr) : Prop := ∃ o es n, h.get? b = some o ∧ o.data = .dict es n
/-- no dict among these is the one of the modules -/
def NoSys (h : Heap) (as : List Addr) : Prop := ∀ b ∈ as, IsDictAt h b → (b == sysModules) = false
theorem noSys_nil {h : Heap} : NoSys h [] := fun _ z => nomatch z
theorem noSys_app {h : Heap} {as bs : List Addr} (x : NoSys h as) (y : NoSys h bs) : NoSys h (as ++ bs) := fun b hb => (List.mem_append.1 hb).elim (x b) (y b)
section
variable {P : Program} {w : World} {h : Heap}
mutual
theorem show_one : ∀ {v : Value} {d : PyData} {as : List Addr}, Reads h v d as → d.showable = true → NoSys h as → d.shown.length ≤ sizeLine → ∃ bs, ReadAtMost h d.depth bs ∧ ReprK P w bs h d.depth v d.shown
  | _, _, _, .none, _, _, _ => ⟨[], (fun _ z => nomatch z), by rw [PyData.shown]; exact .of_is ReprIs.none [] h _⟩
  | _, _, _, .bool b, _, _, _ => ⟨[], (fun _ z => nomatch z), by rw [PyData.shown]; exact .of_is (ReprIs.bool b) [] h _⟩
  | _, _, _, .int i t, sh, _, _ => ⟨[], (fun _ z => nomatch z), by rw [PyData.shown]; exact .of_is (ReprIs.int t (by simpa only [PyData.showable, decide_eq_true_eq] using sh)) [] h _⟩
  | _, _, _, .str x t, _, _, ln => ⟨[], (fun _ z => nomatch z), by rw [PyData.shown] at ln ⊢; exact .of_is (ReprIs.str x t ln) [] h _⟩
  | _, _, _, .list (a := p) (vs := items) (xs := ds) e1 e2 e3 e4, sh, ns, ln => by
    rw [PyData.shown] at ln
    have ⟨bs, rb, rk⟩ := show_all e4 (by simpa only [PyData.showable] using sh) (fun b m => ns b (List.mem_cons_of_mem _ m)) fun t m => Nat.le_trans (listText_mem_le m) ln
    have top := Reads.list e1 e2 e3 e4
    have out : p ∉ bs := not_mem_of_deeper top (by simp only [PyData.depth]; omega) rb
    refine ⟨p :: bs, .cons top (by simp only [PyData.depth]; omega) rb, ?_⟩
    rw [PyData.depth, PyData.shown]
    obtain ⟨its⟩ := items
    match its, e3, e4, rk with
    | [], e3, e4, rk =>
      have e4' : ReadsAll h [] ds _ := e4
      cases e4'
      rw [PyData.shownAll, listText_nil]
      exact ReprK.listEmpty e1 e2 e3
    | y :: r, e3, e4, rk => exact ReprK.list e1 e2 e3 out (by simpa using rk.length_eq) fun i z e => rk.item i z (by simpa using e)
  | _, _, _, .tuple (a := p) (xs := ds) e1 e2 e3 e4, sh, ns, ln => by
    rw [PyData.shown] at ln
    have ⟨bs, rb, rk⟩ := show_all e4 (by simpa only [PyData.showable] using sh) ns fun t m => Nat.le_trans (tupleText_mem_le m) ln
    have top := Reads.tuple e1 e2 e3 e4
    have out : p ∉ bs := not_mem_of_deeper top (by simp only [PyData.depth]; omega) rb
    refine ⟨p :: bs, .cons top (by simp only [PyData.depth]; omega) rb, ?_⟩
    rw [PyData.depth, PyData.shown]
    exact ReprK.tuple e1 e2 e3 out rk
  | _, _, _, .dict (a := p) (es := es) (kvs := kvs) (as := ka) (bs := va) e1 e2 e3 e4 e5, sh, ns, ln => by
    rw [PyData.shown] at ln
    have ⟨s1, s2⟩ := PyData.showableKv_split kvs (by simpa only [PyData.showable] using sh)
    have ⟨b1, r1, k1⟩ := show_all e4 s1 (fun b m => ns b (List.mem_append_left _ (List.mem_cons_of_mem _ m))) fun t m => let ⟨q, mq, lq⟩ := PyData.shownKv_key_le kvs t m; Nat.le_trans lq (Nat.le_trans (dictText_mem_le mq) ln)
    have ⟨b2, r2, k2⟩ := show_all e5 s2 (fun b m => ns b (List.mem_append_right _ m)) fun t m => let ⟨q, mq, lq⟩ := PyData.shownKv_val_le kvs t m; Nat.le_trans lq (Nat.le_trans (dictText_mem_le mq) ln)
    have top := Reads.dict e1 e2 e3 e4 e5
    have rb : ReadAtMost h (PyData.depthKv kvs) (b1 ++ b2) := (r1.mono (PyData.depthAll_keys_le kvs)).append (r2.mono (PyData.depthAll_vals_le kvs))
    have out : p ∉ b1 ++ b2 := not_mem_of_deeper top (by simp only [PyData.depth]; omega) rb
    refine ⟨p :: (b1 ++ b2), .cons top (by simp only [PyData.depth]; omega) rb, ?_⟩
    rw [PyData.depth, PyData.shown, PyData.shownKv_eq]
    exact ReprK.dict e1 e2 e3 (ns p (List.mem_append_left _ List.mem_cons_self) ⟨_, _, _, e1, e3⟩) out
      (ReprEntriesK.of_two es.toList _ _ (k1.more_le (fun b m => List.mem_append_left _ m) (PyData.depthAll_keys_le kvs)) (k2.more_le (fun b m => List.mem_append_right _ m) (PyData.depthAll_vals_le kvs)))
theorem show_all : ∀ {vs : List Value} {ds : List PyData} {as : List Addr}, ReadsAll h vs ds as → PyData.showableAll ds = true → NoSys h as → (∀ t ∈ PyData.shownAll ds, t.length ≤ sizeLine) → ∃ bs, ReadAtMost h (PyData.depthAll ds) bs ∧ ReprAllK P w bs h (PyData.depthAll ds) vs (PyData.shownAll ds)
  | _, _, _, .nil, _, _, _ => ⟨[], (fun _ z => nomatch z), by rw [PyData.shownAll]; exact .nil⟩
  | _, _, _, .cons (d := d) (ds := ds) e1 e2, sh, ns, ln => by
    rw [PyData.showableAll, Bool.and_eq_true] at sh
    rw [PyData.shownAll] at ln
    have ⟨b1, r1, k1⟩ := show_one e1 sh.1 (fun b m => ns b (List.mem_append_left _ m)) (ln _ List.mem_cons_self)
    have ⟨b2, r2, k2⟩ := show_all e2 sh.2 (fun b m => ns b (List.mem_append_right _ m)) fun t m => ln t (List.mem_cons_of_mem _ m)
    rw [PyData.depthAll, PyData.shownAll]
    exact ⟨b1 ++ b2, (r1.mono (Nat.le_max_left _ _)).append (r2.mono (Nat.le_max_right _ _)), .cons ((k1.more fun b m => List.mem_append_left _ m).level_le (Nat.le_max_left _ _)) (k2.more_le (fun b m => List.mem_append_right _ m) (Nat.le_max_right _ _))⟩
end
/-- repr of a list -/
theorem repr_list {A : Around} {E : Value → Shared → Prop} {s : Shared} {Q : Value → Shared → Prop} {a : Addr} {ds : List PyData} {as : List Addr} (r : Reads s.heap (.ref a) (.list ds) as) (sh : PyData.showable (.list ds) = true) (ns : NoSys s.heap as) (quiet : A.guards = some []) (hu : A.units + ((PyData.list ds).depth + 1) < cLine)
    (ln : (PyData.list ds).shown.length ≤ sizeLine) (hQ : ∀ h' u tk, (∀ b o, s.heap.get? b = some o → h'.get? b = some o) → Q (.str (PyData.list ds).shown u) { s with heap := h', toks := tk }) : wpAny (model P w) A (call (.builtin "repr") [.ref a]) Q E s := by
  match r with
  | .list (vs := items) e1 e2 e3 e4 =>
    have ln2 := ln
    rw [PyData.shown] at ln2
    have ⟨bs, rb, rk⟩ := show_all (P := P) (w := w) e4 (by simpa only [PyData.showable] using sh) (fun b m => ns b (List.mem_cons_of_mem _ m)) fun t m => Nat.le_trans (listText_mem_le m) ln2
    have out : a ∉ bs := not_mem_of_deeper (Reads.list e1 e2 e3 e4) (by simp only [PyData.depth]; omega) rb
    simp only [PyData.depth] at hu
    simp only [PyData.shown] at hQ
    refine call_repr_slot (by omega) ⟨_, e1, e2⟩ F.slot_list_repr.toG ?_
    obtain ⟨its⟩ := items
    match its, e3, e4, rk with
    | [], e3, e4, rk =>
      have e4' : ReadsAll s.heap [] ds _ := e4
      cases e4'
      simp only [PyData.shownAll, listText_nil] at hQ
      exact call_list_repr_empty ⟨_, e1, e2⟩ e1 e3 ⟨_, _, rfl, hQ s.heap _ _ fun _ _ e => e⟩
    | y :: q, e3, e4, rk =>
      exact call_list_reprK e1 e2 e3 out (by simpa using rk.length_eq) (fun i z e => rk.item i z (by simpa using e)) quiet (fun b _ => Clear.nil b) (by show A.units + 1 + _ < cLine; omega) (fun _ _ e => e) (fun h' u tk hk => ⟨_, _, rfl, hQ h' u tk hk⟩) ln2
end
/-! ### data of the mirrors, dicts among them -/
def keyPy : Key → PyData
  | .inl i => .int i
  | .inr x => .str x
mutual
def toPyX : D → Option PyData
  | .non => some .none
  | .bl b => some (.bool b)
  | .int i => some (.int i)
  | .str x => some (.str x)
  | .tup xs => (toPysX xs).map .tuple
  | .lst xs => (toPysX xs).map .list
  | .kls xs => (toPysX xs).map .list
  | .dct ks xs => (toPysX xs).map fun ps => .dict ((ks.map keyPy).zip ps)
  | .ty _ => none
  | .ref _ => none
  | .exn _ _ _ _ => none
def toPysX : List D → Option (List PyData)
  | [] => some []
  | d :: ds => (toPyX d).bind fun p => (toPysX ds).map fun ps => p :: ps
end
theorem pysX_len : ∀ {ds : List D} {ps : List PyData}, toPysX ds = some ps → ps.length = ds.length
  | [], ps, e => by
    have e' : some [] = some ps := by rw [← e]; unfold toPysX; rfl
    cases e'
    rfl
  | d :: ds, ps, e => by
    unfold toPysX at e
    obtain ⟨p, e1, e2⟩ := Option.bind_eq_some_iff.mp e
    obtain ⟨qs, e3, e4⟩ := Option.map_eq_some_iff.mp e2
    subst e4
    rw [List.length_cons, List.length_cons, pysX_len e3]
theorem dict_parts {P : Program} {w : World} {h : Heap} : ∀ {ks : List Key} {xs : List V} {kvs : List (Key × Value)} {es : List DictEntry}, ks.length = xs.length → KV (ks.zip xs) kvs → Pairs (mixKind P w) es kvs → ReadsAll h (es.map (·.key)) (ks.map keyPy) [] ∧ Vals xs (es.map (·.val))
  | [], [], kvs, es, _, kv, pr => by
    cases kv
    cases pr
    exact ⟨.nil, .nil⟩
  | k :: ks, x :: xs, kvs, es, hl, kv, pr => by
    cases kv with
    | cons h1 h2 =>
      cases pr with
      | cons q1 q2 q3 =>
        obtain ⟨r1, r2⟩ := dict_parts (h := h) (by simpa using hl) h2 q3
        obtain ⟨e1, e2⟩ := h1
        refine ⟨?_, .cons (by dsimp only; rw [q2]; exact e2) r2⟩
        rw [← e1] at q1
        rcases keyIs_shape (show keyIs k _ = true from q1) with ⟨i, t, ek, ev⟩ | ⟨y, t, ek, ev⟩
        · rw [List.map_cons, List.map_cons, ev, ek]
          exact ReadsAll.cons (as := []) (bs := []) (.int i t) r1
        · rw [List.map_cons, List.map_cons, ev, ek]
          exact ReadsAll.cons (as := []) (bs := []) (.str y t) r1
  | [], x :: xs, _, _, hl, _, _ => nomatch hl
  | k :: ks, [], _, _, hl, _, _ => nomatch hl
section
variable {X : Cx} {pins : List (Addr × Obj)} {σ : L2.St} {H : Hp} {s : Shared}
theorem noDict {h : Heap} {b : Addr} {o : Obj} {vs : Array Value} {n : Nat} (e : h.get? b = some o) (d : o.data = .seq vs n) : ¬ IsDictAt h b := fun ⟨o2, es, m, e2, d2⟩ => by
  rw [e] at e2
  cases e2
  rw [d] at d2
  cases d2
mutual
theorem reads_x (I : Inv X pins σ H s) : ∀ (d : D) (v : V) (u : Value) (p : PyData), Rel X.K H d v → toPyX d = some p → RelV v u → ∃ as, Reads s.heap u p as ∧ NoSys s.heap as
  | .non, v, u, p, r, e, ru => by
    have ev : v = .non := r
    subst ev
    unfold toPyX at e
    cases e
    cases ru
    exact ⟨_, .none, noSys_nil⟩
  | .bl b, v, u, p, r, e, ru => by
    have ev : v = .bl b := r
    subst ev
    unfold toPyX at e
    cases e
    cases ru
    exact ⟨_, .bool b, noSys_nil⟩
  | .int i, v, u, p, r, e, ru => by
    have ev : v = .int i := r
    subst ev
    unfold toPyX at e
    cases e
    obtain ⟨t, rfl⟩ := ru
    exact ⟨_, .int i t, noSys_nil⟩
  | .str x, v, u, p, r, e, ru => by
    have ev : v = .str x := r
    subst ev
    unfold toPyX at e
    cases e
    obtain ⟨t, rfl⟩ := ru
    exact ⟨_, .str x t, noSys_nil⟩
  | .tup ds, v, u, p, ⟨a, xs, ev, hs, rs⟩, e, ru => by
    subst ev
    unfold toPyX at e
    obtain ⟨ps, e2, e3⟩ := Option.map_eq_some_iff.mp e
    subst e3
    cases ru
    obtain ⟨its, rv, ⟨o, ho, hc, n, hd⟩, _⟩ := I.tuple hs
    obtain ⟨as, hr, hn⟩ := readsA_x I ds xs its ps rs e2 rv
    exact ⟨_, .tuple ho hc hd hr, hn⟩
  | .lst ds, v, u, p, ⟨a, xs, ev, hs, rs⟩, e, ru => by
    subst ev
    unfold toPyX at e
    obtain ⟨ps, e2, e3⟩ := Option.map_eq_some_iff.mp e
    subst e3
    cases ru
    obtain ⟨its, rv, ⟨o, n, ho, hc, _, hd⟩, _⟩ := I.list hs.seq
    obtain ⟨as, hr, hn⟩ := readsA_x I ds xs its ps rs e2 rv
    refine ⟨_, .list ho hc hd hr, fun b hb z => ?_⟩
    rcases List.mem_cons.1 hb with rfl | hb
    · exact absurd z (noDict ho hd)
    · exact hn b hb z
  | .kls ds, v, u, p, ⟨a, xs, ev, hs, rs⟩, e, ru => by
    subst ev
    unfold toPyX at e
    obtain ⟨ps, e2, e3⟩ := Option.map_eq_some_iff.mp e
    subst e3
    cases ru
    obtain ⟨its, rv, ⟨o, n, ho, hc, _, hd⟩, _⟩ := I.list hs.seq
    obtain ⟨as, hr, hn⟩ := readsA_x I ds xs its ps rs e2 rv
    refine ⟨_, .list ho hc hd hr, fun b hb z => ?_⟩
    rcases List.mem_cons.1 hb with rfl | hb
    · exact absurd z (noDict ho hd)
    · exact hn b hb z
  | .dct ks ds, v, u, p, ⟨a, xs, ev, ⟨ob, hf⟩, hl, rs⟩, e, ru => by
    subst ev
    unfold toPyX at e
    obtain ⟨ps, e2, e3⟩ := Option.map_eq_some_iff.mp e
    subst e3
    cases ru
    obtain ⟨_, hsys, vs, kv, o, es, ep, ho, hx, hd, _, pr, _⟩ := dk_rd I.hok (.inr ⟨ob, hf⟩)
    have hlx : ks.length = xs.length := by rw [hl, rs.length]
    obtain ⟨r1, r2⟩ := dict_parts (h := s.heap) hlx kv pr
    obtain ⟨as, hr, hn⟩ := readsA_x I ds xs _ ps rs e2 r2
    have hz : (ks.map keyPy).length = ps.length := by rw [List.length_map, pysX_len e2, hl]
    have k1 : ReadsAll s.heap (es.toList.map (·.key)) (((ks.map keyPy).zip ps).map (·.1)) [] := by
      rw [List.map_fst_zip (Nat.le_of_eq hz)]
      exact r1
    have k2 : ReadsAll s.heap (es.toList.map (·.val)) (((ks.map keyPy).zip ps).map (·.2)) as := by
      rw [List.map_snd_zip (Nat.le_of_eq hz.symm)]
      exact hr
    refine ⟨_, .dict (as := []) (bs := as) ho hx.1 hd k1 k2, fun b hb z => ?_⟩
    · rcases List.mem_append.1 hb with hb | hb
      · rw [List.mem_singleton] at hb
        subst hb
        exact hsys
      · exact hn b hb z
  | .ty _, _, _, _, _, e, _ => by unfold toPyX at e; cases e
  | .ref _, _, _, _, _, e, _ => by unfold toPyX at e; cases e
  | .exn _ _ _ _, _, _, _, _, e, _ => by unfold toPyX at e; cases e
theorem readsA_x (I : Inv X pins σ H s) : ∀ (ds : List D) (vs : List V) (us : List Value) (ps : List PyData), Rels X.K H ds vs → toPysX ds = some ps → Vals vs us → ∃ as, ReadsAll s.heap us ps as ∧ NoSys s.heap as
  | [], vs, us, ps, r, e, ru => by
    have ev : vs = [] := r
    subst ev
    unfold toPysX at e
    cases e
    cases ru
    exact ⟨_, .nil, noSys_nil⟩
  | d :: ds, _, us, ps, ⟨v, q, ev, h, t⟩, e, ru => by
    subst ev
    unfold toPysX at e
    obtain ⟨p, e1, e2⟩ := Option.bind_eq_some_iff.mp e
    obtain ⟨qs, e3, e4⟩ := Option.map_eq_some_iff.mp e2
    subst e4
    cases ru with
    | cons r1 r2 =>
      obtain ⟨as, h1, n1⟩ := reads_x I d v _ p h e1 r1
      obtain ⟨bs, h2, n2⟩ := readsA_x I ds q _ qs t e3 r2
      exact ⟨_, .cons h1 h2, noSys_app n1 n2⟩
end
end
def rReprX (X : Cx) : List V → Hp → VK → Prop := fun xs H Q => ∃ (d : D) (v : V) (ps : List PyData), xs = [v] ∧ Rel X.K H d v ∧ toPyX d = some (.list ps) ∧ (PyData.list ps).showable = true ∧ (PyData.list ps).depth ≤ 64 ∧ (PyData.list ps).shown.length ≤ sizeLine ∧ Q (.str (PyData.list ps).shown) H
theorem call_reprX {X : Cx} (quiet : X.A.guards = some []) (hu : X.A.units + 66 < cLine) : CallR X (.builtin "repr") (rReprX X) := by
  intro pnl s σ H xs us Q I r ⟨d, v, ps, ex, rd, e, show1, dep, hz, q⟩
  subst ex
  obtain ⟨u, rfl, ru⟩ : ∃ u, us = [u] ∧ RelV v u := by
    cases r with
    | cons h t => cases t; exact ⟨_, rfl, h⟩
  obtain ⟨as, rdd, ns⟩ := reads_x I d v u _ rd e ru
  match rdd with
  | .list (a := a) e1 e2 e3 e4 =>
    exact repr_list (.list e1 e2 e3 e4) show1 ns quiet (by omega) hz fun h' t tk keep => ⟨.str (PyData.list ps).shown, H, I.kept (t' := tk) keep, ⟨_, rfl⟩, q⟩
/-- repr of a list of data, dicts among them -/
def gReprX : GA := fun ds S Q => match ds with
  | [d] => match toPyX d with
    | some (.list ps) => (PyData.list ps).showable = true ∧ (PyData.list ps).depth ≤ 64 ∧ (PyData.list ps).shown.length ≤ sizeLine ∧ Q (.str (PyData.list ps).shown) S
    | _ => False
  | _ => False
theorem d_reprX {X : Cx} : CallD X.K (rReprX X) gReprX := by
  intro xs S H ds Qd Q hS r h l
  unfold gReprX at h
  split at h
  · rename_i d
    obtain ⟨v, rfl, rv⟩ := rels1 r
    split at h
    · rename_i ps e
      exact ⟨d, v, ps, rfl, rv, e, h.1, h.2.1, h.2.2.1, l.fz hS (d := .str _) rfl h.2.2.2⟩
    · exact h.elim
  · exact h.elim
theorem gReprX_i {d : D} {ps : List PyData} {S : Store} {Q : Post} (e : toPyX d = some (.list ps)) (h1 : (PyData.list ps).showable = true) (h2 : (PyData.list ps).depth ≤ 64) (h3 : (PyData.list ps).shown.length ≤ sizeLine) (q : Q (.str (PyData.list ps).shown) S) : gReprX [d] S Q := by
  show (match toPyX d with
    | some (.list ps) => (PyData.list ps).showable = true ∧ (PyData.list ps).depth ≤ 64 ∧ (PyData.list ps).shown.length ≤ sizeLine ∧ Q (.str (PyData.list ps).shown) S
    | _ => False)
  rw [e]
  exact ⟨h1, h2, h3, q⟩
end MP

set_option Elab.async false
set_option linter.all false
set_option maxRecDepth 100000
set_option maxHeartbeats 2100000
/-! MPHead: the head by one run of the top: what it must leave is one test over what the module's names reach. -/
namespace MP
open PySem PySem.Spec PyProof.Rows L2 MP
abbrev Fg := PySem.W.Frag
/-! ### the written part -/
/-- an empty record: the table of a code object -/
def isRec0 (o : Obj) : Bool := match o.data with
  | .fields a => a.size == 0
  | _ => false
def frM (g : Addr → Option Obj) (as : List Addr) : Fg := (He.frG g as).filter fun p => !isRec0 p.2
theorem frG_mem {g : Addr → Option Obj} {as : List Addr} {p : Addr × Obj} (h : p ∈ He.frG g as) : g p.1 = some p.2 := by
  obtain ⟨b, _, e⟩ := List.mem_filterMap.mp h
  obtain ⟨o, e1, e2⟩ := Option.map_eq_some_iff.mp e
  subst e2
  exact e1
theorem lk_mem {a : Addr} {o : Obj} : ∀ {l : List (Addr × Obj)}, l.lookup a = some o → (a, o) ∈ l
  | [], h => nomatch h
  | (b, y) :: r, h => by
    by_cases e : a = b
    · subst e
      rw [List.lookup_cons_self] at h
      cases h
      exact List.mem_cons_self
    · have e2 : (a == b) = false := by simpa using e
      rw [List.lookup_cons, e2] at h
      exact List.mem_cons_of_mem _ (lk_mem h)
theorem frM_in {as : List Addr} {h : Heap} : (frM h.get? as).In h := fun b o e => by
  have m : (b, o) ∈ frM h.get? as := lk_mem e
  unfold frM at m
  exact frG_mem (p := (b, o)) (List.mem_filter.mp m).1
/-! ### an __init__ with its class's cell -/
abbrev FnI : Type := Option (Str × Str × Arguments × FuncBody × Scope × Addr × List Str × Addr)
def iniW (K : Fg) (x : Str) : FnI := match K.lookup (He.ma K (He.ga K x) "__init__") with
  | some ⟨_, _, .func fd, _⟩ => some (fd.name, fd.qualname, fd.params, fd.body, fd.scope, fd.globals, fd.closure.map (·.1), fd.builtins)
  | _ => none
structure IniD where
  cls : Str
  qual : Str
  params : Arguments
  body : List Stmt
  scope : Scope
def IniD.val (d : IniD) : FnI := some ("__init__", d.qual, d.params, .stmts d.body, d.scope, mainGlobals, ["__class__"], builtinsNs)
/-- its code object (of the file) and its cell (which holds the class) -/
def iniB (file : Str) (K : Fg) (x q : Str) : Bool := match K.lookup (He.ma K (He.ga K x) "__init__") with
  | some ⟨_, _, .func fd, _⟩ => (match fd.code, fd.closure with
    | .ref c, [(_, cc)] => PySem.W.codeIn K (.ref c) q && ((match K.lookup c with
      | some ⟨_, _, .fields vs, _⟩ => (match (vs[2]? : Option Value) with
        | some (.str f _) => (file == f)
        | _ => false)
      | _ => false) && (match K.lookup cc with
      | some ⟨_, _, .cell (some (.ref D)), _⟩ => decide (D = He.ga K x)
      | _ => false))
    | _, _ => false)
  | _ => false
theorem ini_of {K : Fg} {d : IniD} {file : Str} (e : iniW K d.cls = d.val) (c : iniB file K d.cls d.qual = true) :
    ∃ dV kV doc pm an cda ct cc oc od osl, K.lookup (He.ma K (He.ga K d.cls) "__init__") = some ⟨oc, od, .func (PySem.W.ksFn "__init__" d.qual d.params d.body d.scope dV kV doc pm an (.ref cda) ct cc), osl⟩ ∧ PySem.W.codeIn K (.ref cda) d.qual = true ∧
      (∃ cl dd vs sl f tf, K.lookup cda = some ⟨cl, dd, .fields vs, sl⟩ ∧ vs[2]? = some (.str f tf) ∧ (file == f) = true) ∧ ∃ cl dd sl, K.lookup cc = some ⟨cl, dd, .cell (some (.ref (He.ga K d.cls))), sl⟩ := by
  unfold iniW at e
  unfold iniB at c
  split at e
  · rename_i oc od fd osl lk
    rw [lk] at c
    obtain ⟨f1, f2, f3, f4, f5, f6, f7, f8, f9, f10, f11, f12, f13, f14, f15⟩ := fd
    have e2 : (some (f1, f2, f3, f4, f5, f6, f7.map (·.1), f15) : FnI) = (some (("__init__" : Str), d.qual, d.params, FuncBody.stmts d.body, d.scope, mainGlobals, ["__class__"], builtinsNs) : FnI) := e
    simp only [Prod.mk.injEq, Option.some.injEq] at e2
    obtain ⟨a1, a2, a3, a4, a5, a6, h7, a8⟩ := e2
    subst a1 a2 a3 a4 a5 a6 a8
    dsimp only at c
    split at c
    · rename_i cda y cc
      have ey : y = "__class__" := by simpa using h7
      subst ey
      obtain ⟨c1, c2⟩ := He.ba c
      obtain ⟨c3, c4⟩ := He.ba c2
      refine ⟨f8, f9, f10, f11, f12, cda, f14, cc, oc, od, osl, lk, c1, ?_, ?_⟩
      · split at c3
        · rename_i cl dd vs sl lc
          split at c3
          · rename_i f tf ev
            exact ⟨cl, dd, vs, sl, f, tf, lc, ev, c3⟩
          · cases c3
        · cases c3
      · split at c4
        · rename_i cl dd D sl lc
          have eD := of_decide_eq_true c4
          subst eD
          exact ⟨cl, dd, sl, lc⟩
        · cases c4
    · cases c
  · cases e
/-! ### a class of errors with an own __init__ -/
def oexB (K : Fg) (C : Addr) : Bool := match K.lookup C with
  | some ⟨.type "type", _, .cls k, sl⟩ => (match k.mro, sl.toList with
    | .ref D :: bm, [_, _, _, _, some (.builtin n), _] => decide (D = C) && (decide (n = "ValueError.__new__") && (k.hasDict && (!k.hasDel && PySem.HandSPX.refsVE bm)))
    | _, _ => false)
  | _ => false
theorem oex_of {K : Fg} {C : Addr} (h : oexB K C = true) : ∃ nm q N bs bm sn sub ab col dd k0 k1 k2 k3 k5, K.lookup C = some (excClassObj nm q C N bs bm true sn sub ab col dd k0 k1 k2 k3 k5 "ValueError.__new__") ∧ PySem.HandSPX.refsVE bm = true := by
  unfold oexB at h
  split at h
  · rename_i dd cd sl lk
    split at h
    · rename_i D bm k0 k1 k2 k3 n k5 em es
      obtain ⟨h1, h2⟩ := He.ba h
      obtain ⟨h3, h4⟩ := He.ba h2
      obtain ⟨h5, h6⟩ := He.ba h4
      obtain ⟨h7, h8⟩ := He.ba h6
      have e1 := of_decide_eq_true h1
      have e3 := of_decide_eq_true h3
      subst e1 e3
      obtain ⟨nm, bs, mro, N, qn, hd, sn, sub, ab, col, del⟩ := cd
      have e5 : hd = true := h5
      have e7 : del = false := by simpa using h7
      dsimp only at em
      subst em e5 e7
      obtain ⟨l⟩ := sl
      dsimp only at es
      subst es
      exact ⟨nm, qn, N, bs, bm, sn, sub, ab, col, dd, k0, k1, k2, k3, k5, lk, h8⟩
    · cases h
  · cases h
/-! ### a def that makes lambdas: its code object, its table -/
def tabB (K : Fg) (x : Str) : Bool := match K.lookup (He.ga K x) with
  | some ⟨_, _, .func made, _⟩ => (match made.code with
    | .ref co => (match K.lookup co with
      | some ⟨_, _, .fields us, _⟩ => (match (us[11]? : Option Value) with
        | some (.ref P) => (K.lookup P).isNone
        | _ => false)
      | _ => false)
    | _ => false)
  | _ => false
theorem tab_of {K : Fg} {x : Str} (h : tabB K x = true) : ∃ oc od fd osl c e dd us sl P, K.lookup (He.ga K x) = some ⟨oc, od, .func fd, osl⟩ ∧ fd.code = .ref c ∧ K.lookup c = some ⟨e, dd, .fields us, sl⟩ ∧ us[11]? = some (.ref P) ∧ K.lookup P = none := by
  unfold tabB at h
  split at h
  · rename_i oc od fd osl lk
    split at h
    · rename_i c ec
      split at h
      · rename_i e dd us sl lc
        split at h
        · rename_i P eP
          exact ⟨oc, od, fd, osl, c, e, dd, us, sl, P, lk, ec, lc, eP, by simpa using h⟩
        · cases h
      · cases h
    · cases h
  · cases h
/-! ### classes of errors: what is below what -/
/-- the class at C is below itself, below those of bs, and below these built-in ones -/
def mroB (K : Fg) (C : Addr) (bs : List Addr) : Bool := match PySem.W.clsIn K C with
  | some cd => decide (cd.mro = (C :: bs).map Value.ref ++ [.type "ValueError", .type "Exception", .type "BaseException", .type "object"])
  | none => false
theorem mro_sub {K : Fg} {C D : Addr} {bs : List Addr} (h : mroB K C bs = true) : PySem.W.subIn K (.ref C) (.ref D) = some (decide (D ∈ C :: bs)) := by
  unfold mroB at h
  split at h
  · rename_i cd e
    have em := of_decide_eq_true h
    show (PySem.W.clsIn K C).bind (fun cd => if cd.mro.isEmpty then none else some (cd.mro.contains (.ref D))) = _
    rw [e, Option.bind_some, em]
    rw [if_neg (by simp)]
    congr 1
    rw [Bool.eq_iff_iff]
    simp
  · cases h
theorem mro_type {K : Fg} {C : Addr} {bs : List Addr} {n : String} (h : mroB K C bs = true) : PySem.W.subIn K (.ref C) (.type n) = some (decide (n ∈ ["ValueError", "Exception", "BaseException", "object"])) := by
  unfold mroB at h
  split at h
  · rename_i cd e
    have em := of_decide_eq_true h
    show (PySem.W.clsIn K C).bind (fun cd => if cd.mro.isEmpty then none else some (cd.mro.contains (.type n))) = _
    rw [e, Option.bind_some, em]
    rw [if_neg (by simp)]
    congr 1
    rw [Bool.eq_iff_iff]
    simp
  · cases h
/-! ### the hook -/
abbrev AlM : Type := Bool × List He.FnW × List FnI
def obsM (fa : List (Fg → Bool)) (fn : List He.DefD) (fi : List IniD) (K : Fg) : AlM := ((fa.all fun f => f K) && fn.all fun d => d.ok K, fn.map fun d => He.fnW K d.at_, fi.map fun d => iniW K d.cls)
def valM (fn : List He.DefD) (fi : List IniD) : AlM := (true, fn.map He.DefD.val, fi.map IniD.val)
def SaysM (fa : List (Fg → Bool)) (fn : List He.DefD) (fi : List IniD) (K : Fg) : Prop := obsM fa fn fi K = valM fn fi
def obsMG (n : Nat) (fa : List (Fg → Bool)) (fn : List He.DefD) (fi : List IniD) (g : Addr → Option Obj) : AlM := obsM fa fn fi (frM g (He.asD g n))
def hookM (n : Nat) (fa : List (Fg → Bool)) (fn : List He.DefD) (fi : List IniD) : PySem.W.Hook where
  α := AlM
  obs := fun s => obsMG n fa fn fi s.heap.get?
  val := fun _ => valM fn fi
  says := fun _ h => ∃ K : Fg, K.In h ∧ SaysM fa fn fi K
  of := fun _ _ e => ⟨_, frM_in, e⟩
  keeps := fun _ _ _ ⟨K, inn, said⟩ k => ⟨K, PySem.W.Frag.In.keeps inn k, said⟩
theorem obsMG_eq {n : Nat} {fa : List (Fg → Bool)} {fn : List He.DefD} {fi : List IniD} {g : Addr → Option Obj} {s : Shared} (h : ∀ a, g a = s.heap.get? a) : obsMG n fa fn fi g = (hookM n fa fn fi).obs s := by
  obtain rfl : g = s.heap.get? := funext h
  rfl
section
variable {fa : List (Fg → Bool)} {fn : List He.DefD} {fi : List IniD} {K : Fg}
theorem SaysM.fact (c : SaysM fa fn fi K) (i : Nat) {f : Fg → Bool} (h : fa[i]? = some f := by rfl) : f K = true := by
  have c1 := (He.ba (show ((fa.all fun f => f K) && fn.all fun d => d.ok K) = true from congrArg (fun z : AlM => z.1) c)).1
  exact (List.all_eq_true.mp c1) f (List.mem_of_getElem? h)
theorem SaysM.def_ (c : SaysM fa fn fi K) (i : Nat) {d : He.DefD} (h : fn[i]? = some d := by rfl) : ∃ fd, FunD K d.name d.qual d.params d.body d.scope (d.dvs K) (d.kws K) (He.fAd K d.at_) fd := by
  have c2 := (He.ba (show ((fa.all fun f => f K) && fn.all fun d => d.ok K) = true from congrArg (fun z : AlM => z.1) c)).2
  have e : fn.map (fun d => He.fnW K d.at_) = fn.map He.DefD.val := congrArg (fun z : AlM => z.2.1) c
  have e2 : (fn.map fun d => He.fnW K d.at_)[i]? = (fn.map He.DefD.val)[i]? := by rw [e]
  simp only [List.getElem?_map, h] at e2
  exact He.DefD.funD (Option.some.inj e2) (List.all_eq_true.mp c2 d (List.mem_of_getElem? h))
theorem SaysM.ini (c : SaysM fa fn fi K) (i : Nat) {d : IniD} (h : fi[i]? = some d := by rfl) : iniW K d.cls = d.val := by
  have e : fi.map (fun d => iniW K d.cls) = fi.map IniD.val := congrArg (fun z : AlM => z.2.2) c
  have e2 : (fi.map fun d => iniW K d.cls)[i]? = (fi.map IniD.val)[i]? := by rw [e]
  simp only [List.getElem?_map, h] at e2
  exact Option.some.inj e2
end
/-- a def without defaults, as the layer wants it -/
theorem fun_of {K : Fg} {x qual : Str} {st : Stmt} {kws : List (Str × V)} {f : Addr} {fd : FuncData} (F : FunD K x qual (defArgs st) (defBody st) (defScope st) [] kws f fd) : Fun K x qual st f fd := by
  obtain ⟨⟨oc, od, dV, kV, doc, pm, an, cdv, ct, osl, e, lk, hc, hd, _⟩, kp⟩ := F
  rcases hd with ⟨_, rfl⟩ | ⟨z, _⟩
  · exact ⟨⟨oc, od, kV, doc, pm, an, cdv, ct, osl, e, lk, hc⟩, kp⟩
  · exact absurd rfl z
theorem walk_quietE {l : PySem.W.OpenLaw} {n k : Nat} {q : Program} {loose : List Str} {XP : (Str → Option Value) → Heap → Prop} {YP : World → Heap → Prop} {d : DefRec} {x : Str}
    (hn : l.most = some n) (hn2 : n ≤ sizeLine) (hdf : d.params.defaults = []) (hr : Room k callerA)
    (F : ∀ (w : World) (mg : Str → Option Value) (fa : Addr) (h : Heap), YP w h → h.Ns mainGlobals mg → TabT q mg h → mg d.name = some (.ref fa) → ∃ K : Fg, K.In h ∧ LawQ l w K k n x mg fa h) : PySem.W.WalkO q loose XP YP (l.row.toRowW) d [] (fun f vs => PySem.call f vs) := by
  refine Att.attach_callB hn hdf fun w s₀ s₁ mg mb fa o pm cd doc a vs ns G Y ho hd hcd hmg hobj hints hlen hbits hg => ?_
  obtain ⟨K, KX, fd, ts, sp, hC, nT, hb, hsp, hF⟩ := F w mg fa _ Y G.T.g G.T.tab hmg
  refine quiet_callT KX G.T.g G.T.b G.T.builtins G.T.nolimit hg (fun p hp => (hC p hp).2) nT (fun p hp => (hC p hp).1) G.T.bmain hobj hints (Nat.le_trans hlen hn2) hr hF hb (fun H hO hP hS => hsp H a ns hlen hbits hO hP hS) fun H e s' z => ?_
  obtain ⟨_, _, _, _, _, _, _, _, _, _, _, _, z⟩ := z
  exact z
end MP

set_option Elab.async false
set_option linter.all false
set_option maxRecDepth 100000
set_option maxHeartbeats 2100000
/-! MPPiece: the head in a few kernel runs, the states between told as terms. -/
noncomputable section
namespace MP
open PySem PySem.W PySem.Calls PyProof.Rows HandSHeadRun
/-! ### so many steps -/
section
variable (go1 : SharedT → Thread → Option (SharedT × Thread)) (n0 : Nat) (ann : Option Value)
noncomputable def goS : Nat → SharedT → Thread → Option (SharedT × Thread)
  | 0, s, t => some (s, t)
  | m + 1, s, t => match through t with
    | true => none
    | false => match stepOk n0 ann t with
      | false => none
      | true => match go1 s t with
        | some (a, b) => frS a fun a => goS m a b
        | none => none
/-- .. of a row of statements, to its end -/
noncomputable def goP : Nat → SharedT → Thread → Option (Flow × SharedT × Code × Pos)
  | 0, _, _ => none
  | m + 1, s, t => match endAt 1 t with
    | some f => some (f, s, t.code, t.pos)
    | none => match stepOk n0 ann t with
      | false => none
      | true => match go1 s t with
        | some (a, b) => frS a fun a => goP m a b
        | none => none
end
theorem goS_ok {tb : String → Option Builtin} {p : Program} {w : World} {n0 : Nat} {ann : Option Value} : ∀ {m : Nat} {s s' : SharedT} {t t' : Thread}, goS (stepT (denote tb) p w) n0 ann m s t = some (s', t') → topGo tb p w n0 ann m s.abs t = some (s'.abs, t')
  | 0, _, _, _, _, h => by cases h; rfl
  | m + 1, s, s', t, t', h => by
    unfold goS at h
    unfold topGo
    cases e1 : through t with
    | true => rw [e1] at h; cases h
    | false =>
      rw [e1] at h
      cases e2 : stepOk n0 ann t with
      | false => rw [e2] at h; cases h
      | true =>
        rw [e2] at h
        cases e3 : stepT (denote tb) p w s t with
        | none => rw [e3] at h; cases h
        | some r =>
          obtain ⟨a, b⟩ := r
          rw [e3] at h
          dsimp only at h ⊢
          rw [frS_eq] at h
          rw [stepT_spec e3]
          exact goS_ok h
theorem goP_ok {tb : String → Option Builtin} {p : Program} {w : World} {n0 : Nat} {ann : Option Value} : ∀ {m : Nat} {s s' : SharedT} {t : Thread} {f : Flow} {c : Code} {q : Pos}, goP (stepT (denote tb) p w) n0 ann m s t = some (f, s', c, q) → segRun tb p w n0 ann 1 m s.abs t = some (f, s'.abs, c, q)
  | 0, _, _, _, _, _, _, h => by cases h
  | m + 1, s, s', t, f, c, q, h => by
    unfold goP at h
    unfold segRun
    cases e1 : endAt 1 t with
    | some g => rw [e1] at h; cases h; rfl
    | none =>
      rw [e1] at h
      cases e2 : stepOk n0 ann t with
      | false => rw [e2] at h; cases h
      | true =>
        rw [e2] at h
        cases e3 : stepT (denote tb) p w s t with
        | none => rw [e3] at h; cases h
        | some r =>
          obtain ⟨a, b⟩ := r
          rw [e3] at h
          dsimp only at h ⊢
          rw [frS_eq] at h
          rw [stepT_spec e3]
          exact goP_ok h
/-! ### trees written out -/
noncomputable def nfT {α : Type} : PySem.W.BT → (PySem.W.BT → α) → α
  | .nil, k => k .nil
  | .node v l r, k => nfT l fun l => nfT r fun r => k (.node v l r)
theorem nfT_eq {α : Type} : ∀ (t : PySem.W.BT) (k : PySem.W.BT → α), nfT t k = k t
  | .nil, k => rfl
  | .node v l r, k => by
    show (nfT l fun l => nfT r fun r => k (.node v l r)) = _
    rw [nfT_eq l, nfT_eq r]
noncomputable def nfS {α : Type} (s : SharedT) (k : SharedT → α) : α := match s with
  | ⟨T, n, life, gens, drawn, toks, os⟩ => nfT T fun T => k ⟨T, n, life, gens, drawn, toks, os⟩
theorem nfS_eq {α : Type} (s : SharedT) (k : SharedT → α) : nfS s k = k s := by
  obtain ⟨T, n, lf, gs, dr, tk, os⟩ := s
  exact nfT_eq _ _
/-- a state, by the list of its objects -/
noncomputable def listT : List Obj → PySem.W.BT → Nat → PySem.W.BT × Nat
  | [], t, n => (t, n)
  | o :: r, t, n => listT r (t.ins n o) (n + 1)
noncomputable def stOf (life : Life) (os : OsState) (l : List Obj) (toks : Nat) : SharedT := match listT l .nil 0 with
  | (T, n) => frNat n fun n => ⟨T, n, life, #[], boot_drawn, toks, os⟩
theorem put_list : ∀ {l : List Obj} {t t' : PySem.W.BT} {n n' : Nat}, HandSHeadRun.putAll l t n = some (t', n') → listT l t n = (t', n')
  | [], _, _, _, _, h => by cases h; rfl
  | o :: r, t, t', n, n', h => by
    unfold HandSHeadRun.putAll at h
    cases e : ((t.ins n o).get n).isSome with
    | false => rw [e] at h; cases h
    | true =>
      rw [e] at h
      show listT r (t.ins n o) (n + 1) = _
      exact put_list (show HandSHeadRun.putAll r (t.ins n o) (n + 1) = some (t', n') from h)
/-! ### one piece -/
abbrev QRun (p : Program) (w : World) := stepQ (denQ tabQ) p w
theorem QRun_eq (p : Program) (w : World) : stepT (denote treeTable) p w = QRun p w := by
  show _ = stepQ (denQ tabQ) p w
  rw [stepQ_eq, denQ_eq, tabQ_eq]
theorem piece_of {p : Program} {w : World} {n0 m : Nat} {ann : Option Value} {s s' : SharedT} {t : Thread} {c : Code} {q : Pos}
    (h : (goP (QRun p w) n0 ann m s t).map (fun r => (r.1, nfS r.2.1 id, r.2.2)) = some (Flow.next, nfS s' id, c, q)) : segRun treeTable p w n0 ann 1 m s.abs t = some (.next, s'.abs, c, q) := by
  rw [← QRun_eq] at h
  obtain ⟨⟨f, s2, c2, q2⟩, h1, h2⟩ := Option.map_eq_some_iff.mp h
  simp only [nfS_eq, id] at h2
  cases h2
  exact goP_ok h1
theorem start_of {p : Program} {w : World} {n0 m : Nat} {ann : Option Value} {s s' : SharedT} {t t' : Thread}
    (h : (goS (QRun p w) n0 ann m s t).map (fun r => (nfS r.1 id, r.2)) = some (nfS s' id, t')) : topGo treeTable p w n0 ann m s.abs t = some (s'.abs, t') := by
  rw [← QRun_eq] at h
  obtain ⟨⟨s2, t2⟩, h1, h2⟩ := Option.map_eq_some_iff.mp h
  simp only [nfS_eq, id] at h2
  cases h2
  exact goS_ok h1
theorem last_of {p : Program} {w : World} {n0 m : Nat} {ann : Option Value} {s : SharedT} {t : Thread} {α : Type} {F : SharedT → α} {a : α}
    (h : (goF (QRun p w) n0 ann m s t).map F = some a) : ∃ s' : SharedT, topRun treeTable p w n0 ann m s.abs t = some s'.abs ∧ F s' = a := by
  rw [← QRun_eq] at h
  obtain ⟨s2, h1, h2⟩ := Option.map_eq_some_iff.mp h
  exact ⟨s2, goF_ok h1, h2⟩
/-- the boot's state -/
theorem boot_abs {w : World} {os : OsState} {t : PySem.W.BT} {n : Nat} (e : HandSHeadRun.putAll (boot_heap w.params).objs.toList .nil 0 = some (t, n)) :
    (stOf (boot_heap w.params).life os (boot_heap w.params).objs.toList boot_toks).abs = ⟨boot_heap w.params, #[], boot_drawn, boot_toks, os⟩ := by
  unfold stOf
  rw [put_list e]
  dsimp only
  rw [frNat_eq]
  show Shared.mk (absHeap t n (boot_heap w.params).life) #[] boot_drawn boot_toks os = _
  rw [putAll_heap e]
/-! ### the law, by what the top leaves -/
/-- what must be seen of the state behind the top -/
noncomputable def seesE (r : OpenRow) (q : Program) (loose : List PySem.Str) (w : World) (s : SharedT) :=
  (looksF r.prog (boot_heap w.params) s.abs, seenQ q loose (importedModules r.prog.main.body) (fun s => xlAt q [] s && recOk r.toRowW.records s) s.abs)
noncomputable def TopEnds (r : OpenRow) (q : Program) (H : Hook) (ob : SharedT → H.α) (M : Nat) (loose : List PySem.Str) (w : World) : Prop :=
  ∀ os : OsState, ∃ s : SharedT, topRun treeTable r.prog w (boot_heap w.params).objs.size (bootAnn w) M ⟨boot_heap w.params, #[], boot_drawn, boot_toks, os⟩ (topStub r.prog) = some s.abs ∧
    (seesE r q loose w s, ob s) = ((true, openGood q loose), H.val w)
theorem left_ends {p q : Program} {loose : List PySem.Str} {Xt : Shared → Bool} {α : Type} {Yf : Shared → α} {Ya : World → α} {N M : Nat}
    (e : opening p = plainProg p.main.scope.names) (hN : Nat.ble 600 N = true) (f : ∀ s, fenceModules? p s = some s) (le : M ≤ N)
    (run : ∀ (w : World) (os : OsState), ∃ s : SharedT, topRun treeTable p w (boot_heap w.params).objs.size (bootAnn w) M ⟨boot_heap w.params, #[], boot_drawn, boot_toks, os⟩ (topStub p) = some s.abs ∧
      looksF p (boot_heap w.params) s.abs = true ∧ openSeen q loose (importedModules p.main.body) Xt true s.abs = openGood q loose ∧ Yf s.abs = Ya w) : LeftO p q loose Xt Yf Ya N true := fun w => by
  obtain ⟨s0, a, a2⟩ := Option.map_eq_some_iff.mp (boot_open e hN f w)
  obtain ⟨h, gs, d, k, os⟩ := s0
  simp only [Prod.mk.injEq] at a2
  obtain ⟨e1, e2, e3, e4⟩ := a2
  subst e1 e2 e3 e4
  obtain ⟨s, hs, l1, l2, l3⟩ := run w os
  have r := topRun_mono (N - M) _ _ _ _ hs
  rw [show M + (N - M) = N by omega] at r
  unfold looksF at l1
  unfold openEnds
  rw [a, Option.bind_some]
  have tf : topFrom treeTable p w N ⟨boot_heap w.params, Array.mk [], boot_drawn, boot_toks, os⟩ = some s.abs := by
    unfold topFrom
    dsimp only
    rw [boot_ns]
    show Option.bind (topRun treeTable p w (boot_heap w.params).objs.size (bootAnn w) N ⟨boot_heap w.params, #[], boot_drawn, boot_toks, os⟩ (topStub p)) _ = _
    rw [r, Option.bind_some, l1]
  rw [tf, Option.map_some]
  refine congrArg some (Prod.ext ?_ ?_)
  · exact l2
  · exact l3
theorem head_ends {r : OpenRow} {q : Program} {H : Hook} {ob : SharedT → H.α} {M : Nat} {loose : List PySem.Str} {d : DefRec} {kws : List (PySem.Str × PySem.Expr)} (ho : ∀ s : SharedT, ob s = H.obs s.abs)
    (e : opening r.prog = plainProg r.prog.main.scope.names) (f : ∀ s, fenceModules? r.prog s = some s) (run : ∀ w, TopEnds r q H ob M loose w) (hd : defOf q r.name = some (d, kws))
    (ht : r.prog.theDef r.name = some (d.params, d.body, d.scope)) (hkw : kwWritten? d.params.kwonlyargs d.params.kw_defaults = some kws) (hwr : (!r.writes || r.records.isEmpty) = true) (said : r.wellSaid = true)
    (ok : (chainsOk q && opensWell r.prog && (frees r.toRowW && r.within.isEmpty)) = true) (bare : r.prog.bare) (prom : r.toRowW.promised) (call : WalkO q loose (XL q []) H.says r.toRowW d kws fun f vs => PySem.call f vs) : r.Holds := by
  refine holds_open (N := M + 600) (r := r) (q := q) (loose := loose) (Xt := fun s => xlAt q [] s && recOk r.toRowW.records s) (Yf := H.obs) (Ya := H.val) (XP := XL q []) (YP := H.says) (d := d) (kwd := kws) ?_ H.of H.keeps (fun s z => xl_of s (Bool.and_eq_true_iff.mp z).1) XL.keeps hd ht hkw (fun s z => recFacts_of (Bool.and_eq_true_iff.mp z).2) hwr said ok bare prom call
  refine left_ends e (Nat.ble_eq_true_of_le (by omega)) f (Nat.le_add_right M 600) fun w os => ?_
  obtain ⟨s, h1, h2⟩ := run w os
  unfold seesE at h2
  simp only [Prod.mk.injEq] at h2
  obtain ⟨⟨h3, h4⟩, h5⟩ := h2
  refine ⟨s, h1, h3, ?_, ?_⟩
  · rw [seenQ_eq]
    exact h4
  · rw [← ho]
    exact h5
end MP
end

set_option Elab.async false
set_option linter.all false
set_option maxRecDepth 100000
set_option maxHeartbeats 2100000
/-! MPEnumL: enumerate over a locked list. -/
namespace MP
open PySem PySem.Spec PyProof.Rows L2 MP
def IteL (K : PySem.W.Frag) (a : Addr) : It :=
  ⟨fun i H => ∃ (xs : List V) (x : V), SqL K H a xs ∧ xs[i]? = some x, fun i H v H' => ∃ T x, v = .ref T ∧ H T = none ∧ H' = upd H T (.tup [.int (i : Nat), x]) ∧ ∀ xs, SqL K H a xs → xs[i]? = some x, fun i H => ∃ xs : List V, SqL K H a xs ∧ xs.length = i⟩
theorem turn_enumL {P : Program} {w : World} {K : PySem.W.Frag} {elts : List Expr} {kk : Nat} {tpos : Pos} (a e it : Addr) :
    Turn P w K (.Tuple elts kk tpos) (IteL K a) [e, it] e (fun i h => (∃ old, IsEnum h e it ((i : Nat) : Int) old) ∧ h.IsListIter it a i ∧ e ≠ it ∧ a ≠ it ∧ a ≠ e) where
  mem := by simp
  obj := by
    rintro i h ⟨⟨old, he⟩, ⟨o, ho, hc, hd⟩, -⟩ b hb
    rcases (by simpa using hb : b = e ∨ b = it) with rfl | rfl
    · exact ⟨_, he, nofun⟩
    · exact ⟨o, ho, fun v q => (by rw [hd] at q; cases q)⟩
  keep := fun i h h' ⟨⟨old, he⟩, hi, ne⟩ k => ⟨⟨old, k e (by simp) _ he⟩, hi.at fun o q => k it (by simp) o q, ne⟩
  item := by
    intro X hP hw hK calm i pnl s σ H E I free ⟨⟨old, he⟩, hit, n1, n2, n3⟩ ⟨xs, x, hq, hx⟩
    subst hP hw hK
    have ⟨its, rv, p, hz⟩ := I.list hq
    have ⟨u, hu, ru⟩ := rv.get hx
    have lt : i < its.toArray.size := by
      have := (List.getElem?_eq_some_iff.mp hu).1
      simpa using this
    have le : e < s.heap.objs.size := Heap.lt_size he
    have li : it < s.heap.objs.size := let ⟨_, q, _⟩ := hit; Heap.lt_size q
    have D := Draws.list (prog := X.prog) (w := X.w) (A := X.A.in1) (I.ok.hd calm) it a n2 its.toArray
    apply wpAny_pyNext_enum_itemD D he ⟨hit, p.isList⟩ lt n1 (by simp [n1, Ne.symm n3])
    intro y h' tk py out st hT hsz keep
    have ey : y = u := by
      have py' : its.toArray[i]? = some y := py
      have z : its[i]? = some y := by simpa using py'
      rw [hu] at z
      exact (Option.some.inj z).symm
    subst ey
    refine ⟨_, rfl, wpAny_letOwnedTupleGo_enum (s := { s with heap := h', toks := tk + 1 }) out fun h'' he' sb => ?_⟩
    have at3 : h''.get? s.heap.objs.size = some { cls := .type "tuple", data := .seq #[.int i tk, y] } := (sb.2 _ (Nat.ne_of_gt le)).trans hT
    have new : ObjOk X.prog X.w (upd H s.heap.objs.size (.tup [.int (i : Nat), x])) h'' s.heap.objs.size ((.tup [.int (i : Nat), x])) :=
      ⟨by show 2 ≤ sizeLine; decide, [.int i tk, y], .cons ⟨_, rfl⟩ (.cons ru .nil), ⟨_, at3, rfl, _, rfl⟩⟩
    have J : Inv X pnl σ (upd H s.heap.objs.size (.tup [.int (i : Nat), x])) { s with heap := h'', toks := tk + 1 } :=
      I.turnedNew (ch := [e, it]) (fun b ob hb q => (sb.2 b (fun z => hb (by simp [z]))).trans (keep b ob (fun z => hb (by simp [z])) (fun z => hb (by simp [z])) q)) free (Nat.le_refl _) new
    refine ⟨.ref s.heap.objs.size, _, J, rfl, ⟨_, x, rfl, I.hok.fresh (Nat.le_refl _), rfl, fun ys hy => ?_⟩, ⟨⟨y, ?_⟩, st.1.at fun o q => (sb.2 it (Ne.symm n1)).trans q, n1, n2, n3⟩, fun b hb => ?_⟩
    · rw [I.list_inj hy hq]
      exact hx
    · rw [show ((i + 1 : Nat) : Int) = (i : Int) + 1 by omega]
      exact he'
    · have lb : b < s.heap.objs.size := by
        rcases (by simpa using hb : b = e ∨ b = it) with rfl | rfl
        · exact le
        · exact li
      rw [upd_ne (Nat.ne_of_lt lb)]
      exact (free b hb).1
  done := by
    intro X hP hw hK calm i pnl s σ H E I free ⟨⟨old, he⟩, hit, n1, n2, n3⟩ ⟨xs, hq, hx⟩
    subst hP hw hK
    have ⟨its, rv, p, hz⟩ := I.list hq
    have ⟨f0, f1, f2, f3, f4, f5⟩ := free it (by simp)
    have all : its.toArray.size = i := by rw [List.size_toArray, ← rv.length]; exact hx
    have D := Draws.list (prog := X.prog) (w := X.w) (A := X.A.in1) (I.ok.hd calm) it a n2 its.toArray
    subst all
    exact wpAny_pyNext_enum_endD D he ⟨hit, p.isList⟩ fun h' eb => ⟨rfl, I.turned (t' := s.toks) (fun b o hb q => eb b o hb q) f0 f1 f3 f4 f5⟩
  self := fun A i s Q E ⟨⟨_, he⟩, _⟩ h => wpAny_pyIter_enum he h
def iEnumLV (K : PySem.W.Frag) (ta : TA) : TI := fun σ H R => ta σ H fun vs H1 => ∃ a xs, vs = [.ref a] ∧ SqL K H1 a xs ∧ R (IteL K a) H1
theorem pi_enumL {X : Cx} {e : Expr} {ta : TA} {p pos tpos : Pos} {elts : List Expr} {kk : Nat} (hg : Gl X "enumerate") (hm : X.mg "enumerate" = none) (ha : PA X [e] ta) (hs : starEach [e] X.env = [(false, eval e X.env)] := by rfl) :
    PI X (.Tuple elts kk tpos) (.Call (.Name "enumerate" p) [e] [] pos) (iEnumLV X.K ta) := by
  constructor
  intro pnl s σ H R I h
  refine Call_ (ld_blt I hg hm boot_enumerate (PyProof.Rows.callWith_type1 (thn (ha.run pos pnl s σ H _ I h) ?_) hs rfl))
  rintro us s1 ⟨vs, H1, I1, r1, a, xs, rfl, hq, q⟩
  cases r1 with
  | cons r rr =>
    cases rr
    cases r
    have ⟨its, rv, tp, hz⟩ := I1.list hq
    have la : a < s1.heap.objs.size := tp.lt
    apply enum_one (begins_list a its.toArray) tp.isList
    intro h' he hi keep
    apply wpAny_pyIter_enum he
    have I2 : Inv X pnl σ H1 { s1 with heap := h' } := I1.kept (t' := s1.toks) keep
    refine ⟨s1.heap.objs.size + 1, [s1.heap.objs.size + 1, s1.heap.objs.size], _, _, H1, rfl, I2, turn_enumL a (s1.heap.objs.size + 1) s1.heap.objs.size, ⟨⟨.none, he⟩, ⟨_, hi, rfl, rfl⟩, Nat.succ_ne_self _, Nat.ne_of_lt la, Nat.ne_of_lt (Nat.lt_succ_of_lt la)⟩, fun b hb => ?_, q⟩
    have le : s1.heap.objs.size ≤ b := by
      rcases (by simpa using hb : b = s1.heap.objs.size + 1 ∨ b = s1.heap.objs.size) with rfl | rfl
      · exact Nat.le_succ _
      · exact Nat.le_refl _
    exact I1.fpOk le (I1.hok.fresh le)
theorem yields_enumL {K : PySem.W.Frag} {H : Hp} {a : Addr} {ds : List D} {vs : List V} (st : ∀ H', Imm H H' → SqL K H' a vs) (rs : Rels K H ds vs) : Yields K (IteL K a) (enumD 0 ds) H where
  go := fun i H' hi im => by
    rw [enumD_len] at hi
    have ⟨v, ev, _⟩ := rs.get (i := i) (List.getElem?_eq_getElem hi)
    exact ⟨vs, v, st _ im, ev⟩
  stop := fun H' im => ⟨vs, st _ im, by rw [enumD_len, rs.length]⟩
  yld := fun i H' x H2 d ed im ⟨T, y, ex, hT, eH, hx⟩ => by
    have ⟨dx, edx, e⟩ := enumD_get 0 ds i d ed
    subst e ex eH
    have ⟨v, ev, rv⟩ := rs.get edx
    have e2 := hx vs (st _ im)
    rw [ev] at e2
    cases (Option.some.inj e2)
    refine ⟨.inr ⟨T, _, hT, rfl⟩, T, _, rfl, .inl (.inl upd_same), .int (i : Nat), [y], rfl, ?_, y, [], rfl, Rel.imm (im.trans (upd_imm hT)) _ _ rv, rfl⟩
    show V.int (i : Nat) = V.int ((0 + i : Nat) : Int)
    rw [Nat.zero_add]

def onLst (d : D) (k : List D → Prop) : Prop := match d with
  | .lst ds => k ds
  | _ => False
def iEnumL (fa : EA) : EI := fun ρ S Q E => fa ρ S (fun ds S1 => match ds with
  | [d] => onLst d fun xs => Q (enumD 0 xs) S1
  | _ => False) E
theorem iEnumL_i {fa : EA} {ρ : MP.Env} {S : Store} {Q : List D → Store → Prop} {E : XPost} (q : fa ρ S (fun ds S1 => match ds with
  | [d] => onLst d fun xs => Q (enumD 0 xs) S1
  | _ => False) E) : iEnumL fa ρ S Q E := q
theorem i_enumL {X : Cx} {W : WX} {e : Expr} {fa : EA} {p pos tpos : Pos} {elts : List Expr} {kk : Nat} (hg : Gl X "enumerate") (hm : X.mg "enumerate" = none) (ha : PA X [e] (rdA X.K W 1 fa)) (hs : starEach [e] X.env = [(false, eval e X.env)] := by rfl) :
    PI X (.Tuple elts kk tpos) (.Call (.Name "enumerate" p) [e] [] pos) (rdI X.K W (iEnumL fa)) :=
  PI_imp (pi_enumL hg hm ha hs) fun σ H R ⟨ρ, S, Qd, Ed, hρ, hS, hf, y, lx⟩ => by
    refine ⟨ρ, S, _, Ed, hρ, hS, hf, fun ds S1 vs H1 e1 r1 q1 hl h1 => ?_, lx⟩
    dsimp only at h1
    split at h1
    · rename_i d
      obtain ⟨v, rfl, rv⟩ := Rels.one q1
      cases d with
      | lst xs =>
        obtain ⟨a, ws, rfl, ht, rs⟩ := rv
        exact ⟨a, ws, rfl, ht.seq, y (enumD 0 xs) S1 _ H1 e1 r1 (yields_enumL (fun H' im => (im.fzL ht).seq) rs) h1⟩
      | _ => exact h1.elim
    · exact h1.elim

end MP

set_option Elab.async false
set_option linter.all false
set_option maxRecDepth 100000
set_option maxHeartbeats 2100000
/-! MPBig: many classes of errors, told by a list of their names. -/
namespace MP
open PySem PySem.Spec PyProof.Rows L2 MP
/-- the place of an address in a row -/
def ixA : List Addr → Addr → Option Nat
  | [], _ => none
  | b :: r, a => if a = b then some 0 else (ixA r a).map (· + 1)
theorem ixA_inv : ∀ {l : List Addr} {a : Addr} {i : Nat}, ixA l a = some i → l[i]? = some a
  | [], _, _, h => nomatch h
  | b :: r, a, i, h => by
    unfold ixA at h
    by_cases e : a = b
    · rw [if_pos e] at h
      cases h
      rw [e]
      rfl
    · rw [if_neg e] at h
      obtain ⟨j, h1, h2⟩ := Option.map_eq_some_iff.mp h
      subst h2
      rw [List.getElem?_cons_succ]
      exact ixA_inv h1
theorem ixA_get : ∀ {l : List Addr} {a : Addr} {i : Nat}, l.Nodup → l[i]? = some a → ixA l a = some i
  | [], _, _, _, h => nomatch h
  | b :: r, a, 0, _, h => by
    have e : b = a := by simpa using h
    subst e
    unfold ixA
    rw [if_pos rfl]
  | b :: r, a, i + 1, nd, h => by
    rw [List.getElem?_cons_succ] at h
    obtain ⟨n1, n2⟩ := List.nodup_cons.mp nd
    have ne : a ≠ b := fun z => n1 (by rw [← z]; exact List.mem_of_getElem? h)
    unfold ixA
    rw [if_neg ne, ixA_get n2 h]
    rfl
/-- the class at the i-th name -/
def gaI (K : Fg) (N : List Str) (i : Nat) : Addr := He.ga K (N.getD i "")
theorem gaI_get {K : Fg} {N : List Str} {i : Nat} (hi : i < N.length) : (N.map (He.ga K))[i]? = some (gaI K N i) := by
  rw [List.getElem?_map, List.getElem?_eq_getElem hi]
  show some (He.ga K N[i]) = some (He.ga K (N.getD i ""))
  rw [List.getD_eq_getElem?_getD, List.getElem?_eq_getElem hi]
  rfl
def nmI (K : Fg) (N : List Str) (a : Addr) : Option Nat := ixA (N.map (He.ga K)) a
theorem nmI_get {K : Fg} {N : List Str} {i : Nat} (nd : (N.map (He.ga K)).Nodup) (hi : i < N.length) : nmI K N (gaI K N i) = some i := ixA_get nd (gaI_get hi)
theorem nmI_inv {K : Fg} {N : List Str} {a : Addr} {i : Nat} (h : nmI K N a = some i) : i < N.length ∧ a = gaI K N i := by
  have e := ixA_inv h
  have hl : i < (N.map (He.ga K)).length := (List.getElem?_eq_some_iff.mp e).1
  rw [List.length_map] at hl
  rw [gaI_get hl] at e
  exact ⟨hl, (Option.some.inj e).symm⟩
theorem gaI_inj {K : Fg} {N : List Str} {i j : Nat} (nd : (N.map (He.ga K)).Nodup) (hi : i < N.length) (hj : j < N.length) (e : gaI K N i = gaI K N j) : i = j := by
  have h := nmI_get nd hi
  rw [e, nmI_get nd hj] at h
  exact (Option.some.inj h).symm
/-- what isinstance and the fields ask of a class -/
def xcB (K : Fg) (C : Addr) : Bool := He.eqO (PySem.W.findIn K (.ref C) "__getattribute__") (some (some (.builtin "BaseException.__getattribute__"))) && (He.eqO (PySem.W.findIn K (.ref C) "__getattr__") (some none) && (PySem.W.hasDictIn K C &&
  (He.eqO (PySem.W.findIn K (.ref C) "__class__") (some (some (.builtin "object.__class__"))) && (He.eqO (PySem.W.specialIn K (.builtin "object.__class__") "__get__") (some (some (.builtin "getset_descriptor.__get__"))) && decide (PySem.W.takesIn K (.builtin "object.__class__") = some true)))))
theorem xc_of {K : Fg} {C : Addr} {bs : List Addr} (h : xcB K C = true) (m : mroB K C bs = true) : ExcC K C := by
  obtain ⟨h1, h⟩ := He.ba h
  obtain ⟨h2, h⟩ := He.ba h
  obtain ⟨h3, h⟩ := He.ba h
  obtain ⟨h4, h⟩ := He.ba h
  obtain ⟨h5, h6⟩ := He.ba h
  exact ⟨He.eqO_ok h1, He.eqO_ok h2, (mro_type m).trans (congrArg some (by decide)), h3, He.eqO_ok h4, He.eqO_ok h5, of_decide_eq_true h6, (mro_type m).trans (congrArg some (by decide))⟩
/-- one class: where it stands, its base classes (places), what it is -/
def clsB (K : Fg) (N : List Str) (par : Nat → List Nat) (i : Nat) : Bool := (He.Fa.glo (N.getD i "")).ok K && (xcB K (gaI K N i) && (mroB K (gaI K N i) ((par i).map (gaI K N)) && (PySem.W.isClsIn K (gaI K N i) && (decide (PySem.W.typeIn K (.ref (gaI K N i)) = some (.type "type")) && PySem.W.keepIn K (.ref (gaI K N i))))))
structure ClsI (K : Fg) (N : List Str) (par : Nat → List Nat) (i : Nat) : Prop where
  glo : (He.Fa.glo (N.getD i "")).ok K = true
  xc : ExcC K (gaI K N i)
  mro : mroB K (gaI K N i) ((par i).map (gaI K N)) = true
  cls : PySem.W.isClsIn K (gaI K N i) = true
  ty : PySem.W.typeIn K (.ref (gaI K N i)) = some (.type "type")
  kp : PySem.W.keepIn K (.ref (gaI K N i)) = true
theorem cls_of {K : Fg} {N : List Str} {par : Nat → List Nat} {i : Nat} (h : clsB K N par i = true) : ClsI K N par i := by
  obtain ⟨h1, h⟩ := He.ba h
  obtain ⟨h2, h⟩ := He.ba h
  obtain ⟨h3, h⟩ := He.ba h
  obtain ⟨h4, h⟩ := He.ba h
  obtain ⟨h5, h6⟩ := He.ba h
  exact ⟨h1, xc_of h2 h3, h3, h4, of_decide_eq_true h5, h6⟩
theorem cls_ve {K : Fg} {N : List Str} {par : Nat → List Nat} {i : Nat} (c : ClsI K N par i) : PySem.W.kitOne K (.ref (gaI K N i)) (.type "ValueError") = some true := by
  have h : PySem.W.subIn K (.ref (gaI K N i)) (.type "ValueError") = some true := (mro_type c.mro).trans (congrArg some (by decide))
  unfold PySem.W.kitOne
  split
  · rfl
  · show (if PySem.W.kitMeta "ValueError" = true then PySem.W.subIn K (.ref (gaI K N i)) (.type "ValueError") else none) = some true
    rw [if_pos (by decide)]
    exact h
/-- which is below which -/
theorem cls_kit {K : Fg} {N : List Str} {par : Nat → List Nat} {bel : Nat → List Nat} (nd : (N.map (He.ga K)).Nodup) (all : ∀ i, i < N.length → ClsI K N par i) (hb : ∀ i, i < N.length → (bel i).all (fun j => decide (j = i) || (par i).contains j) = true ∧ (bel i).contains i = true ∧ (par i).all (fun j => decide (j < N.length) && (bel i).contains j) = true)
    {i j : Nat} (hi : i < N.length) (hj : j < N.length) : PySem.W.kitOne K (.ref (gaI K N i)) (.ref (gaI K N j)) = some ((bel i).contains j) ∧ PySem.W.exmOne K (.ref (gaI K N i)) (.ref (gaI K N j)) = some ((bel i).contains j) := by
  have ci := all i hi
  have cj := all j hj
  obtain ⟨b1, b2, b3⟩ := hb i hi
  have hs : PySem.W.subIn K (.ref (gaI K N i)) (.ref (gaI K N j)) = some ((bel i).contains j) := by
    rw [mro_sub ci.mro]
    congr 1
    rw [Bool.eq_iff_iff, decide_eq_true_eq]
    constructor
    · intro m
      rcases List.mem_cons.mp m with e | m
      · rw [gaI_inj nd hj hi e]
        exact b2
      · obtain ⟨k, hk, e⟩ := List.mem_map.mp m
        have z := List.all_eq_true.mp b3 k hk
        rw [Bool.and_eq_true, decide_eq_true_eq] at z
        rw [← gaI_inj nd z.1 hj e]
        exact z.2
    · intro m
      have m' : j ∈ bel i := by simpa using m
      have z := List.all_eq_true.mp b1 j m'
      rw [Bool.or_eq_true, decide_eq_true_eq] at z
      rcases z with e | z
      · rw [e]
        exact List.mem_cons_self
      · exact List.mem_cons_of_mem _ (List.mem_map.mpr ⟨j, by simpa using z, rfl⟩)
  have hk : PySem.W.kitCls K (.ref (gaI K N i)) (.ref (gaI K N j)) = some ((bel i).contains j) := by
    have e2 : ((PySem.W.clsIn K (gaI K N j)).isSome && PySem.W.typeIn K (.ref (gaI K N j)) == some (.type "type")) = true := by
      have h2 : (PySem.W.clsIn K (gaI K N j)).isSome = true := cj.cls
      rw [h2, cj.ty]
      rfl
    show (if ((PySem.W.clsIn K (gaI K N j)).isSome && PySem.W.typeIn K (.ref (gaI K N j)) == some (.type "type")) = true then PySem.W.subIn K (.ref (gaI K N i)) (.ref (gaI K N j)) else none) = _
    rw [if_pos e2, hs]
  refine ⟨?_, ?_⟩
  · unfold PySem.W.kitOne
    split
    · rename_i h
      have h' := eq_of_beq h
      injection h' with h'
      rw [gaI_inj nd hi hj h'] at b2 ⊢
      rw [b2]
    · exact hk
  · unfold PySem.W.exmOne
    rw [show PySem.W.subIn K (.ref (gaI K N j)) (.type "BaseException") = some true from cj.xc.hs]
    exact hk
end MP

set_option Elab.async false
set_option linter.all false
set_option maxRecDepth 100000
set_option maxHeartbeats 4100000
/-! the mirrors of the defs -/
namespace K24
open PySem PySem.Spec PyProof.Rows L2 MP

/-- where things stand behind the top -/
structure Ad where
  f_law_begun : Addr
  d_law_begun : FuncData
  f_law_mixed : Addr
  d_law_mixed : FuncData
  f_law_take : Addr
  d_law_take : FuncData
  f_law_pick : Addr
  d_law_pick : FuncData
  f_law_plain_errors : Addr
  d_law_plain_errors : FuncData
  f_law_told_errors : Addr
  d_law_told_errors : FuncData
  f_law_classes : Addr
  d_law_classes : FuncData
  f_law : Addr
  d_law : FuncData
  i_BadBits : Addr
  di_BadBits : FuncData
  i_BadEdits : Addr
  di_BadEdits : FuncData
  i_BadForks : Addr
  di_BadForks : FuncData
  i_BadLots : Addr
  di_BadLots : FuncData
  i_BadSplit : Addr
  di_BadSplit : FuncData
  i_BadText : Addr
  di_BadText : FuncData
  i_BadWishes : Addr
  di_BadWishes : FuncData
  i_Broken : Addr
  di_Broken : FuncData
  i_Collides : Addr
  di_Collides : FuncData
  i_Faulty : Addr
  di_Faulty : FuncData
  i_IsSure : Addr
  di_IsSure : FuncData
  i_NoFit : Addr
  di_NoFit : FuncData
  i_NoPlace : Addr
  di_NoPlace : FuncData
  i_NoRing : Addr
  di_NoRing : FuncData
  i_NotGood : Addr
  di_NotGood : FuncData
  i_NotWritten : Addr
  di_NotWritten : FuncData
  i_OpenWorth : Addr
  di_OpenWorth : FuncData
  i_TooMany : Addr
  di_TooMany : FuncData
  i_Wrong : Addr
  di_Wrong : FuncData
  cls : Nat → Addr
  nm : Addr → Option Nat
/-- the classes by their places: which is below which -/
def below : Nat → List Nat := fun i => ([[0], [0, 1], [0, 2], [0, 3], [0, 4], [0, 5], [0, 6], [0, 7], [0, 8], [0, 9], [0, 10], [0, 11], [0, 12], [0, 13], [0, 14], [0, 15], [0, 16], [0, 17], [0, 18], [0, 19], [0, 20], [0, 21], [0, 22], [0, 23], [0, 24], [0, 25], [0, 26], [0, 27], [0, 28], [0, 29], [0, 30], [0, 31], [0, 32], [0, 33], [0, 34], [0, 35], [0, 36], [0, 37], [0, 38], [0, 39], [0, 40], [0, 41], [0, 42], [0, 43], [0, 44], [0, 45], [0, 46], [0, 47], [0, 48], [0, 49], [0, 50], [0, 51], [0, 52], [0, 53], [0, 54], [0, 55], [0, 56], [0, 57], [0, 58], [0, 59], [0, 60], [0, 61], [0, 62], [0, 63], [0, 64], [0, 65], [0, 66], [0, 67], [0, 68], [0, 69], [0, 70], [0, 71], [0, 72], [0, 73], [0, 74], [0, 75], [0, 76], [0, 77], [0, 78], [0, 79], [0, 80], [0, 81], [0, 82], [0, 83], [0, 84], [0, 85], [0, 86], [0, 87], [0, 88], [0, 89]] : List (List Nat)).getD i []
def subT (A : Ad) : Value → Value → Option Bool := fun t c => match t, c with
  | .ref a, .ref b => match A.nm a, A.nm b with
    | some i, some j => some ((below i).contains j)
    | _, _ => none
  | .ref a, .type n => if n = "ValueError" then (A.nm a).map fun _ => true else none
  | _, _ => none
def clsN0 : List Str := ["SheetError", "AlreadyTold", "BadAnswer", "BadAt", "BadBargains", "BadBit", "BadBits", "BadBook", "BadBox", "BadCell", "BadClaim", "BadCourse", "BadEdits", "BadExpression", "BadFork", "BadForks", "BadGame", "BadGroup", "BadIndexes", "BadInner"]
def clsN1 : List Str := ["BadInputs", "BadLimit", "BadLot", "BadLots", "BadMany", "BadMost", "BadName", "BadNames", "BadNumber", "BadNumbers", "BadOrder", "BadPaper", "BadPart", "BadPath", "BadPlace", "BadPoint", "BadPrice", "BadPrices", "BadPromises", "BadQuestion"]
def clsN2 : List Str := ["BadScheme", "BadSheet", "BadSide", "BadSides", "BadSplit", "BadSpot", "BadSpots", "BadStretch", "BadStretches", "BadTable", "BadText", "BadTree", "BadWeights", "BadWish", "BadWishes", "BadWord", "BadWorth", "BadWorths", "Broken", "Collides"]
def clsN3 : List Str := ["Ended", "Faulty", "IsSure", "MatchOver", "NoDifference", "NoFit", "NoPlace", "NoPlan", "NoRing", "NoTurn", "NoWall", "NotAsked", "NotGood", "NotGuessed", "NotKnown", "NotLeast", "NotMine", "NotOpen", "NotWritten", "NothingAsked"]
def clsN4 : List Str := ["NothingDone", "NothingSet", "NothingUndone", "NowSo", "OpenWorth", "OtherInputs", "OtherOrder", "TooMany", "Unfit", "Wrong"]
def clsN : List Str := clsN0 ++ clsN1 ++ clsN2 ++ clsN3 ++ clsN4
def iniC : List Nat := [6, 12, 15, 23, 44, 50, 54, 58, 59, 61, 62, 65, 66, 68, 72, 78, 84, 87, 89]
def fxT (A : Ad) : Addr → Str → Bool := fun C n => (decide (C = A.cls 6) && (["at"] : List Str).any (fun f => decide (n = f))) || (decide (C = A.cls 12) && (["at"] : List Str).any (fun f => decide (n = f))) || (decide (C = A.cls 15) && (["at"] : List Str).any (fun f => decide (n = f))) || (decide (C = A.cls 23) && (["word"] : List Str).any (fun f => decide (n = f))) || (decide (C = A.cls 44) && (["path"] : List Str).any (fun f => decide (n = f))) || (decide (C = A.cls 50) && (["line", "column", "wanted"] : List Str).any (fun f => decide (n = f))) || (decide (C = A.cls 54) && (["at"] : List Str).any (fun f => decide (n = f))) || (decide (C = A.cls 58) && (["breach"] : List Str).any (fun f => decide (n = f))) || (decide (C = A.cls 59) && (["first", "second"] : List Str).any (fun f => decide (n = f))) || (decide (C = A.cls 61) && (["fault"] : List Str).any (fun f => decide (n = f))) || (decide (C = A.cls 62) && (["price"] : List Str).any (fun f => decide (n = f))) || (decide (C = A.cls 65) && (["line", "column", "low", "high"] : List Str).any (fun f => decide (n = f))) || (decide (C = A.cls 66) && (["at"] : List Str).any (fun f => decide (n = f))) || (decide (C = A.cls 68) && (["name"] : List Str).any (fun f => decide (n = f))) || (decide (C = A.cls 72) && (["number"] : List Str).any (fun f => decide (n = f))) || (decide (C = A.cls 78) && (["worth"] : List Str).any (fun f => decide (n = f))) || (decide (C = A.cls 84) && (["point"] : List Str).any (fun f => decide (n = f))) || (decide (C = A.cls 87) && (["most"] : List Str).any (fun f => decide (n = f))) || (decide (C = A.cls 89) && (["path", "word"] : List Str).any (fun f => decide (n = f)))
def exT_ (A : Ad) : Addr → Bool := fun a => (A.nm a).isSome
def catchT (A : Ad) (j : Nat) : Value → Option Bool := fun t => match t with
  | .ref a => (A.nm a).map fun i => (below i).contains j
  | _ => none
structure Ad.Ok (A : Ad) : Prop where
  nm : ∀ i, i < 90 → A.nm (A.cls i) = some i

def r_law_begun (A : Ad) : DF := runF 3 (dSeq (dSet 1 (evComp mkM (iSeq (evV 0)) (dgName 2) (bB (bin gGe (evB gAbs (aCons (evV 2) (aNil))) (bin gPow (evC (.int 10)) (evC (.int 18))))) (bin gSub (evB gAbs (aCons (evV 2) (aNil))) (bin gPow (evC (.int 10)) (evC (.int 18)))) [2])) (dRet (evDisp mkDM [(.inr "wide"), (.inr "cells"), (.inr "rest"), (.inr "turn")] (aCons (evV 1) (aCons (evComp mkF (iSeq (evV 0)) (dgName 2) (bYes) (bin gMod (evB gInt (aCons (evB gAbs (aCons (evV 2) (aNil))) (aNil))) (evC (.int 2147483629))) [2]) (aCons (evC (.int 0)) (aCons (evC (.int 0)) (aNil))))))))
def r_law_mixed (A : Ad) : DF := runF 6 (dSeq (dPar 1 2 (aCons (bin (gAddT mkF) (bin gIx (evV 0) (evC (.str "turn"))) (evC (.int 1))) (aCons (evC (.int 0)) (aNil)))) (dSeq (dAsg (evV 1) (dgSub (evV 0) (evC (.str "turn")))) (dSeq (dFor (iSeq (evLst mkF (aCons (evC (.int 2147483647)) (aCons (evC (.int 2147483629)) (aCons (evC (.int 2147483587)) (aCons (evC (.int 2147483579)) (aNil))))))) (dgName 3) (dSeq (dSet 4 (bin (gAddT mkF) (bin gMul (evC (.int 48271)) (evV 1)) (bin gDiv (evV 3) (evC (.int 37))))) (dSeq (dFor (iSeq (bin gIx (evV 0) (evC (.str "cells")))) (dgName 5) (dSet 4 (bin gMod (evB gInt (aCons (bin (gAddT mkF) (bin (gAddT mkF) (bin gMul (evV 4) (evC (.int 69621))) (evV 5)) (evV 1)) (aNil))) (evV 3)))) (dSet 2 (bin (gAddT mkF) (bin gMul (evV 2) (evC (.int 2147483647))) (bin gMod (evB gInt (aCons (bin gPow (evV 4) (evC (.int 5))) (aNil))) (evV 3))))))) (dRet (evV 2)))))
def r_law_take (A : Ad) : DF := runF 3 (dSeq (dIf (bB (bin gEqE (bin gIx (evV 0) (evC (.str "rest"))) (evC (.int 0)))) (dAsg (eIf (bB (bin gNeE (bin gIx (evV 0) (evC (.str "wide"))) (evLst mkF (aNil)))) (evM "list" mPopAt (bin gIx (evV 0) (evC (.str "wide"))) (aCons (evC (.int 0)) (aNil))) (evCall (r_law_mixed A) (aCons (evV 0) (aNil)))) (dgSub (evV 0) (evC (.str "rest")))) (dNext)) (dSeq (dSet 2 (bin gMod (evB gInt (aCons (bin gIx (evV 0) (evC (.str "rest"))) (aNil))) (evV 1))) (dSeq (dAsg (bin gDiv (bin gIx (evV 0) (evC (.str "rest"))) (evV 1)) (dgSub (evV 0) (evC (.str "rest")))) (dRet (evV 2)))))
def r_law_pick (A : Ad) : DF := runF 2 (dRet (bin gIx (evV 1) (evCall (r_law_take A) (aCons (evV 0) (aCons (evB gLen (aCons (evV 1) (aNil))) (aNil))))))
def r_law_plain_errors (A : Ad) : DF := runF 1 (dSeq (dSet 0 (evLst mkF (aCons (evNew (A.cls 1)) (aCons (evNew (A.cls 2)) (aCons (evNew (A.cls 3)) (aCons (evNew (A.cls 4)) (aCons (evNew (A.cls 5)) (aCons (evNew (A.cls 7)) (aCons (evNew (A.cls 8)) (aCons (evNew (A.cls 9)) (aCons (evNew (A.cls 10)) (aCons (evNew (A.cls 11)) (aNil))))))))))))) (dSeq (dSet 0 (bin (gAddT mkF) (evV 0) (evLst mkF (aCons (evNew (A.cls 13)) (aCons (evNew (A.cls 14)) (aCons (evNew (A.cls 16)) (aCons (evNew (A.cls 17)) (aCons (evNew (A.cls 18)) (aCons (evNew (A.cls 19)) (aCons (evNew (A.cls 20)) (aCons (evNew (A.cls 21)) (aCons (evNew (A.cls 22)) (aCons (evNew (A.cls 24)) (aNil)))))))))))))) (dSeq (dSet 0 (bin (gAddT mkF) (evV 0) (evLst mkF (aCons (evNew (A.cls 25)) (aCons (evNew (A.cls 26)) (aCons (evNew (A.cls 27)) (aCons (evNew (A.cls 28)) (aCons (evNew (A.cls 29)) (aCons (evNew (A.cls 30)) (aCons (evNew (A.cls 31)) (aCons (evNew (A.cls 32)) (aCons (evNew (A.cls 33)) (aCons (evNew (A.cls 34)) (aNil)))))))))))))) (dSeq (dSet 0 (bin (gAddT mkF) (evV 0) (evLst mkF (aCons (evNew (A.cls 35)) (aCons (evNew (A.cls 36)) (aCons (evNew (A.cls 37)) (aCons (evNew (A.cls 38)) (aCons (evNew (A.cls 39)) (aCons (evNew (A.cls 40)) (aCons (evNew (A.cls 41)) (aCons (evNew (A.cls 42)) (aCons (evNew (A.cls 43)) (aNil))))))))))))) (dSeq (dSet 0 (bin (gAddT mkF) (evV 0) (evLst mkF (aCons (evNew (A.cls 45)) (aCons (evNew (A.cls 46)) (aCons (evNew (A.cls 47)) (aCons (evNew (A.cls 48)) (aCons (evNew (A.cls 49)) (aCons (evNew (A.cls 51)) (aCons (evNew (A.cls 52)) (aCons (evNew (A.cls 53)) (aCons (evNew (A.cls 55)) (aCons (evNew (A.cls 56)) (aNil)))))))))))))) (dSeq (dSet 0 (bin (gAddT mkF) (evV 0) (evLst mkF (aCons (evNew (A.cls 57)) (aCons (evNew (A.cls 60)) (aCons (evNew (A.cls 63)) (aCons (evNew (A.cls 64)) (aCons (evNew (A.cls 67)) (aCons (evNew (A.cls 69)) (aCons (evNew (A.cls 70)) (aCons (evNew (A.cls 71)) (aCons (evNew (A.cls 73)) (aCons (evNew (A.cls 74)) (aNil)))))))))))))) (dSeq (dSet 0 (bin (gAddT mkF) (evV 0) (evLst mkF (aCons (evNew (A.cls 75)) (aCons (evNew (A.cls 76)) (aCons (evNew (A.cls 77)) (aCons (evNew (A.cls 79)) (aCons (evNew (A.cls 80)) (aCons (evNew (A.cls 81)) (aCons (evNew (A.cls 82)) (aCons (evNew (A.cls 83)) (aCons (evNew (A.cls 85)) (aNil))))))))))))) (dSeq (dSet 0 (bin (gAddT mkF) (evV 0) (evLst mkF (aCons (evNew (A.cls 86)) (aCons (evNew (A.cls 88)) (aNil)))))) (dRet (evV 0))))))))))
def r_law_told_errors (A : Ad) : DF := runF 4 (dSeq (dSet 2 (evLst mkM (aNil))) (dSeq (dSet 3 (evNewI (A.cls 6) ["at"] (aCons (evV 0) (aNil)))) (dSeq (dExpr (evM "list" mAppend (evV 2) (aCons (evTup (aCons (evV 3) (aCons (evLst mkF (aCons (evXf (fxT A) "at" (evV 3)) (aNil))) (aCons (evLst mkF (aCons (evV 0) (aNil))) (aNil))))) (aNil)))) (dSeq (dSet 3 (evNewI (A.cls 12) ["at"] (aCons (evV 0) (aNil)))) (dSeq (dExpr (evM "list" mAppend (evV 2) (aCons (evTup (aCons (evV 3) (aCons (evLst mkF (aCons (evXf (fxT A) "at" (evV 3)) (aNil))) (aCons (evLst mkF (aCons (evV 0) (aNil))) (aNil))))) (aNil)))) (dSeq (dSet 3 (evNewI (A.cls 15) ["at"] (aCons (evV 0) (aNil)))) (dSeq (dExpr (evM "list" mAppend (evV 2) (aCons (evTup (aCons (evV 3) (aCons (evLst mkF (aCons (evXf (fxT A) "at" (evV 3)) (aNil))) (aCons (evLst mkF (aCons (evV 0) (aNil))) (aNil))))) (aNil)))) (dSeq (dSet 3 (evNewI (A.cls 23) ["word"] (aCons (evV 0) (aNil)))) (dSeq (dExpr (evM "list" mAppend (evV 2) (aCons (evTup (aCons (evV 3) (aCons (evLst mkF (aCons (evXf (fxT A) "word" (evV 3)) (aNil))) (aCons (evLst mkF (aCons (evV 0) (aNil))) (aNil))))) (aNil)))) (dSeq (dSet 3 (evNewI (A.cls 44) ["path"] (aCons (evV 0) (aNil)))) (dSeq (dExpr (evM "list" mAppend (evV 2) (aCons (evTup (aCons (evV 3) (aCons (evLst mkF (aCons (evXf (fxT A) "path" (evV 3)) (aNil))) (aCons (evLst mkF (aCons (evV 0) (aNil))) (aNil))))) (aNil)))) (dSeq (dSet 3 (evNewI (A.cls 50) ["line", "column", "wanted"] (aCons (evV 0) (aCons (evV 1) (aCons (evTup (aCons (evV 0) (aCons (evV 1) (aNil)))) (aNil)))))) (dSeq (dExpr (evM "list" mAppend (evV 2) (aCons (evTup (aCons (evV 3) (aCons (evLst mkF (aCons (evXf (fxT A) "line" (evV 3)) (aCons (evXf (fxT A) "column" (evV 3)) (aCons (evXf (fxT A) "wanted" (evV 3)) (aNil))))) (aCons (evLst mkF (aCons (evV 0) (aCons (evV 1) (aCons (evTup (aCons (evV 0) (aCons (evV 1) (aNil)))) (aNil))))) (aNil))))) (aNil)))) (dSeq (dSet 3 (evNewI (A.cls 54) ["at"] (aCons (evV 0) (aNil)))) (dSeq (dExpr (evM "list" mAppend (evV 2) (aCons (evTup (aCons (evV 3) (aCons (evLst mkF (aCons (evXf (fxT A) "at" (evV 3)) (aNil))) (aCons (evLst mkF (aCons (evV 0) (aNil))) (aNil))))) (aNil)))) (dSeq (dSet 3 (evNewI (A.cls 58) ["breach"] (aCons (evV 0) (aNil)))) (dSeq (dExpr (evM "list" mAppend (evV 2) (aCons (evTup (aCons (evV 3) (aCons (evLst mkF (aCons (evXf (fxT A) "breach" (evV 3)) (aNil))) (aCons (evLst mkF (aCons (evV 0) (aNil))) (aNil))))) (aNil)))) (dSeq (dSet 3 (evNewI (A.cls 59) ["first", "second"] (aCons (evV 0) (aCons (evV 1) (aNil))))) (dSeq (dExpr (evM "list" mAppend (evV 2) (aCons (evTup (aCons (evV 3) (aCons (evLst mkF (aCons (evXf (fxT A) "first" (evV 3)) (aCons (evXf (fxT A) "second" (evV 3)) (aNil)))) (aCons (evLst mkF (aCons (evV 0) (aCons (evV 1) (aNil)))) (aNil))))) (aNil)))) (dSeq (dSet 3 (evNewI (A.cls 61) ["fault"] (aCons (evV 0) (aNil)))) (dSeq (dExpr (evM "list" mAppend (evV 2) (aCons (evTup (aCons (evV 3) (aCons (evLst mkF (aCons (evXf (fxT A) "fault" (evV 3)) (aNil))) (aCons (evLst mkF (aCons (evV 0) (aNil))) (aNil))))) (aNil)))) (dSeq (dSet 3 (evNewI (A.cls 62) ["price"] (aCons (evV 0) (aNil)))) (dSeq (dExpr (evM "list" mAppend (evV 2) (aCons (evTup (aCons (evV 3) (aCons (evLst mkF (aCons (evXf (fxT A) "price" (evV 3)) (aNil))) (aCons (evLst mkF (aCons (evV 0) (aNil))) (aNil))))) (aNil)))) (dSeq (dSet 3 (evNewI (A.cls 65) ["line", "column", "low", "high"] (aCons (evV 0) (aCons (evV 1) (aCons (evTup (aCons (evV 0) (aCons (evV 1) (aNil)))) (aCons (evLst mkF (aCons (evV 0) (aNil))) (aNil))))))) (dSeq (dExpr (evM "list" mAppend (evV 2) (aCons (evTup (aCons (evV 3) (aCons (evLst mkF (aCons (evXf (fxT A) "line" (evV 3)) (aCons (evXf (fxT A) "column" (evV 3)) (aCons (evXf (fxT A) "low" (evV 3)) (aCons (evXf (fxT A) "high" (evV 3)) (aNil)))))) (aCons (evLst mkF (aCons (evV 0) (aCons (evV 1) (aCons (evTup (aCons (evV 0) (aCons (evV 1) (aNil)))) (aCons (evLst mkF (aCons (evV 0) (aNil))) (aNil)))))) (aNil))))) (aNil)))) (dSeq (dSet 3 (evNewI (A.cls 66) ["at"] (aCons (evV 0) (aNil)))) (dSeq (dExpr (evM "list" mAppend (evV 2) (aCons (evTup (aCons (evV 3) (aCons (evLst mkF (aCons (evXf (fxT A) "at" (evV 3)) (aNil))) (aCons (evLst mkF (aCons (evV 0) (aNil))) (aNil))))) (aNil)))) (dSeq (dSet 3 (evNewI (A.cls 68) ["name"] (aCons (evV 0) (aNil)))) (dSeq (dExpr (evM "list" mAppend (evV 2) (aCons (evTup (aCons (evV 3) (aCons (evLst mkF (aCons (evXf (fxT A) "name" (evV 3)) (aNil))) (aCons (evLst mkF (aCons (evV 0) (aNil))) (aNil))))) (aNil)))) (dSeq (dSet 3 (evNewI (A.cls 72) ["number"] (aCons (evV 0) (aNil)))) (dSeq (dExpr (evM "list" mAppend (evV 2) (aCons (evTup (aCons (evV 3) (aCons (evLst mkF (aCons (evXf (fxT A) "number" (evV 3)) (aNil))) (aCons (evLst mkF (aCons (evV 0) (aNil))) (aNil))))) (aNil)))) (dSeq (dSet 3 (evNewI (A.cls 78) ["worth"] (aCons (evV 0) (aNil)))) (dSeq (dExpr (evM "list" mAppend (evV 2) (aCons (evTup (aCons (evV 3) (aCons (evLst mkF (aCons (evXf (fxT A) "worth" (evV 3)) (aNil))) (aCons (evLst mkF (aCons (evV 0) (aNil))) (aNil))))) (aNil)))) (dSeq (dSet 3 (evNewI (A.cls 84) ["point"] (aCons (evV 0) (aNil)))) (dSeq (dExpr (evM "list" mAppend (evV 2) (aCons (evTup (aCons (evV 3) (aCons (evLst mkF (aCons (evXf (fxT A) "point" (evV 3)) (aNil))) (aCons (evLst mkF (aCons (evV 0) (aNil))) (aNil))))) (aNil)))) (dSeq (dSet 3 (evNewI (A.cls 87) ["most"] (aCons (evV 0) (aNil)))) (dSeq (dExpr (evM "list" mAppend (evV 2) (aCons (evTup (aCons (evV 3) (aCons (evLst mkF (aCons (evXf (fxT A) "most" (evV 3)) (aNil))) (aCons (evLst mkF (aCons (evV 0) (aNil))) (aNil))))) (aNil)))) (dSeq (dSet 3 (evNewI (A.cls 89) ["path", "word"] (aCons (evV 0) (aCons (evV 1) (aNil))))) (dSeq (dExpr (evM "list" mAppend (evV 2) (aCons (evTup (aCons (evV 3) (aCons (evLst mkF (aCons (evXf (fxT A) "path" (evV 3)) (aCons (evXf (fxT A) "word" (evV 3)) (aNil)))) (aCons (evLst mkF (aCons (evV 0) (aCons (evV 1) (aNil)))) (aNil))))) (aNil)))) (dRet (evV 2)))))))))))))))))))))))))))))))))))))))))
def r_law_classes (A : Ad) : DF := runF 4 (dSeq (dSet 1 (evLst mkF (aCons (evB (gIsi (subT A) (exT_ A)) (aCons (evV 0) (aCons (evC (.ref (A.cls 1))) (aNil)))) (aCons (evB (gIsi (subT A) (exT_ A)) (aCons (evV 0) (aCons (evC (.ref (A.cls 2))) (aNil)))) (aCons (evB (gIsi (subT A) (exT_ A)) (aCons (evV 0) (aCons (evC (.ref (A.cls 3))) (aNil)))) (aCons (evB (gIsi (subT A) (exT_ A)) (aCons (evV 0) (aCons (evC (.ref (A.cls 4))) (aNil)))) (aCons (evB (gIsi (subT A) (exT_ A)) (aCons (evV 0) (aCons (evC (.ref (A.cls 5))) (aNil)))) (aNil)))))))) (dSeq (dSet 1 (bin (gAddT mkF) (evV 1) (evLst mkF (aCons (evB (gIsi (subT A) (exT_ A)) (aCons (evV 0) (aCons (evC (.ref (A.cls 6))) (aNil)))) (aCons (evB (gIsi (subT A) (exT_ A)) (aCons (evV 0) (aCons (evC (.ref (A.cls 7))) (aNil)))) (aCons (evB (gIsi (subT A) (exT_ A)) (aCons (evV 0) (aCons (evC (.ref (A.cls 8))) (aNil)))) (aCons (evB (gIsi (subT A) (exT_ A)) (aCons (evV 0) (aCons (evC (.ref (A.cls 9))) (aNil)))) (aCons (evB (gIsi (subT A) (exT_ A)) (aCons (evV 0) (aCons (evC (.ref (A.cls 10))) (aNil)))) (aNil))))))))) (dSeq (dSet 1 (bin (gAddT mkF) (evV 1) (evLst mkF (aCons (evB (gIsi (subT A) (exT_ A)) (aCons (evV 0) (aCons (evC (.ref (A.cls 11))) (aNil)))) (aCons (evB (gIsi (subT A) (exT_ A)) (aCons (evV 0) (aCons (evC (.ref (A.cls 12))) (aNil)))) (aCons (evB (gIsi (subT A) (exT_ A)) (aCons (evV 0) (aCons (evC (.ref (A.cls 13))) (aNil)))) (aCons (evB (gIsi (subT A) (exT_ A)) (aCons (evV 0) (aCons (evC (.ref (A.cls 14))) (aNil)))) (aCons (evB (gIsi (subT A) (exT_ A)) (aCons (evV 0) (aCons (evC (.ref (A.cls 15))) (aNil)))) (aNil))))))))) (dSeq (dSet 1 (bin (gAddT mkF) (evV 1) (evLst mkF (aCons (evB (gIsi (subT A) (exT_ A)) (aCons (evV 0) (aCons (evC (.ref (A.cls 16))) (aNil)))) (aCons (evB (gIsi (subT A) (exT_ A)) (aCons (evV 0) (aCons (evC (.ref (A.cls 17))) (aNil)))) (aCons (evB (gIsi (subT A) (exT_ A)) (aCons (evV 0) (aCons (evC (.ref (A.cls 18))) (aNil)))) (aCons (evB (gIsi (subT A) (exT_ A)) (aCons (evV 0) (aCons (evC (.ref (A.cls 19))) (aNil)))) (aCons (evB (gIsi (subT A) (exT_ A)) (aCons (evV 0) (aCons (evC (.ref (A.cls 20))) (aNil)))) (aNil))))))))) (dSeq (dSet 1 (bin (gAddT mkF) (evV 1) (evLst mkF (aCons (evB (gIsi (subT A) (exT_ A)) (aCons (evV 0) (aCons (evC (.ref (A.cls 21))) (aNil)))) (aCons (evB (gIsi (subT A) (exT_ A)) (aCons (evV 0) (aCons (evC (.ref (A.cls 22))) (aNil)))) (aCons (evB (gIsi (subT A) (exT_ A)) (aCons (evV 0) (aCons (evC (.ref (A.cls 23))) (aNil)))) (aCons (evB (gIsi (subT A) (exT_ A)) (aCons (evV 0) (aCons (evC (.ref (A.cls 24))) (aNil)))) (aCons (evB (gIsi (subT A) (exT_ A)) (aCons (evV 0) (aCons (evC (.ref (A.cls 25))) (aNil)))) (aNil))))))))) (dSeq (dSet 1 (bin (gAddT mkF) (evV 1) (evLst mkF (aCons (evB (gIsi (subT A) (exT_ A)) (aCons (evV 0) (aCons (evC (.ref (A.cls 26))) (aNil)))) (aCons (evB (gIsi (subT A) (exT_ A)) (aCons (evV 0) (aCons (evC (.ref (A.cls 27))) (aNil)))) (aCons (evB (gIsi (subT A) (exT_ A)) (aCons (evV 0) (aCons (evC (.ref (A.cls 28))) (aNil)))) (aCons (evB (gIsi (subT A) (exT_ A)) (aCons (evV 0) (aCons (evC (.ref (A.cls 29))) (aNil)))) (aCons (evB (gIsi (subT A) (exT_ A)) (aCons (evV 0) (aCons (evC (.ref (A.cls 30))) (aNil)))) (aNil))))))))) (dSeq (dSet 1 (bin (gAddT mkF) (evV 1) (evLst mkF (aCons (evB (gIsi (subT A) (exT_ A)) (aCons (evV 0) (aCons (evC (.ref (A.cls 31))) (aNil)))) (aCons (evB (gIsi (subT A) (exT_ A)) (aCons (evV 0) (aCons (evC (.ref (A.cls 32))) (aNil)))) (aCons (evB (gIsi (subT A) (exT_ A)) (aCons (evV 0) (aCons (evC (.ref (A.cls 33))) (aNil)))) (aCons (evB (gIsi (subT A) (exT_ A)) (aCons (evV 0) (aCons (evC (.ref (A.cls 34))) (aNil)))) (aCons (evB (gIsi (subT A) (exT_ A)) (aCons (evV 0) (aCons (evC (.ref (A.cls 35))) (aNil)))) (aNil))))))))) (dSeq (dSet 1 (bin (gAddT mkF) (evV 1) (evLst mkF (aCons (evB (gIsi (subT A) (exT_ A)) (aCons (evV 0) (aCons (evC (.ref (A.cls 36))) (aNil)))) (aCons (evB (gIsi (subT A) (exT_ A)) (aCons (evV 0) (aCons (evC (.ref (A.cls 37))) (aNil)))) (aCons (evB (gIsi (subT A) (exT_ A)) (aCons (evV 0) (aCons (evC (.ref (A.cls 38))) (aNil)))) (aCons (evB (gIsi (subT A) (exT_ A)) (aCons (evV 0) (aCons (evC (.ref (A.cls 39))) (aNil)))) (aCons (evB (gIsi (subT A) (exT_ A)) (aCons (evV 0) (aCons (evC (.ref (A.cls 40))) (aNil)))) (aNil))))))))) (dSeq (dSet 1 (bin (gAddT mkF) (evV 1) (evLst mkF (aCons (evB (gIsi (subT A) (exT_ A)) (aCons (evV 0) (aCons (evC (.ref (A.cls 41))) (aNil)))) (aCons (evB (gIsi (subT A) (exT_ A)) (aCons (evV 0) (aCons (evC (.ref (A.cls 42))) (aNil)))) (aCons (evB (gIsi (subT A) (exT_ A)) (aCons (evV 0) (aCons (evC (.ref (A.cls 43))) (aNil)))) (aCons (evB (gIsi (subT A) (exT_ A)) (aCons (evV 0) (aCons (evC (.ref (A.cls 44))) (aNil)))) (aCons (evB (gIsi (subT A) (exT_ A)) (aCons (evV 0) (aCons (evC (.ref (A.cls 45))) (aNil)))) (aNil))))))))) (dSeq (dSet 1 (bin (gAddT mkF) (evV 1) (evLst mkF (aCons (evB (gIsi (subT A) (exT_ A)) (aCons (evV 0) (aCons (evC (.ref (A.cls 46))) (aNil)))) (aCons (evB (gIsi (subT A) (exT_ A)) (aCons (evV 0) (aCons (evC (.ref (A.cls 47))) (aNil)))) (aCons (evB (gIsi (subT A) (exT_ A)) (aCons (evV 0) (aCons (evC (.ref (A.cls 48))) (aNil)))) (aCons (evB (gIsi (subT A) (exT_ A)) (aCons (evV 0) (aCons (evC (.ref (A.cls 49))) (aNil)))) (aCons (evB (gIsi (subT A) (exT_ A)) (aCons (evV 0) (aCons (evC (.ref (A.cls 50))) (aNil)))) (aNil))))))))) (dSeq (dSet 1 (bin (gAddT mkF) (evV 1) (evLst mkF (aCons (evB (gIsi (subT A) (exT_ A)) (aCons (evV 0) (aCons (evC (.ref (A.cls 51))) (aNil)))) (aCons (evB (gIsi (subT A) (exT_ A)) (aCons (evV 0) (aCons (evC (.ref (A.cls 52))) (aNil)))) (aCons (evB (gIsi (subT A) (exT_ A)) (aCons (evV 0) (aCons (evC (.ref (A.cls 53))) (aNil)))) (aCons (evB (gIsi (subT A) (exT_ A)) (aCons (evV 0) (aCons (evC (.ref (A.cls 54))) (aNil)))) (aCons (evB (gIsi (subT A) (exT_ A)) (aCons (evV 0) (aCons (evC (.ref (A.cls 55))) (aNil)))) (aNil))))))))) (dSeq (dSet 1 (bin (gAddT mkF) (evV 1) (evLst mkF (aCons (evB (gIsi (subT A) (exT_ A)) (aCons (evV 0) (aCons (evC (.ref (A.cls 56))) (aNil)))) (aCons (evB (gIsi (subT A) (exT_ A)) (aCons (evV 0) (aCons (evC (.ref (A.cls 57))) (aNil)))) (aCons (evB (gIsi (subT A) (exT_ A)) (aCons (evV 0) (aCons (evC (.ref (A.cls 58))) (aNil)))) (aCons (evB (gIsi (subT A) (exT_ A)) (aCons (evV 0) (aCons (evC (.ref (A.cls 59))) (aNil)))) (aCons (evB (gIsi (subT A) (exT_ A)) (aCons (evV 0) (aCons (evC (.ref (A.cls 60))) (aNil)))) (aNil))))))))) (dSeq (dSet 1 (bin (gAddT mkF) (evV 1) (evLst mkF (aCons (evB (gIsi (subT A) (exT_ A)) (aCons (evV 0) (aCons (evC (.ref (A.cls 61))) (aNil)))) (aCons (evB (gIsi (subT A) (exT_ A)) (aCons (evV 0) (aCons (evC (.ref (A.cls 62))) (aNil)))) (aCons (evB (gIsi (subT A) (exT_ A)) (aCons (evV 0) (aCons (evC (.ref (A.cls 63))) (aNil)))) (aCons (evB (gIsi (subT A) (exT_ A)) (aCons (evV 0) (aCons (evC (.ref (A.cls 64))) (aNil)))) (aCons (evB (gIsi (subT A) (exT_ A)) (aCons (evV 0) (aCons (evC (.ref (A.cls 65))) (aNil)))) (aNil))))))))) (dSeq (dSet 1 (bin (gAddT mkF) (evV 1) (evLst mkF (aCons (evB (gIsi (subT A) (exT_ A)) (aCons (evV 0) (aCons (evC (.ref (A.cls 66))) (aNil)))) (aCons (evB (gIsi (subT A) (exT_ A)) (aCons (evV 0) (aCons (evC (.ref (A.cls 67))) (aNil)))) (aCons (evB (gIsi (subT A) (exT_ A)) (aCons (evV 0) (aCons (evC (.ref (A.cls 68))) (aNil)))) (aCons (evB (gIsi (subT A) (exT_ A)) (aCons (evV 0) (aCons (evC (.ref (A.cls 69))) (aNil)))) (aCons (evB (gIsi (subT A) (exT_ A)) (aCons (evV 0) (aCons (evC (.ref (A.cls 70))) (aNil)))) (aNil))))))))) (dSeq (dSet 1 (bin (gAddT mkF) (evV 1) (evLst mkF (aCons (evB (gIsi (subT A) (exT_ A)) (aCons (evV 0) (aCons (evC (.ref (A.cls 71))) (aNil)))) (aCons (evB (gIsi (subT A) (exT_ A)) (aCons (evV 0) (aCons (evC (.ref (A.cls 72))) (aNil)))) (aCons (evB (gIsi (subT A) (exT_ A)) (aCons (evV 0) (aCons (evC (.ref (A.cls 73))) (aNil)))) (aCons (evB (gIsi (subT A) (exT_ A)) (aCons (evV 0) (aCons (evC (.ref (A.cls 74))) (aNil)))) (aCons (evB (gIsi (subT A) (exT_ A)) (aCons (evV 0) (aCons (evC (.ref (A.cls 75))) (aNil)))) (aNil))))))))) (dSeq (dSet 1 (bin (gAddT mkF) (evV 1) (evLst mkF (aCons (evB (gIsi (subT A) (exT_ A)) (aCons (evV 0) (aCons (evC (.ref (A.cls 76))) (aNil)))) (aCons (evB (gIsi (subT A) (exT_ A)) (aCons (evV 0) (aCons (evC (.ref (A.cls 77))) (aNil)))) (aCons (evB (gIsi (subT A) (exT_ A)) (aCons (evV 0) (aCons (evC (.ref (A.cls 78))) (aNil)))) (aCons (evB (gIsi (subT A) (exT_ A)) (aCons (evV 0) (aCons (evC (.ref (A.cls 79))) (aNil)))) (aCons (evB (gIsi (subT A) (exT_ A)) (aCons (evV 0) (aCons (evC (.ref (A.cls 80))) (aNil)))) (aNil))))))))) (dSeq (dSet 1 (bin (gAddT mkF) (evV 1) (evLst mkF (aCons (evB (gIsi (subT A) (exT_ A)) (aCons (evV 0) (aCons (evC (.ref (A.cls 81))) (aNil)))) (aCons (evB (gIsi (subT A) (exT_ A)) (aCons (evV 0) (aCons (evC (.ref (A.cls 82))) (aNil)))) (aCons (evB (gIsi (subT A) (exT_ A)) (aCons (evV 0) (aCons (evC (.ref (A.cls 83))) (aNil)))) (aCons (evB (gIsi (subT A) (exT_ A)) (aCons (evV 0) (aCons (evC (.ref (A.cls 84))) (aNil)))) (aCons (evB (gIsi (subT A) (exT_ A)) (aCons (evV 0) (aCons (evC (.ref (A.cls 85))) (aNil)))) (aNil))))))))) (dSeq (dSet 1 (bin (gAddT mkF) (evV 1) (evLst mkF (aCons (evB (gIsi (subT A) (exT_ A)) (aCons (evV 0) (aCons (evC (.ref (A.cls 86))) (aNil)))) (aCons (evB (gIsi (subT A) (exT_ A)) (aCons (evV 0) (aCons (evC (.ref (A.cls 87))) (aNil)))) (aCons (evB (gIsi (subT A) (exT_ A)) (aCons (evV 0) (aCons (evC (.ref (A.cls 88))) (aNil)))) (aCons (evB (gIsi (subT A) (exT_ A)) (aCons (evV 0) (aCons (evC (.ref (A.cls 89))) (aNil)))) (aNil)))))))) (dRet (evComp mkF (iEnumL (aCons (evV 1) (aNil))) (dgTup 2 (dgCons (dgName 2) (dgCons (dgName 3) (dgNil)))) (bV (evV 3)) (evV 2) [2, 3]))))))))))))))))))))
def r_law (A : Ad) : DF := runF 13 (dSeq (dSet 1 (evCall (r_law_begun A) (aCons (evV 0) (aNil)))) (dSeq (dSet 2 (evLst mkF (aCons (evC .non) (aCons (evC (.int 0)) (aCons (una gNeg (evC (.int 7))) (aCons (evC (.str "x")) (aCons (evC (.str "")) (aCons (evTup (aCons (evC (.int 1)) (aCons (evC (.int 2)) (aNil)))) (aCons (evLst mkF (aCons (evC (.int 3)) (aNil))) (aCons (evDisp mkDF [(.inr "a")] (aCons (evC (.int 4)) (aNil))) (aCons (evC (.bl true)) (aCons (bin gPow (evC (.int 10)) (evC (.int 20))) (aNil))))))))))))) (dSeq (dPar 3 4 (aCons (evCall (r_law_pick A) (aCons (evV 1) (aCons (evV 2) (aNil)))) (aCons (evCall (r_law_pick A) (aCons (evV 1) (aCons (evV 2) (aNil)))) (aNil)))) (dSeq (dFzV 5 (dSet 5 (evCall (r_law_told_errors A) (aCons (evV 3) (aCons (evV 4) (aNil)))))) (dSeq (dSet 6 (bin (gAddT mkF) (evCall0 (r_law_plain_errors A)) (evComp mkF (iSeq (evV 5)) (dgName 7) (bYes) (bin gIx (evV 7) (evC (.int 0))) [7]))) (dSeq (dSet 8 (evComp mkF (iSeq (evV 6)) (dgName 9) (bYes) (evCall (r_law_classes A) (aCons (evV 9) (aNil))) [9])) (dSeq (dIf (bOr (bB (bin gNeE (evComp mkF (iSeq (evV 8)) (dgName 10) (bB (bin gNeE (evB gLen (aCons (evV 10) (aNil))) (evC (.int 1)))) (evC (.int 1)) [10]) (evLst mkF (aNil)))) (bB (bin gNeE (evLenSet (evComp mkF (iSeq (evV 8)) (dgName 10) (bYes) (bin gIx (evV 10) (evC (.int 0))) [10])) (evB gLen (aCons (evV 6) (aNil)))))) (dRet (evC (.bl false))) (dNext)) (dSeq (dFor (iSeq (evV 5)) (dgTup 3 (dgCons (dgName 9) (dgCons (dgName 11) (dgCons (dgName 12) (dgNil))))) (dIf (bB (bin gNeE (evB gReprX (aCons (evV 11) (aNil))) (evB gReprX (aCons (evV 12) (aNil))))) (dRet (evC (.bl false))) (dNext))) (dSeq (dFor (iSeq (evV 6)) (dgName 9) (dIf (bOr (bNot (bV (evB (gIsi (subT A) (exT_ A)) (aCons (evV 9) (aCons (evC (.ref (A.cls 0))) (aNil)))))) (bNot (bV (evB (gIsi (subT A) (exT_ A)) (aCons (evV 9) (aCons (evC (.ty "ValueError")) (aNil))))))) (dRet (evC (.bl false))) (dNext))) (dRet (evC (.bl true))))))))))))
end K24

set_option Elab.async false
set_option linter.all false
set_option maxRecDepth 100000
set_option maxHeartbeats 4100000
/-! the walk -/
namespace K24
open PySem PySem.Spec PyProof.Rows L2 MP

abbrev W0 : WX := fun _ _ _ _ => False
def topS (i : Nat) : Stmt := PySem.Challenge.pw_whysheets_k24_errors_made_and_bases.main.body.getD i (.Pass ⟨0, 0, 0, 0⟩)
abbrev s_law_begun : Stmt := topS 92
theorem sc_law_begun : FnScope ["script", "wide", "grain"] ["script"] (defScope s_law_begun) := ⟨rfl, rfl, rfl, by decide +kernel, rfl, by decide +kernel, by decide +kernel⟩
abbrev s_law_mixed : Stmt := topS 93
theorem sc_law_mixed : FnScope ["draw", "turn", "found", "prime", "blend", "grain"] ["draw"] (defScope s_law_mixed) := ⟨rfl, rfl, rfl, by decide +kernel, rfl, by decide +kernel, by decide +kernel⟩
abbrev s_law_take : Stmt := topS 94
theorem sc_law_take : FnScope ["draw", "many", "found"] ["draw", "many"] (defScope s_law_take) := ⟨rfl, rfl, rfl, by decide +kernel, rfl, by decide +kernel, by decide +kernel⟩
abbrev s_law_pick : Stmt := topS 95
theorem sc_law_pick : FnScope ["draw", "some"] ["draw", "some"] (defScope s_law_pick) := ⟨rfl, rfl, rfl, by decide +kernel, rfl, by decide +kernel, by decide +kernel⟩
abbrev s_law_plain_errors : Stmt := topS 96
theorem sc_law_plain_errors : FnScope ["found"] [] (defScope s_law_plain_errors) := ⟨rfl, rfl, rfl, by decide +kernel, rfl, by decide +kernel, by decide +kernel⟩
abbrev s_law_told_errors : Stmt := topS 97
theorem sc_law_told_errors : FnScope ["one", "other", "found", "error"] ["one", "other"] (defScope s_law_told_errors) := ⟨rfl, rfl, rfl, by decide +kernel, rfl, by decide +kernel, by decide +kernel⟩
abbrev s_law_classes : Stmt := topS 98
theorem sc_law_classes : FnScope ["error", "found", "k", "is_one"] ["error"] (defScope s_law_classes) := ⟨rfl, rfl, rfl, by decide +kernel, rfl, by decide +kernel, by decide +kernel⟩
abbrev s_law : Stmt := topS 99
theorem sc_law : FnScope ["script", "draw", "some", "one", "other", "told", "errors_here", "entry", "classes", "error", "found", "mine", "due"] ["script"] (defScope s_law) := ⟨rfl, rfl, rfl, by decide +kernel, rfl, by decide +kernel, by decide +kernel⟩
theorem bt_ValueError : bootBuiltins "ValueError" = some (.type "ValueError") := by decide +kernel
theorem bt_abs : bootBuiltins "abs" = some (.builtin "abs") := by decide +kernel
theorem bt_int : bootBuiltins "int" = some (.type "int") := by decide +kernel
theorem bt_isinstance : bootBuiltins "isinstance" = some (.builtin "isinstance") := by decide +kernel
theorem bt_len : bootBuiltins "len" = some (.builtin "len") := by decide +kernel
theorem bt_repr : bootBuiltins "repr" = some (.builtin "repr") := by decide +kernel
theorem bt_set : bootBuiltins "set" = some (.type "set") := by decide +kernel
def clsBody : Stmt → List Stmt
  | .ClassDef _ _ _ b _ _ _ _ _ _ _ => b
  | _ => []
abbrev si_BadBits : Stmt := (clsBody (topS 7)).getD 0 (.Pass ⟨0, 0, 0, 0⟩)
theorem nsc_BadBits : NdefX.NScope ["self", "at", "__class__"] ["self", "at"] ["__class__"] (defScope si_BadBits) := ⟨rfl, rfl, rfl, by decide +kernel, rfl, by decide +kernel, by decide +kernel, by decide +kernel, by decide +kernel⟩
abbrev si_BadEdits : Stmt := (clsBody (topS 13)).getD 0 (.Pass ⟨0, 0, 0, 0⟩)
theorem nsc_BadEdits : NdefX.NScope ["self", "at", "__class__"] ["self", "at"] ["__class__"] (defScope si_BadEdits) := ⟨rfl, rfl, rfl, by decide +kernel, rfl, by decide +kernel, by decide +kernel, by decide +kernel, by decide +kernel⟩
abbrev si_BadForks : Stmt := (clsBody (topS 16)).getD 0 (.Pass ⟨0, 0, 0, 0⟩)
theorem nsc_BadForks : NdefX.NScope ["self", "at", "__class__"] ["self", "at"] ["__class__"] (defScope si_BadForks) := ⟨rfl, rfl, rfl, by decide +kernel, rfl, by decide +kernel, by decide +kernel, by decide +kernel, by decide +kernel⟩
abbrev si_BadLots : Stmt := (clsBody (topS 24)).getD 0 (.Pass ⟨0, 0, 0, 0⟩)
theorem nsc_BadLots : NdefX.NScope ["self", "word", "__class__"] ["self", "word"] ["__class__"] (defScope si_BadLots) := ⟨rfl, rfl, rfl, by decide +kernel, rfl, by decide +kernel, by decide +kernel, by decide +kernel, by decide +kernel⟩
abbrev si_BadSplit : Stmt := (clsBody (topS 45)).getD 0 (.Pass ⟨0, 0, 0, 0⟩)
theorem nsc_BadSplit : NdefX.NScope ["self", "path", "__class__"] ["self", "path"] ["__class__"] (defScope si_BadSplit) := ⟨rfl, rfl, rfl, by decide +kernel, rfl, by decide +kernel, by decide +kernel, by decide +kernel, by decide +kernel⟩
abbrev si_BadText : Stmt := (clsBody (topS 51)).getD 0 (.Pass ⟨0, 0, 0, 0⟩)
theorem nsc_BadText : NdefX.NScope ["self", "line", "column", "wanted", "__class__"] ["self", "line", "column", "wanted"] ["__class__"] (defScope si_BadText) := ⟨rfl, rfl, rfl, by decide +kernel, rfl, by decide +kernel, by decide +kernel, by decide +kernel, by decide +kernel⟩
abbrev si_BadWishes : Stmt := (clsBody (topS 55)).getD 0 (.Pass ⟨0, 0, 0, 0⟩)
theorem nsc_BadWishes : NdefX.NScope ["self", "at", "__class__"] ["self", "at"] ["__class__"] (defScope si_BadWishes) := ⟨rfl, rfl, rfl, by decide +kernel, rfl, by decide +kernel, by decide +kernel, by decide +kernel, by decide +kernel⟩
abbrev si_Broken : Stmt := (clsBody (topS 59)).getD 0 (.Pass ⟨0, 0, 0, 0⟩)
theorem nsc_Broken : NdefX.NScope ["self", "breach", "__class__"] ["self", "breach"] ["__class__"] (defScope si_Broken) := ⟨rfl, rfl, rfl, by decide +kernel, rfl, by decide +kernel, by decide +kernel, by decide +kernel, by decide +kernel⟩
abbrev si_Collides : Stmt := (clsBody (topS 60)).getD 0 (.Pass ⟨0, 0, 0, 0⟩)
theorem nsc_Collides : NdefX.NScope ["self", "first", "second", "__class__"] ["self", "first", "second"] ["__class__"] (defScope si_Collides) := ⟨rfl, rfl, rfl, by decide +kernel, rfl, by decide +kernel, by decide +kernel, by decide +kernel, by decide +kernel⟩
abbrev si_Faulty : Stmt := (clsBody (topS 62)).getD 0 (.Pass ⟨0, 0, 0, 0⟩)
theorem nsc_Faulty : NdefX.NScope ["self", "fault", "__class__"] ["self", "fault"] ["__class__"] (defScope si_Faulty) := ⟨rfl, rfl, rfl, by decide +kernel, rfl, by decide +kernel, by decide +kernel, by decide +kernel, by decide +kernel⟩
abbrev si_IsSure : Stmt := (clsBody (topS 63)).getD 0 (.Pass ⟨0, 0, 0, 0⟩)
theorem nsc_IsSure : NdefX.NScope ["self", "price", "__class__"] ["self", "price"] ["__class__"] (defScope si_IsSure) := ⟨rfl, rfl, rfl, by decide +kernel, rfl, by decide +kernel, by decide +kernel, by decide +kernel, by decide +kernel⟩
abbrev si_NoFit : Stmt := (clsBody (topS 66)).getD 0 (.Pass ⟨0, 0, 0, 0⟩)
theorem nsc_NoFit : NdefX.NScope ["self", "line", "column", "low", "high", "__class__"] ["self", "line", "column", "low", "high"] ["__class__"] (defScope si_NoFit) := ⟨rfl, rfl, rfl, by decide +kernel, rfl, by decide +kernel, by decide +kernel, by decide +kernel, by decide +kernel⟩
abbrev si_NoPlace : Stmt := (clsBody (topS 67)).getD 0 (.Pass ⟨0, 0, 0, 0⟩)
theorem nsc_NoPlace : NdefX.NScope ["self", "at", "__class__"] ["self", "at"] ["__class__"] (defScope si_NoPlace) := ⟨rfl, rfl, rfl, by decide +kernel, rfl, by decide +kernel, by decide +kernel, by decide +kernel, by decide +kernel⟩
abbrev si_NoRing : Stmt := (clsBody (topS 69)).getD 0 (.Pass ⟨0, 0, 0, 0⟩)
theorem nsc_NoRing : NdefX.NScope ["self", "name", "__class__"] ["self", "name"] ["__class__"] (defScope si_NoRing) := ⟨rfl, rfl, rfl, by decide +kernel, rfl, by decide +kernel, by decide +kernel, by decide +kernel, by decide +kernel⟩
abbrev si_NotGood : Stmt := (clsBody (topS 73)).getD 0 (.Pass ⟨0, 0, 0, 0⟩)
theorem nsc_NotGood : NdefX.NScope ["self", "number", "__class__"] ["self", "number"] ["__class__"] (defScope si_NotGood) := ⟨rfl, rfl, rfl, by decide +kernel, rfl, by decide +kernel, by decide +kernel, by decide +kernel, by decide +kernel⟩
abbrev si_NotWritten : Stmt := (clsBody (topS 79)).getD 0 (.Pass ⟨0, 0, 0, 0⟩)
theorem nsc_NotWritten : NdefX.NScope ["self", "worth", "__class__"] ["self", "worth"] ["__class__"] (defScope si_NotWritten) := ⟨rfl, rfl, rfl, by decide +kernel, rfl, by decide +kernel, by decide +kernel, by decide +kernel, by decide +kernel⟩
abbrev si_OpenWorth : Stmt := (clsBody (topS 85)).getD 0 (.Pass ⟨0, 0, 0, 0⟩)
theorem nsc_OpenWorth : NdefX.NScope ["self", "point", "__class__"] ["self", "point"] ["__class__"] (defScope si_OpenWorth) := ⟨rfl, rfl, rfl, by decide +kernel, rfl, by decide +kernel, by decide +kernel, by decide +kernel, by decide +kernel⟩
abbrev si_TooMany : Stmt := (clsBody (topS 88)).getD 0 (.Pass ⟨0, 0, 0, 0⟩)
theorem nsc_TooMany : NdefX.NScope ["self", "most", "__class__"] ["self", "most"] ["__class__"] (defScope si_TooMany) := ⟨rfl, rfl, rfl, by decide +kernel, rfl, by decide +kernel, by decide +kernel, by decide +kernel, by decide +kernel⟩
abbrev si_Wrong : Stmt := (clsBody (topS 90)).getD 0 (.Pass ⟨0, 0, 0, 0⟩)
theorem nsc_Wrong : NdefX.NScope ["self", "path", "word", "__class__"] ["self", "path", "word"] ["__class__"] (defScope si_Wrong) := ⟨rfl, rfl, rfl, by decide +kernel, rfl, by decide +kernel, by decide +kernel, by decide +kernel, by decide +kernel⟩
/-- what the top has written -/
structure Txt (P : Program) (K : PySem.W.Frag) (base : Heap) (mg : Str → Option Value) (A : Ad) : Prop where
  F_law_begun : Fun K "_law_begun" "_law_begun" s_law_begun A.f_law_begun A.d_law_begun
  g_law_begun : mg "_law_begun" = some (.ref A.f_law_begun)
  b_law_begun : Binds K A.d_law_begun ["script"] []
  F_law_mixed : Fun K "_law_mixed" "_law_mixed" s_law_mixed A.f_law_mixed A.d_law_mixed
  g_law_mixed : mg "_law_mixed" = some (.ref A.f_law_mixed)
  b_law_mixed : Binds K A.d_law_mixed ["draw"] []
  F_law_take : Fun K "_law_take" "_law_take" s_law_take A.f_law_take A.d_law_take
  g_law_take : mg "_law_take" = some (.ref A.f_law_take)
  b_law_take : Binds K A.d_law_take ["draw", "many"] []
  F_law_pick : Fun K "_law_pick" "_law_pick" s_law_pick A.f_law_pick A.d_law_pick
  g_law_pick : mg "_law_pick" = some (.ref A.f_law_pick)
  b_law_pick : Binds K A.d_law_pick ["draw", "some"] []
  F_law_plain_errors : Fun K "_law_plain_errors" "_law_plain_errors" s_law_plain_errors A.f_law_plain_errors A.d_law_plain_errors
  g_law_plain_errors : mg "_law_plain_errors" = some (.ref A.f_law_plain_errors)
  b_law_plain_errors : Binds K A.d_law_plain_errors [] []
  F_law_told_errors : Fun K "_law_told_errors" "_law_told_errors" s_law_told_errors A.f_law_told_errors A.d_law_told_errors
  g_law_told_errors : mg "_law_told_errors" = some (.ref A.f_law_told_errors)
  b_law_told_errors : Binds K A.d_law_told_errors ["one", "other"] []
  F_law_classes : Fun K "_law_classes" "_law_classes" s_law_classes A.f_law_classes A.d_law_classes
  g_law_classes : mg "_law_classes" = some (.ref A.f_law_classes)
  b_law_classes : Binds K A.d_law_classes ["error"] []
  F_law : Fun K "law" "law" s_law A.f_law A.d_law
  g_law : mg "law" = some (.ref A.f_law)
  b_law : Binds K A.d_law ["script"] []
  g_cls : ∀ i, i < 90 → mg (clsN.getD i "") = some (.ref (A.cls i))
  x_ : ∀ i, i < 90 → iniC.contains i = false → PySem.W.excIn K (A.cls i) [.type "ValueError", .type "Exception", .type "BaseException", .type "object"] "ValueError.__new__" = true
  k_ : ∀ i, i < 90 → PySem.W.keepIn K (.ref (A.cls i)) = true
  e_ : ∀ i, i < 90 → PySem.W.subIn K (.ref (A.cls i)) (.type "BaseException") = some true
  t_ : ∀ i, i < 90 → PySem.W.typeIn K (.ref (A.cls i)) = some (.type "type")
  O_BadBits : OexC K (A.cls 6)
  iC_BadBits : PySem.W.findIn K (.ref (A.cls 6)) "__init__" = some (some (.ref A.i_BadBits))
  tI_BadBits : PySem.W.typeIn K (.ref A.i_BadBits) = some (.type "function")
  bI_BadBits : Binds K A.di_BadBits ["self", "at"] []
  F_init_BadBits : ∃ dV kV doc pm an cda ct cc oc od osl, A.di_BadBits = PySem.W.ksFn "__init__" "BadBits.__init__" (defArgs si_BadBits) (defBody si_BadBits) (defScope si_BadBits) dV kV doc pm an (.ref cda) ct cc ∧ K.lookup A.i_BadBits = some ⟨oc, od, .func A.di_BadBits, osl⟩ ∧ PySem.W.codeIn K (.ref cda) "BadBits.__init__" = true ∧ SupF P K cda cc (A.cls 6)
  fn_BadBits : ∀ f ∈ (["at"] : List Str), PySem.W.findIn K (.ref (A.cls 6)) f = some none
  O_BadEdits : OexC K (A.cls 12)
  iC_BadEdits : PySem.W.findIn K (.ref (A.cls 12)) "__init__" = some (some (.ref A.i_BadEdits))
  tI_BadEdits : PySem.W.typeIn K (.ref A.i_BadEdits) = some (.type "function")
  bI_BadEdits : Binds K A.di_BadEdits ["self", "at"] []
  F_init_BadEdits : ∃ dV kV doc pm an cda ct cc oc od osl, A.di_BadEdits = PySem.W.ksFn "__init__" "BadEdits.__init__" (defArgs si_BadEdits) (defBody si_BadEdits) (defScope si_BadEdits) dV kV doc pm an (.ref cda) ct cc ∧ K.lookup A.i_BadEdits = some ⟨oc, od, .func A.di_BadEdits, osl⟩ ∧ PySem.W.codeIn K (.ref cda) "BadEdits.__init__" = true ∧ SupF P K cda cc (A.cls 12)
  fn_BadEdits : ∀ f ∈ (["at"] : List Str), PySem.W.findIn K (.ref (A.cls 12)) f = some none
  O_BadForks : OexC K (A.cls 15)
  iC_BadForks : PySem.W.findIn K (.ref (A.cls 15)) "__init__" = some (some (.ref A.i_BadForks))
  tI_BadForks : PySem.W.typeIn K (.ref A.i_BadForks) = some (.type "function")
  bI_BadForks : Binds K A.di_BadForks ["self", "at"] []
  F_init_BadForks : ∃ dV kV doc pm an cda ct cc oc od osl, A.di_BadForks = PySem.W.ksFn "__init__" "BadForks.__init__" (defArgs si_BadForks) (defBody si_BadForks) (defScope si_BadForks) dV kV doc pm an (.ref cda) ct cc ∧ K.lookup A.i_BadForks = some ⟨oc, od, .func A.di_BadForks, osl⟩ ∧ PySem.W.codeIn K (.ref cda) "BadForks.__init__" = true ∧ SupF P K cda cc (A.cls 15)
  fn_BadForks : ∀ f ∈ (["at"] : List Str), PySem.W.findIn K (.ref (A.cls 15)) f = some none
  O_BadLots : OexC K (A.cls 23)
  iC_BadLots : PySem.W.findIn K (.ref (A.cls 23)) "__init__" = some (some (.ref A.i_BadLots))
  tI_BadLots : PySem.W.typeIn K (.ref A.i_BadLots) = some (.type "function")
  bI_BadLots : Binds K A.di_BadLots ["self", "word"] []
  F_init_BadLots : ∃ dV kV doc pm an cda ct cc oc od osl, A.di_BadLots = PySem.W.ksFn "__init__" "BadLots.__init__" (defArgs si_BadLots) (defBody si_BadLots) (defScope si_BadLots) dV kV doc pm an (.ref cda) ct cc ∧ K.lookup A.i_BadLots = some ⟨oc, od, .func A.di_BadLots, osl⟩ ∧ PySem.W.codeIn K (.ref cda) "BadLots.__init__" = true ∧ SupF P K cda cc (A.cls 23)
  fn_BadLots : ∀ f ∈ (["word"] : List Str), PySem.W.findIn K (.ref (A.cls 23)) f = some none
  O_BadSplit : OexC K (A.cls 44)
  iC_BadSplit : PySem.W.findIn K (.ref (A.cls 44)) "__init__" = some (some (.ref A.i_BadSplit))
  tI_BadSplit : PySem.W.typeIn K (.ref A.i_BadSplit) = some (.type "function")
  bI_BadSplit : Binds K A.di_BadSplit ["self", "path"] []
  F_init_BadSplit : ∃ dV kV doc pm an cda ct cc oc od osl, A.di_BadSplit = PySem.W.ksFn "__init__" "BadSplit.__init__" (defArgs si_BadSplit) (defBody si_BadSplit) (defScope si_BadSplit) dV kV doc pm an (.ref cda) ct cc ∧ K.lookup A.i_BadSplit = some ⟨oc, od, .func A.di_BadSplit, osl⟩ ∧ PySem.W.codeIn K (.ref cda) "BadSplit.__init__" = true ∧ SupF P K cda cc (A.cls 44)
  fn_BadSplit : ∀ f ∈ (["path"] : List Str), PySem.W.findIn K (.ref (A.cls 44)) f = some none
  O_BadText : OexC K (A.cls 50)
  iC_BadText : PySem.W.findIn K (.ref (A.cls 50)) "__init__" = some (some (.ref A.i_BadText))
  tI_BadText : PySem.W.typeIn K (.ref A.i_BadText) = some (.type "function")
  bI_BadText : Binds K A.di_BadText ["self", "line", "column", "wanted"] []
  F_init_BadText : ∃ dV kV doc pm an cda ct cc oc od osl, A.di_BadText = PySem.W.ksFn "__init__" "BadText.__init__" (defArgs si_BadText) (defBody si_BadText) (defScope si_BadText) dV kV doc pm an (.ref cda) ct cc ∧ K.lookup A.i_BadText = some ⟨oc, od, .func A.di_BadText, osl⟩ ∧ PySem.W.codeIn K (.ref cda) "BadText.__init__" = true ∧ SupF P K cda cc (A.cls 50)
  fn_BadText : ∀ f ∈ (["line", "column", "wanted"] : List Str), PySem.W.findIn K (.ref (A.cls 50)) f = some none
  O_BadWishes : OexC K (A.cls 54)
  iC_BadWishes : PySem.W.findIn K (.ref (A.cls 54)) "__init__" = some (some (.ref A.i_BadWishes))
  tI_BadWishes : PySem.W.typeIn K (.ref A.i_BadWishes) = some (.type "function")
  bI_BadWishes : Binds K A.di_BadWishes ["self", "at"] []
  F_init_BadWishes : ∃ dV kV doc pm an cda ct cc oc od osl, A.di_BadWishes = PySem.W.ksFn "__init__" "BadWishes.__init__" (defArgs si_BadWishes) (defBody si_BadWishes) (defScope si_BadWishes) dV kV doc pm an (.ref cda) ct cc ∧ K.lookup A.i_BadWishes = some ⟨oc, od, .func A.di_BadWishes, osl⟩ ∧ PySem.W.codeIn K (.ref cda) "BadWishes.__init__" = true ∧ SupF P K cda cc (A.cls 54)
  fn_BadWishes : ∀ f ∈ (["at"] : List Str), PySem.W.findIn K (.ref (A.cls 54)) f = some none
  O_Broken : OexC K (A.cls 58)
  iC_Broken : PySem.W.findIn K (.ref (A.cls 58)) "__init__" = some (some (.ref A.i_Broken))
  tI_Broken : PySem.W.typeIn K (.ref A.i_Broken) = some (.type "function")
  bI_Broken : Binds K A.di_Broken ["self", "breach"] []
  F_init_Broken : ∃ dV kV doc pm an cda ct cc oc od osl, A.di_Broken = PySem.W.ksFn "__init__" "Broken.__init__" (defArgs si_Broken) (defBody si_Broken) (defScope si_Broken) dV kV doc pm an (.ref cda) ct cc ∧ K.lookup A.i_Broken = some ⟨oc, od, .func A.di_Broken, osl⟩ ∧ PySem.W.codeIn K (.ref cda) "Broken.__init__" = true ∧ SupF P K cda cc (A.cls 58)
  fn_Broken : ∀ f ∈ (["breach"] : List Str), PySem.W.findIn K (.ref (A.cls 58)) f = some none
  O_Collides : OexC K (A.cls 59)
  iC_Collides : PySem.W.findIn K (.ref (A.cls 59)) "__init__" = some (some (.ref A.i_Collides))
  tI_Collides : PySem.W.typeIn K (.ref A.i_Collides) = some (.type "function")
  bI_Collides : Binds K A.di_Collides ["self", "first", "second"] []
  F_init_Collides : ∃ dV kV doc pm an cda ct cc oc od osl, A.di_Collides = PySem.W.ksFn "__init__" "Collides.__init__" (defArgs si_Collides) (defBody si_Collides) (defScope si_Collides) dV kV doc pm an (.ref cda) ct cc ∧ K.lookup A.i_Collides = some ⟨oc, od, .func A.di_Collides, osl⟩ ∧ PySem.W.codeIn K (.ref cda) "Collides.__init__" = true ∧ SupF P K cda cc (A.cls 59)
  fn_Collides : ∀ f ∈ (["first", "second"] : List Str), PySem.W.findIn K (.ref (A.cls 59)) f = some none
  O_Faulty : OexC K (A.cls 61)
  iC_Faulty : PySem.W.findIn K (.ref (A.cls 61)) "__init__" = some (some (.ref A.i_Faulty))
  tI_Faulty : PySem.W.typeIn K (.ref A.i_Faulty) = some (.type "function")
  bI_Faulty : Binds K A.di_Faulty ["self", "fault"] []
  F_init_Faulty : ∃ dV kV doc pm an cda ct cc oc od osl, A.di_Faulty = PySem.W.ksFn "__init__" "Faulty.__init__" (defArgs si_Faulty) (defBody si_Faulty) (defScope si_Faulty) dV kV doc pm an (.ref cda) ct cc ∧ K.lookup A.i_Faulty = some ⟨oc, od, .func A.di_Faulty, osl⟩ ∧ PySem.W.codeIn K (.ref cda) "Faulty.__init__" = true ∧ SupF P K cda cc (A.cls 61)
  fn_Faulty : ∀ f ∈ (["fault"] : List Str), PySem.W.findIn K (.ref (A.cls 61)) f = some none
  O_IsSure : OexC K (A.cls 62)
  iC_IsSure : PySem.W.findIn K (.ref (A.cls 62)) "__init__" = some (some (.ref A.i_IsSure))
  tI_IsSure : PySem.W.typeIn K (.ref A.i_IsSure) = some (.type "function")
  bI_IsSure : Binds K A.di_IsSure ["self", "price"] []
  F_init_IsSure : ∃ dV kV doc pm an cda ct cc oc od osl, A.di_IsSure = PySem.W.ksFn "__init__" "IsSure.__init__" (defArgs si_IsSure) (defBody si_IsSure) (defScope si_IsSure) dV kV doc pm an (.ref cda) ct cc ∧ K.lookup A.i_IsSure = some ⟨oc, od, .func A.di_IsSure, osl⟩ ∧ PySem.W.codeIn K (.ref cda) "IsSure.__init__" = true ∧ SupF P K cda cc (A.cls 62)
  fn_IsSure : ∀ f ∈ (["price"] : List Str), PySem.W.findIn K (.ref (A.cls 62)) f = some none
  O_NoFit : OexC K (A.cls 65)
  iC_NoFit : PySem.W.findIn K (.ref (A.cls 65)) "__init__" = some (some (.ref A.i_NoFit))
  tI_NoFit : PySem.W.typeIn K (.ref A.i_NoFit) = some (.type "function")
  bI_NoFit : Binds K A.di_NoFit ["self", "line", "column", "low", "high"] []
  F_init_NoFit : ∃ dV kV doc pm an cda ct cc oc od osl, A.di_NoFit = PySem.W.ksFn "__init__" "NoFit.__init__" (defArgs si_NoFit) (defBody si_NoFit) (defScope si_NoFit) dV kV doc pm an (.ref cda) ct cc ∧ K.lookup A.i_NoFit = some ⟨oc, od, .func A.di_NoFit, osl⟩ ∧ PySem.W.codeIn K (.ref cda) "NoFit.__init__" = true ∧ SupF P K cda cc (A.cls 65)
  fn_NoFit : ∀ f ∈ (["line", "column", "low", "high"] : List Str), PySem.W.findIn K (.ref (A.cls 65)) f = some none
  O_NoPlace : OexC K (A.cls 66)
  iC_NoPlace : PySem.W.findIn K (.ref (A.cls 66)) "__init__" = some (some (.ref A.i_NoPlace))
  tI_NoPlace : PySem.W.typeIn K (.ref A.i_NoPlace) = some (.type "function")
  bI_NoPlace : Binds K A.di_NoPlace ["self", "at"] []
  F_init_NoPlace : ∃ dV kV doc pm an cda ct cc oc od osl, A.di_NoPlace = PySem.W.ksFn "__init__" "NoPlace.__init__" (defArgs si_NoPlace) (defBody si_NoPlace) (defScope si_NoPlace) dV kV doc pm an (.ref cda) ct cc ∧ K.lookup A.i_NoPlace = some ⟨oc, od, .func A.di_NoPlace, osl⟩ ∧ PySem.W.codeIn K (.ref cda) "NoPlace.__init__" = true ∧ SupF P K cda cc (A.cls 66)
  fn_NoPlace : ∀ f ∈ (["at"] : List Str), PySem.W.findIn K (.ref (A.cls 66)) f = some none
  O_NoRing : OexC K (A.cls 68)
  iC_NoRing : PySem.W.findIn K (.ref (A.cls 68)) "__init__" = some (some (.ref A.i_NoRing))
  tI_NoRing : PySem.W.typeIn K (.ref A.i_NoRing) = some (.type "function")
  bI_NoRing : Binds K A.di_NoRing ["self", "name"] []
  F_init_NoRing : ∃ dV kV doc pm an cda ct cc oc od osl, A.di_NoRing = PySem.W.ksFn "__init__" "NoRing.__init__" (defArgs si_NoRing) (defBody si_NoRing) (defScope si_NoRing) dV kV doc pm an (.ref cda) ct cc ∧ K.lookup A.i_NoRing = some ⟨oc, od, .func A.di_NoRing, osl⟩ ∧ PySem.W.codeIn K (.ref cda) "NoRing.__init__" = true ∧ SupF P K cda cc (A.cls 68)
  fn_NoRing : ∀ f ∈ (["name"] : List Str), PySem.W.findIn K (.ref (A.cls 68)) f = some none
  O_NotGood : OexC K (A.cls 72)
  iC_NotGood : PySem.W.findIn K (.ref (A.cls 72)) "__init__" = some (some (.ref A.i_NotGood))
  tI_NotGood : PySem.W.typeIn K (.ref A.i_NotGood) = some (.type "function")
  bI_NotGood : Binds K A.di_NotGood ["self", "number"] []
  F_init_NotGood : ∃ dV kV doc pm an cda ct cc oc od osl, A.di_NotGood = PySem.W.ksFn "__init__" "NotGood.__init__" (defArgs si_NotGood) (defBody si_NotGood) (defScope si_NotGood) dV kV doc pm an (.ref cda) ct cc ∧ K.lookup A.i_NotGood = some ⟨oc, od, .func A.di_NotGood, osl⟩ ∧ PySem.W.codeIn K (.ref cda) "NotGood.__init__" = true ∧ SupF P K cda cc (A.cls 72)
  fn_NotGood : ∀ f ∈ (["number"] : List Str), PySem.W.findIn K (.ref (A.cls 72)) f = some none
  O_NotWritten : OexC K (A.cls 78)
  iC_NotWritten : PySem.W.findIn K (.ref (A.cls 78)) "__init__" = some (some (.ref A.i_NotWritten))
  tI_NotWritten : PySem.W.typeIn K (.ref A.i_NotWritten) = some (.type "function")
  bI_NotWritten : Binds K A.di_NotWritten ["self", "worth"] []
  F_init_NotWritten : ∃ dV kV doc pm an cda ct cc oc od osl, A.di_NotWritten = PySem.W.ksFn "__init__" "NotWritten.__init__" (defArgs si_NotWritten) (defBody si_NotWritten) (defScope si_NotWritten) dV kV doc pm an (.ref cda) ct cc ∧ K.lookup A.i_NotWritten = some ⟨oc, od, .func A.di_NotWritten, osl⟩ ∧ PySem.W.codeIn K (.ref cda) "NotWritten.__init__" = true ∧ SupF P K cda cc (A.cls 78)
  fn_NotWritten : ∀ f ∈ (["worth"] : List Str), PySem.W.findIn K (.ref (A.cls 78)) f = some none
  O_OpenWorth : OexC K (A.cls 84)
  iC_OpenWorth : PySem.W.findIn K (.ref (A.cls 84)) "__init__" = some (some (.ref A.i_OpenWorth))
  tI_OpenWorth : PySem.W.typeIn K (.ref A.i_OpenWorth) = some (.type "function")
  bI_OpenWorth : Binds K A.di_OpenWorth ["self", "point"] []
  F_init_OpenWorth : ∃ dV kV doc pm an cda ct cc oc od osl, A.di_OpenWorth = PySem.W.ksFn "__init__" "OpenWorth.__init__" (defArgs si_OpenWorth) (defBody si_OpenWorth) (defScope si_OpenWorth) dV kV doc pm an (.ref cda) ct cc ∧ K.lookup A.i_OpenWorth = some ⟨oc, od, .func A.di_OpenWorth, osl⟩ ∧ PySem.W.codeIn K (.ref cda) "OpenWorth.__init__" = true ∧ SupF P K cda cc (A.cls 84)
  fn_OpenWorth : ∀ f ∈ (["point"] : List Str), PySem.W.findIn K (.ref (A.cls 84)) f = some none
  O_TooMany : OexC K (A.cls 87)
  iC_TooMany : PySem.W.findIn K (.ref (A.cls 87)) "__init__" = some (some (.ref A.i_TooMany))
  tI_TooMany : PySem.W.typeIn K (.ref A.i_TooMany) = some (.type "function")
  bI_TooMany : Binds K A.di_TooMany ["self", "most"] []
  F_init_TooMany : ∃ dV kV doc pm an cda ct cc oc od osl, A.di_TooMany = PySem.W.ksFn "__init__" "TooMany.__init__" (defArgs si_TooMany) (defBody si_TooMany) (defScope si_TooMany) dV kV doc pm an (.ref cda) ct cc ∧ K.lookup A.i_TooMany = some ⟨oc, od, .func A.di_TooMany, osl⟩ ∧ PySem.W.codeIn K (.ref cda) "TooMany.__init__" = true ∧ SupF P K cda cc (A.cls 87)
  fn_TooMany : ∀ f ∈ (["most"] : List Str), PySem.W.findIn K (.ref (A.cls 87)) f = some none
  O_Wrong : OexC K (A.cls 89)
  iC_Wrong : PySem.W.findIn K (.ref (A.cls 89)) "__init__" = some (some (.ref A.i_Wrong))
  tI_Wrong : PySem.W.typeIn K (.ref A.i_Wrong) = some (.type "function")
  bI_Wrong : Binds K A.di_Wrong ["self", "path", "word"] []
  F_init_Wrong : ∃ dV kV doc pm an cda ct cc oc od osl, A.di_Wrong = PySem.W.ksFn "__init__" "Wrong.__init__" (defArgs si_Wrong) (defBody si_Wrong) (defScope si_Wrong) dV kV doc pm an (.ref cda) ct cc ∧ K.lookup A.i_Wrong = some ⟨oc, od, .func A.di_Wrong, osl⟩ ∧ PySem.W.codeIn K (.ref cda) "Wrong.__init__" = true ∧ SupF P K cda cc (A.cls 89)
  fn_Wrong : ∀ f ∈ (["path", "word"] : List Str), PySem.W.findIn K (.ref (A.cls 89)) f = some none
  m_ValueError : mg "ValueError" = none
  m_abs : mg "abs" = none
  m_enumerate : mg "enumerate" = none
  m_int : mg "int" = none
  m_isinstance : mg "isinstance" = none
  m_len : mg "len" = none
  m_repr : mg "repr" = none
  m_set : mg "set" = none
  m_super : mg "super" = none
  ok : A.Ok
  fx_ok : ∀ C n, fxT A C n = true → ExcC K C ∧ PySem.W.findIn K (.ref C) n = some none
  sub_ok : SubOk K (subT A)
  ex_ok : ∀ C, exT_ A C = true → ExcC K C
  catch_ok : ∀ j cls b, j < 90 → catchT A j cls = some b → PySem.W.exmOne K cls (.ref (A.cls j)) = some b
section
variable {P : Program} {w : World} {K : PySem.W.Frag} {mg : Str → Option Value} {base : Heap} {A : Ad}
theorem ok_init_BadBits (T : Txt P K base mg A) : FnOk P w K mg base (L2.CX P w) 1 A.i_BadBits A.di_BadBits ["self", "at"] (spSup (A.cls 6) ["at"]) := by
  have ⟨dV, kV, doc, pm, an, cda, ct, cc, oc, od, osl, ed, lk, hcd, G⟩ := T.F_init_BadBits
  rw [ed] at lk ⊢
  exact sup_ok (N := ["self", "at", "__class__"]) (k := 0) lk rfl hcd nsc_BadBits T.O_BadBits G T.m_super rfl rfl rfl rfl rfl (by decide) (by decide) (.cons rfl rfl (by decide) (by decide) .nil) T.fn_BadBits (by decide) (by decide)
theorem ok_init_BadEdits (T : Txt P K base mg A) : FnOk P w K mg base (L2.CX P w) 1 A.i_BadEdits A.di_BadEdits ["self", "at"] (spSup (A.cls 12) ["at"]) := by
  have ⟨dV, kV, doc, pm, an, cda, ct, cc, oc, od, osl, ed, lk, hcd, G⟩ := T.F_init_BadEdits
  rw [ed] at lk ⊢
  exact sup_ok (N := ["self", "at", "__class__"]) (k := 0) lk rfl hcd nsc_BadEdits T.O_BadEdits G T.m_super rfl rfl rfl rfl rfl (by decide) (by decide) (.cons rfl rfl (by decide) (by decide) .nil) T.fn_BadEdits (by decide) (by decide)
theorem ok_init_BadForks (T : Txt P K base mg A) : FnOk P w K mg base (L2.CX P w) 1 A.i_BadForks A.di_BadForks ["self", "at"] (spSup (A.cls 15) ["at"]) := by
  have ⟨dV, kV, doc, pm, an, cda, ct, cc, oc, od, osl, ed, lk, hcd, G⟩ := T.F_init_BadForks
  rw [ed] at lk ⊢
  exact sup_ok (N := ["self", "at", "__class__"]) (k := 0) lk rfl hcd nsc_BadForks T.O_BadForks G T.m_super rfl rfl rfl rfl rfl (by decide) (by decide) (.cons rfl rfl (by decide) (by decide) .nil) T.fn_BadForks (by decide) (by decide)
theorem ok_init_BadLots (T : Txt P K base mg A) : FnOk P w K mg base (L2.CX P w) 1 A.i_BadLots A.di_BadLots ["self", "word"] (spSup (A.cls 23) ["word"]) := by
  have ⟨dV, kV, doc, pm, an, cda, ct, cc, oc, od, osl, ed, lk, hcd, G⟩ := T.F_init_BadLots
  rw [ed] at lk ⊢
  exact sup_ok (N := ["self", "word", "__class__"]) (k := 0) lk rfl hcd nsc_BadLots T.O_BadLots G T.m_super rfl rfl rfl rfl rfl (by decide) (by decide) (.cons rfl rfl (by decide) (by decide) .nil) T.fn_BadLots (by decide) (by decide)
theorem ok_init_BadSplit (T : Txt P K base mg A) : FnOk P w K mg base (L2.CX P w) 1 A.i_BadSplit A.di_BadSplit ["self", "path"] (spSup (A.cls 44) ["path"]) := by
  have ⟨dV, kV, doc, pm, an, cda, ct, cc, oc, od, osl, ed, lk, hcd, G⟩ := T.F_init_BadSplit
  rw [ed] at lk ⊢
  exact sup_ok (N := ["self", "path", "__class__"]) (k := 0) lk rfl hcd nsc_BadSplit T.O_BadSplit G T.m_super rfl rfl rfl rfl rfl (by decide) (by decide) (.cons rfl rfl (by decide) (by decide) .nil) T.fn_BadSplit (by decide) (by decide)
theorem ok_init_BadText (T : Txt P K base mg A) : FnOk P w K mg base (L2.CX P w) 1 A.i_BadText A.di_BadText ["self", "line", "column", "wanted"] (spSup (A.cls 50) ["line", "column", "wanted"]) := by
  have ⟨dV, kV, doc, pm, an, cda, ct, cc, oc, od, osl, ed, lk, hcd, G⟩ := T.F_init_BadText
  rw [ed] at lk ⊢
  exact sup_ok (N := ["self", "line", "column", "wanted", "__class__"]) (k := 0) lk rfl hcd nsc_BadText T.O_BadText G T.m_super rfl rfl rfl rfl rfl (by decide) (by decide) (.cons rfl rfl (by decide) (by decide) (.cons rfl rfl (by decide) (by decide) (.cons rfl rfl (by decide) (by decide) .nil))) T.fn_BadText (by decide) (by decide)
theorem ok_init_BadWishes (T : Txt P K base mg A) : FnOk P w K mg base (L2.CX P w) 1 A.i_BadWishes A.di_BadWishes ["self", "at"] (spSup (A.cls 54) ["at"]) := by
  have ⟨dV, kV, doc, pm, an, cda, ct, cc, oc, od, osl, ed, lk, hcd, G⟩ := T.F_init_BadWishes
  rw [ed] at lk ⊢
  exact sup_ok (N := ["self", "at", "__class__"]) (k := 0) lk rfl hcd nsc_BadWishes T.O_BadWishes G T.m_super rfl rfl rfl rfl rfl (by decide) (by decide) (.cons rfl rfl (by decide) (by decide) .nil) T.fn_BadWishes (by decide) (by decide)
theorem ok_init_Broken (T : Txt P K base mg A) : FnOk P w K mg base (L2.CX P w) 1 A.i_Broken A.di_Broken ["self", "breach"] (spSup (A.cls 58) ["breach"]) := by
  have ⟨dV, kV, doc, pm, an, cda, ct, cc, oc, od, osl, ed, lk, hcd, G⟩ := T.F_init_Broken
  rw [ed] at lk ⊢
  exact sup_ok (N := ["self", "breach", "__class__"]) (k := 0) lk rfl hcd nsc_Broken T.O_Broken G T.m_super rfl rfl rfl rfl rfl (by decide) (by decide) (.cons rfl rfl (by decide) (by decide) .nil) T.fn_Broken (by decide) (by decide)
theorem ok_init_Collides (T : Txt P K base mg A) : FnOk P w K mg base (L2.CX P w) 1 A.i_Collides A.di_Collides ["self", "first", "second"] (spSup (A.cls 59) ["first", "second"]) := by
  have ⟨dV, kV, doc, pm, an, cda, ct, cc, oc, od, osl, ed, lk, hcd, G⟩ := T.F_init_Collides
  rw [ed] at lk ⊢
  exact sup_ok (N := ["self", "first", "second", "__class__"]) (k := 0) lk rfl hcd nsc_Collides T.O_Collides G T.m_super rfl rfl rfl rfl rfl (by decide) (by decide) (.cons rfl rfl (by decide) (by decide) (.cons rfl rfl (by decide) (by decide) .nil)) T.fn_Collides (by decide) (by decide)
theorem ok_init_Faulty (T : Txt P K base mg A) : FnOk P w K mg base (L2.CX P w) 1 A.i_Faulty A.di_Faulty ["self", "fault"] (spSup (A.cls 61) ["fault"]) := by
  have ⟨dV, kV, doc, pm, an, cda, ct, cc, oc, od, osl, ed, lk, hcd, G⟩ := T.F_init_Faulty
  rw [ed] at lk ⊢
  exact sup_ok (N := ["self", "fault", "__class__"]) (k := 0) lk rfl hcd nsc_Faulty T.O_Faulty G T.m_super rfl rfl rfl rfl rfl (by decide) (by decide) (.cons rfl rfl (by decide) (by decide) .nil) T.fn_Faulty (by decide) (by decide)
theorem ok_init_IsSure (T : Txt P K base mg A) : FnOk P w K mg base (L2.CX P w) 1 A.i_IsSure A.di_IsSure ["self", "price"] (spSup (A.cls 62) ["price"]) := by
  have ⟨dV, kV, doc, pm, an, cda, ct, cc, oc, od, osl, ed, lk, hcd, G⟩ := T.F_init_IsSure
  rw [ed] at lk ⊢
  exact sup_ok (N := ["self", "price", "__class__"]) (k := 0) lk rfl hcd nsc_IsSure T.O_IsSure G T.m_super rfl rfl rfl rfl rfl (by decide) (by decide) (.cons rfl rfl (by decide) (by decide) .nil) T.fn_IsSure (by decide) (by decide)
theorem ok_init_NoFit (T : Txt P K base mg A) : FnOk P w K mg base (L2.CX P w) 1 A.i_NoFit A.di_NoFit ["self", "line", "column", "low", "high"] (spSup (A.cls 65) ["line", "column", "low", "high"]) := by
  have ⟨dV, kV, doc, pm, an, cda, ct, cc, oc, od, osl, ed, lk, hcd, G⟩ := T.F_init_NoFit
  rw [ed] at lk ⊢
  exact sup_ok (N := ["self", "line", "column", "low", "high", "__class__"]) (k := 0) lk rfl hcd nsc_NoFit T.O_NoFit G T.m_super rfl rfl rfl rfl rfl (by decide) (by decide) (.cons rfl rfl (by decide) (by decide) (.cons rfl rfl (by decide) (by decide) (.cons rfl rfl (by decide) (by decide) (.cons rfl rfl (by decide) (by decide) .nil)))) T.fn_NoFit (by decide) (by decide)
theorem ok_init_NoPlace (T : Txt P K base mg A) : FnOk P w K mg base (L2.CX P w) 1 A.i_NoPlace A.di_NoPlace ["self", "at"] (spSup (A.cls 66) ["at"]) := by
  have ⟨dV, kV, doc, pm, an, cda, ct, cc, oc, od, osl, ed, lk, hcd, G⟩ := T.F_init_NoPlace
  rw [ed] at lk ⊢
  exact sup_ok (N := ["self", "at", "__class__"]) (k := 0) lk rfl hcd nsc_NoPlace T.O_NoPlace G T.m_super rfl rfl rfl rfl rfl (by decide) (by decide) (.cons rfl rfl (by decide) (by decide) .nil) T.fn_NoPlace (by decide) (by decide)
theorem ok_init_NoRing (T : Txt P K base mg A) : FnOk P w K mg base (L2.CX P w) 1 A.i_NoRing A.di_NoRing ["self", "name"] (spSup (A.cls 68) ["name"]) := by
  have ⟨dV, kV, doc, pm, an, cda, ct, cc, oc, od, osl, ed, lk, hcd, G⟩ := T.F_init_NoRing
  rw [ed] at lk ⊢
  exact sup_ok (N := ["self", "name", "__class__"]) (k := 0) lk rfl hcd nsc_NoRing T.O_NoRing G T.m_super rfl rfl rfl rfl rfl (by decide) (by decide) (.cons rfl rfl (by decide) (by decide) .nil) T.fn_NoRing (by decide) (by decide)
theorem ok_init_NotGood (T : Txt P K base mg A) : FnOk P w K mg base (L2.CX P w) 1 A.i_NotGood A.di_NotGood ["self", "number"] (spSup (A.cls 72) ["number"]) := by
  have ⟨dV, kV, doc, pm, an, cda, ct, cc, oc, od, osl, ed, lk, hcd, G⟩ := T.F_init_NotGood
  rw [ed] at lk ⊢
  exact sup_ok (N := ["self", "number", "__class__"]) (k := 0) lk rfl hcd nsc_NotGood T.O_NotGood G T.m_super rfl rfl rfl rfl rfl (by decide) (by decide) (.cons rfl rfl (by decide) (by decide) .nil) T.fn_NotGood (by decide) (by decide)
theorem ok_init_NotWritten (T : Txt P K base mg A) : FnOk P w K mg base (L2.CX P w) 1 A.i_NotWritten A.di_NotWritten ["self", "worth"] (spSup (A.cls 78) ["worth"]) := by
  have ⟨dV, kV, doc, pm, an, cda, ct, cc, oc, od, osl, ed, lk, hcd, G⟩ := T.F_init_NotWritten
  rw [ed] at lk ⊢
  exact sup_ok (N := ["self", "worth", "__class__"]) (k := 0) lk rfl hcd nsc_NotWritten T.O_NotWritten G T.m_super rfl rfl rfl rfl rfl (by decide) (by decide) (.cons rfl rfl (by decide) (by decide) .nil) T.fn_NotWritten (by decide) (by decide)
theorem ok_init_OpenWorth (T : Txt P K base mg A) : FnOk P w K mg base (L2.CX P w) 1 A.i_OpenWorth A.di_OpenWorth ["self", "point"] (spSup (A.cls 84) ["point"]) := by
  have ⟨dV, kV, doc, pm, an, cda, ct, cc, oc, od, osl, ed, lk, hcd, G⟩ := T.F_init_OpenWorth
  rw [ed] at lk ⊢
  exact sup_ok (N := ["self", "point", "__class__"]) (k := 0) lk rfl hcd nsc_OpenWorth T.O_OpenWorth G T.m_super rfl rfl rfl rfl rfl (by decide) (by decide) (.cons rfl rfl (by decide) (by decide) .nil) T.fn_OpenWorth (by decide) (by decide)
theorem ok_init_TooMany (T : Txt P K base mg A) : FnOk P w K mg base (L2.CX P w) 1 A.i_TooMany A.di_TooMany ["self", "most"] (spSup (A.cls 87) ["most"]) := by
  have ⟨dV, kV, doc, pm, an, cda, ct, cc, oc, od, osl, ed, lk, hcd, G⟩ := T.F_init_TooMany
  rw [ed] at lk ⊢
  exact sup_ok (N := ["self", "most", "__class__"]) (k := 0) lk rfl hcd nsc_TooMany T.O_TooMany G T.m_super rfl rfl rfl rfl rfl (by decide) (by decide) (.cons rfl rfl (by decide) (by decide) .nil) T.fn_TooMany (by decide) (by decide)
theorem ok_init_Wrong (T : Txt P K base mg A) : FnOk P w K mg base (L2.CX P w) 1 A.i_Wrong A.di_Wrong ["self", "path", "word"] (spSup (A.cls 89) ["path", "word"]) := by
  have ⟨dV, kV, doc, pm, an, cda, ct, cc, oc, od, osl, ed, lk, hcd, G⟩ := T.F_init_Wrong
  rw [ed] at lk ⊢
  exact sup_ok (N := ["self", "path", "word", "__class__"]) (k := 0) lk rfl hcd nsc_Wrong T.O_Wrong G T.m_super rfl rfl rfl rfl rfl (by decide) (by decide) (.cons rfl rfl (by decide) (by decide) (.cons rfl rfl (by decide) (by decide) .nil)) T.fn_Wrong (by decide) (by decide)
theorem ok_law_begun (T : Txt P K base mg A) : FnOk P w K mg base (L2.CX P w) 1 A.f_law_begun A.d_law_begun ["script"] (spM K 1 (r_law_begun A)) := by
  refine fn_ok (k := 0) T.F_law_begun sc_law_begun fun cdv A' outer s H E hr => ?_
  have tk0 : Takes (cxOf (L2.CX P w) P w K mg base ["script", "wide", "grain"] "_law_begun" (defScope s_law_begun) A.f_law_begun cdv A' outer s H E) (Wd E) := takes_of rfl rfl rfl rfl
  have po0 : PassesOwn (model P w) (cxOf (L2.CX P w) P w K mg base ["script", "wide", "grain"] "_law_begun" (defScope s_law_begun) A.f_law_begun cdv A' outer s H E).A (cxOf (L2.CX P w) P w K mg base ["script", "wide", "grain"] "_law_begun" (defScope s_law_begun) A.f_law_begun cdv A' outer s H E).env (cxOf (L2.CX P w) P w K mg base ["script", "wide", "grain"] "_law_begun" (defScope s_law_begun) A.f_law_begun cdv A' outer s H E).xe := passes_of rfl
  exact (ss_cons (s_setComp (i := 1) (own := [("grain", 2)]) (mkM_ok _) rfl sc_law_begun.nd rfl rfl (sw_true rfl rfl rfl (by decide +kernel)) (i_seq (e_var (pv 0))) (blkOk_by (own := [("grain", 2)]) (N := ["script", "wide", "grain"]) (sc := defScope s_law_begun) (by decide +kernel)) (mono_name) (tg_name) (fun _ _ _ _ _ => pg_name (i := 2) sc_law_begun.nd rfl (Or.inl rfl)) (W1 := W0) (fun _ _ _ _ _ => (ts_one (t_cmp op_geA d_ord bools_ord (e_callB call_abs d_abs rfl T.m_abs bt_abs (a_cons (e_var (pv 2)) a_nil)) (e_op op_pow d_pow e_int e_int)))) (W2 := W0) (fun _ _ _ _ _ => (e_op op_sub d_sub (e_callB call_abs d_abs rfl T.m_abs bt_abs (a_cons (e_var (pv 2)) a_nil)) (e_op op_pow d_pow e_int e_int))))
    (ss_one (s_ret (e_disp (mkDM_ok _) (dp_cons (.inr "wide") pe_str (e_var (pv 1)) (dp_cons (.inr "cells") pe_str (e_comp (own := [("grain", 2)]) (mkF_ok _) rfl sc_law_begun.nd (i_seq (e_var (pv 0))) (blkOk_by (own := [("grain", 2)]) (N := ["script", "wide", "grain"]) (sc := defScope s_law_begun) (by decide +kernel)) (mono_name) (tg_name) (fun _ _ _ _ _ => pg_name (i := 2) sc_law_begun.nd rfl (Or.inl rfl)) (W1 := W0) (fun _ _ _ _ _ => ts_nil) (W2 := W0) (fun _ _ _ _ _ => (e_op op_mod d_mod (e_callTy call_int1 d_int rfl T.m_int bt_int (a_cons (e_callB call_abs d_abs rfl T.m_abs bt_abs (a_cons (e_var (pv 2)) a_nil)) a_nil)) e_int))) (dp_cons (.inr "rest") pe_str e_int (dp_cons (.inr "turn") pe_str e_int dp_nil)))) (by decide)))))
theorem ok_law_mixed (T : Txt P K base mg A) : FnOk P w K mg base (L2.CX P w) 1 A.f_law_mixed A.d_law_mixed ["draw"] (spM K 1 (r_law_mixed A)) := by
  refine fn_ok (k := 0) T.F_law_mixed sc_law_mixed fun cdv A' outer s H E hr => ?_
  have tk0 : Takes (cxOf (L2.CX P w) P w K mg base ["draw", "turn", "found", "prime", "blend", "grain"] "_law_mixed" (defScope s_law_mixed) A.f_law_mixed cdv A' outer s H E) (Wd E) := takes_of rfl rfl rfl rfl
  have po0 : PassesOwn (model P w) (cxOf (L2.CX P w) P w K mg base ["draw", "turn", "found", "prime", "blend", "grain"] "_law_mixed" (defScope s_law_mixed) A.f_law_mixed cdv A' outer s H E).A (cxOf (L2.CX P w) P w K mg base ["draw", "turn", "found", "prime", "blend", "grain"] "_law_mixed" (defScope s_law_mixed) A.f_law_mixed cdv A' outer s H E).env (cxOf (L2.CX P w) P w K mg base ["draw", "turn", "found", "prime", "blend", "grain"] "_law_mixed" (defScope s_law_mixed) A.f_law_mixed cdv A' outer s H E).xe := passes_of rfl
  exact (ss_cons (s_par (i := 1) (j := 2) rfl sc_law_mixed.nd rfl rfl (by decide) rfl rfl (a_cons (e_op op_addT (d_addT (mkF_ok _)) (e_ix (ix_all (hu_of hr)) d_ix (e_var (pv 0)) e_str) e_int) (a_cons e_int a_nil)) (by rfl))
    (ss_cons (s_asg (e_var (pv 1)) (g_sub (W := W0) (hu_of hr) (e_var (pv 0)) e_str))
    (ss_cons (s_for po0 rfl (i_seq (e_lst (mkF_ok _) (a_cons e_int (a_cons e_int (a_cons e_int (a_cons e_int a_nil)))))) (g_name (pg_name (i := 3) sc_law_mixed.nd rfl (Or.inl rfl))) (ss_cons (s_set (i := 4) sc_law_mixed.nd rfl (Or.inl rfl) (e_op op_addT (d_addT (mkF_ok _)) (e_op op_mul d_mul e_int (e_var (pv 1))) (e_op op_fdiv d_div (e_var (pv 3)) e_int)))
    (ss_cons (s_for po0 rfl (i_seq (e_ix (ix_all (hu_of hr)) d_ix (e_var (pv 0)) e_str)) (g_name (pg_name (i := 5) sc_law_mixed.nd rfl (Or.inl rfl))) (ss_one (s_set (i := 4) sc_law_mixed.nd rfl (Or.inl rfl) (e_op op_mod d_mod (e_callTy call_int1 d_int rfl T.m_int bt_int (a_cons (e_op op_addT (d_addT (mkF_ok _)) (e_op op_addT (d_addT (mkF_ok _)) (e_op op_mul d_mul (e_var (pv 4)) e_int) (e_var (pv 5))) (e_var (pv 1))) a_nil)) (e_var (pv 3))))))
    (ss_one (s_set (i := 2) sc_law_mixed.nd rfl (Or.inl rfl) (e_op op_addT (d_addT (mkF_ok _)) (e_op op_mul d_mul (e_var (pv 2)) e_int) (e_op op_mod d_mod (e_callTy call_int1 d_int rfl T.m_int bt_int (a_cons (e_op op_pow d_pow (e_var (pv 4)) e_int) a_nil)) (e_var (pv 3)))))))))
    (ss_one (s_ret (e_var (pv 2)))))))
theorem ok_law_take (T : Txt P K base mg A) : FnOk P w K mg base (L2.CX P w) 2 A.f_law_take A.d_law_take ["draw", "many"] (spM K 2 (r_law_take A)) := by
  refine fn_ok (k := 1) T.F_law_take sc_law_take fun cdv A' outer s H E hr => ?_
  have tk0 : Takes (cxOf (L2.CX P w) P w K mg base ["draw", "many", "found"] "_law_take" (defScope s_law_take) A.f_law_take cdv A' outer s H E) (Wd E) := takes_of rfl rfl rfl rfl
  have po0 : PassesOwn (model P w) (cxOf (L2.CX P w) P w K mg base ["draw", "many", "found"] "_law_take" (defScope s_law_take) A.f_law_take cdv A' outer s H E).A (cxOf (L2.CX P w) P w K mg base ["draw", "many", "found"] "_law_take" (defScope s_law_take) A.f_law_take cdv A' outer s H E).env (cxOf (L2.CX P w) P w K mg base ["draw", "many", "found"] "_law_take" (defScope s_law_take) A.f_law_take cdv A' outer s H E).xe := passes_of rfl
  exact (ss_cons (s_if (t_cmp (op_eqE hr.units) (d_nil d_eq) (bools_nil bools_eq) (e_ix (ix_all (hu_of hr)) d_ix (e_var (pv 0)) e_str) e_int) (ss_one (s_asg (e_if (t_cmp (op_neE hr.units) (d_nil d_ne) (bools_nil bools_ne) (e_ix (ix_all (hu_of hr)) d_ix (e_var (pv 0)) e_str) (e_lst (mkF_ok _) a_nil)) (e_bm PySem.F.plainAttrs_list PySem.F.slot_list_pop PySem.F.type_list_pop mt_popAt m_popAt (e_ix (ix_all (hu_of hr)) d_ix (e_var (pv 0)) e_str) (a_cons e_int a_nil)) (e_call (ok_law_mixed T) (hr.mono (by decide)) rfl T.g_law_mixed T.F_law_mixed.kp T.b_law_mixed tk0 (a_cons (e_var (pv 0)) a_nil))) (g_sub (W := W0) (hu_of hr) (e_var (pv 0)) e_str))) ss_nil)
    (ss_cons (s_set (i := 2) sc_law_take.nd rfl (Or.inl rfl) (e_op op_mod d_mod (e_callTy call_int1 d_int rfl T.m_int bt_int (a_cons (e_ix (ix_all (hu_of hr)) d_ix (e_var (pv 0)) e_str) a_nil)) (e_var (pv 1))))
    (ss_cons (s_asg (e_op op_fdiv d_div (e_ix (ix_all (hu_of hr)) d_ix (e_var (pv 0)) e_str) (e_var (pv 1))) (g_sub (W := W0) (hu_of hr) (e_var (pv 0)) e_str))
    (ss_one (s_ret (e_var (pv 2)))))))
theorem ok_law_pick (T : Txt P K base mg A) : FnOk P w K mg base (L2.CX P w) 3 A.f_law_pick A.d_law_pick ["draw", "some"] (spM K 2 (r_law_pick A)) := by
  refine fn_ok (k := 2) T.F_law_pick sc_law_pick fun cdv A' outer s H E hr => ?_
  have tk0 : Takes (cxOf (L2.CX P w) P w K mg base ["draw", "some"] "_law_pick" (defScope s_law_pick) A.f_law_pick cdv A' outer s H E) (Wd E) := takes_of rfl rfl rfl rfl
  have po0 : PassesOwn (model P w) (cxOf (L2.CX P w) P w K mg base ["draw", "some"] "_law_pick" (defScope s_law_pick) A.f_law_pick cdv A' outer s H E).A (cxOf (L2.CX P w) P w K mg base ["draw", "some"] "_law_pick" (defScope s_law_pick) A.f_law_pick cdv A' outer s H E).env (cxOf (L2.CX P w) P w K mg base ["draw", "some"] "_law_pick" (defScope s_law_pick) A.f_law_pick cdv A' outer s H E).xe := passes_of rfl
  exact (ss_one (s_ret (e_ix (ix_all (hu_of hr)) d_ix (e_var (pv 1)) (e_call (ok_law_take T) (hr.mono (by decide)) rfl T.g_law_take T.F_law_take.kp T.b_law_take tk0 (a_cons (e_var (pv 0)) (a_cons (e_callB call_lenA d_len_ rfl T.m_len bt_len (a_cons (e_var (pv 1)) a_nil)) a_nil))))))
theorem ok_law_plain_errors (T : Txt P K base mg A) : FnOk P w K mg base (L2.CX P w) 1 A.f_law_plain_errors A.d_law_plain_errors [] (spM K 0 (r_law_plain_errors A)) := by
  refine fn_ok (k := 0) T.F_law_plain_errors sc_law_plain_errors fun cdv A' outer s H E hr => ?_
  have tk0 : Takes (cxOf (L2.CX P w) P w K mg base ["found"] "_law_plain_errors" (defScope s_law_plain_errors) A.f_law_plain_errors cdv A' outer s H E) (Wd E) := takes_of rfl rfl rfl rfl
  have po0 : PassesOwn (model P w) (cxOf (L2.CX P w) P w K mg base ["found"] "_law_plain_errors" (defScope s_law_plain_errors) A.f_law_plain_errors cdv A' outer s H E).A (cxOf (L2.CX P w) P w K mg base ["found"] "_law_plain_errors" (defScope s_law_plain_errors) A.f_law_plain_errors cdv A' outer s H E).env (cxOf (L2.CX P w) P w K mg base ["found"] "_law_plain_errors" (defScope s_law_plain_errors) A.f_law_plain_errors cdv A' outer s H E).xe := passes_of rfl
  exact (ss_cons (s_set (i := 0) sc_law_plain_errors.nd rfl (Or.inl rfl) (e_lst (mkF_ok _) (a_cons (e_new (pmk_own PySem.F.excBase_ValueError (T.x_ 1 (by decide) (by decide)) (show mg "AlreadyTold" = _ from T.g_cls 1 (by decide)) (T.k_ 1 (by decide)) (raises_own (T.e_ 1 (by decide)) (T.t_ 1 (by decide))) rfl)) (a_cons (e_new (pmk_own PySem.F.excBase_ValueError (T.x_ 2 (by decide) (by decide)) (show mg "BadAnswer" = _ from T.g_cls 2 (by decide)) (T.k_ 2 (by decide)) (raises_own (T.e_ 2 (by decide)) (T.t_ 2 (by decide))) rfl)) (a_cons (e_new (pmk_own PySem.F.excBase_ValueError (T.x_ 3 (by decide) (by decide)) (show mg "BadAt" = _ from T.g_cls 3 (by decide)) (T.k_ 3 (by decide)) (raises_own (T.e_ 3 (by decide)) (T.t_ 3 (by decide))) rfl)) (a_cons (e_new (pmk_own PySem.F.excBase_ValueError (T.x_ 4 (by decide) (by decide)) (show mg "BadBargains" = _ from T.g_cls 4 (by decide)) (T.k_ 4 (by decide)) (raises_own (T.e_ 4 (by decide)) (T.t_ 4 (by decide))) rfl)) (a_cons (e_new (pmk_own PySem.F.excBase_ValueError (T.x_ 5 (by decide) (by decide)) (show mg "BadBit" = _ from T.g_cls 5 (by decide)) (T.k_ 5 (by decide)) (raises_own (T.e_ 5 (by decide)) (T.t_ 5 (by decide))) rfl)) (a_cons (e_new (pmk_own PySem.F.excBase_ValueError (T.x_ 7 (by decide) (by decide)) (show mg "BadBook" = _ from T.g_cls 7 (by decide)) (T.k_ 7 (by decide)) (raises_own (T.e_ 7 (by decide)) (T.t_ 7 (by decide))) rfl)) (a_cons (e_new (pmk_own PySem.F.excBase_ValueError (T.x_ 8 (by decide) (by decide)) (show mg "BadBox" = _ from T.g_cls 8 (by decide)) (T.k_ 8 (by decide)) (raises_own (T.e_ 8 (by decide)) (T.t_ 8 (by decide))) rfl)) (a_cons (e_new (pmk_own PySem.F.excBase_ValueError (T.x_ 9 (by decide) (by decide)) (show mg "BadCell" = _ from T.g_cls 9 (by decide)) (T.k_ 9 (by decide)) (raises_own (T.e_ 9 (by decide)) (T.t_ 9 (by decide))) rfl)) (a_cons (e_new (pmk_own PySem.F.excBase_ValueError (T.x_ 10 (by decide) (by decide)) (show mg "BadClaim" = _ from T.g_cls 10 (by decide)) (T.k_ 10 (by decide)) (raises_own (T.e_ 10 (by decide)) (T.t_ 10 (by decide))) rfl)) (a_cons (e_new (pmk_own PySem.F.excBase_ValueError (T.x_ 11 (by decide) (by decide)) (show mg "BadCourse" = _ from T.g_cls 11 (by decide)) (T.k_ 11 (by decide)) (raises_own (T.e_ 11 (by decide)) (T.t_ 11 (by decide))) rfl)) a_nil))))))))))))
    (ss_cons (s_set (i := 0) sc_law_plain_errors.nd rfl (Or.inl rfl) (e_op op_addT (d_addT (mkF_ok _)) (e_var (pv 0)) (e_lst (mkF_ok _) (a_cons (e_new (pmk_own PySem.F.excBase_ValueError (T.x_ 13 (by decide) (by decide)) (show mg "BadExpression" = _ from T.g_cls 13 (by decide)) (T.k_ 13 (by decide)) (raises_own (T.e_ 13 (by decide)) (T.t_ 13 (by decide))) rfl)) (a_cons (e_new (pmk_own PySem.F.excBase_ValueError (T.x_ 14 (by decide) (by decide)) (show mg "BadFork" = _ from T.g_cls 14 (by decide)) (T.k_ 14 (by decide)) (raises_own (T.e_ 14 (by decide)) (T.t_ 14 (by decide))) rfl)) (a_cons (e_new (pmk_own PySem.F.excBase_ValueError (T.x_ 16 (by decide) (by decide)) (show mg "BadGame" = _ from T.g_cls 16 (by decide)) (T.k_ 16 (by decide)) (raises_own (T.e_ 16 (by decide)) (T.t_ 16 (by decide))) rfl)) (a_cons (e_new (pmk_own PySem.F.excBase_ValueError (T.x_ 17 (by decide) (by decide)) (show mg "BadGroup" = _ from T.g_cls 17 (by decide)) (T.k_ 17 (by decide)) (raises_own (T.e_ 17 (by decide)) (T.t_ 17 (by decide))) rfl)) (a_cons (e_new (pmk_own PySem.F.excBase_ValueError (T.x_ 18 (by decide) (by decide)) (show mg "BadIndexes" = _ from T.g_cls 18 (by decide)) (T.k_ 18 (by decide)) (raises_own (T.e_ 18 (by decide)) (T.t_ 18 (by decide))) rfl)) (a_cons (e_new (pmk_own PySem.F.excBase_ValueError (T.x_ 19 (by decide) (by decide)) (show mg "BadInner" = _ from T.g_cls 19 (by decide)) (T.k_ 19 (by decide)) (raises_own (T.e_ 19 (by decide)) (T.t_ 19 (by decide))) rfl)) (a_cons (e_new (pmk_own PySem.F.excBase_ValueError (T.x_ 20 (by decide) (by decide)) (show mg "BadInputs" = _ from T.g_cls 20 (by decide)) (T.k_ 20 (by decide)) (raises_own (T.e_ 20 (by decide)) (T.t_ 20 (by decide))) rfl)) (a_cons (e_new (pmk_own PySem.F.excBase_ValueError (T.x_ 21 (by decide) (by decide)) (show mg "BadLimit" = _ from T.g_cls 21 (by decide)) (T.k_ 21 (by decide)) (raises_own (T.e_ 21 (by decide)) (T.t_ 21 (by decide))) rfl)) (a_cons (e_new (pmk_own PySem.F.excBase_ValueError (T.x_ 22 (by decide) (by decide)) (show mg "BadLot" = _ from T.g_cls 22 (by decide)) (T.k_ 22 (by decide)) (raises_own (T.e_ 22 (by decide)) (T.t_ 22 (by decide))) rfl)) (a_cons (e_new (pmk_own PySem.F.excBase_ValueError (T.x_ 24 (by decide) (by decide)) (show mg "BadMany" = _ from T.g_cls 24 (by decide)) (T.k_ 24 (by decide)) (raises_own (T.e_ 24 (by decide)) (T.t_ 24 (by decide))) rfl)) a_nil)))))))))))))
    (ss_cons (s_set (i := 0) sc_law_plain_errors.nd rfl (Or.inl rfl) (e_op op_addT (d_addT (mkF_ok _)) (e_var (pv 0)) (e_lst (mkF_ok _) (a_cons (e_new (pmk_own PySem.F.excBase_ValueError (T.x_ 25 (by decide) (by decide)) (show mg "BadMost" = _ from T.g_cls 25 (by decide)) (T.k_ 25 (by decide)) (raises_own (T.e_ 25 (by decide)) (T.t_ 25 (by decide))) rfl)) (a_cons (e_new (pmk_own PySem.F.excBase_ValueError (T.x_ 26 (by decide) (by decide)) (show mg "BadName" = _ from T.g_cls 26 (by decide)) (T.k_ 26 (by decide)) (raises_own (T.e_ 26 (by decide)) (T.t_ 26 (by decide))) rfl)) (a_cons (e_new (pmk_own PySem.F.excBase_ValueError (T.x_ 27 (by decide) (by decide)) (show mg "BadNames" = _ from T.g_cls 27 (by decide)) (T.k_ 27 (by decide)) (raises_own (T.e_ 27 (by decide)) (T.t_ 27 (by decide))) rfl)) (a_cons (e_new (pmk_own PySem.F.excBase_ValueError (T.x_ 28 (by decide) (by decide)) (show mg "BadNumber" = _ from T.g_cls 28 (by decide)) (T.k_ 28 (by decide)) (raises_own (T.e_ 28 (by decide)) (T.t_ 28 (by decide))) rfl)) (a_cons (e_new (pmk_own PySem.F.excBase_ValueError (T.x_ 29 (by decide) (by decide)) (show mg "BadNumbers" = _ from T.g_cls 29 (by decide)) (T.k_ 29 (by decide)) (raises_own (T.e_ 29 (by decide)) (T.t_ 29 (by decide))) rfl)) (a_cons (e_new (pmk_own PySem.F.excBase_ValueError (T.x_ 30 (by decide) (by decide)) (show mg "BadOrder" = _ from T.g_cls 30 (by decide)) (T.k_ 30 (by decide)) (raises_own (T.e_ 30 (by decide)) (T.t_ 30 (by decide))) rfl)) (a_cons (e_new (pmk_own PySem.F.excBase_ValueError (T.x_ 31 (by decide) (by decide)) (show mg "BadPaper" = _ from T.g_cls 31 (by decide)) (T.k_ 31 (by decide)) (raises_own (T.e_ 31 (by decide)) (T.t_ 31 (by decide))) rfl)) (a_cons (e_new (pmk_own PySem.F.excBase_ValueError (T.x_ 32 (by decide) (by decide)) (show mg "BadPart" = _ from T.g_cls 32 (by decide)) (T.k_ 32 (by decide)) (raises_own (T.e_ 32 (by decide)) (T.t_ 32 (by decide))) rfl)) (a_cons (e_new (pmk_own PySem.F.excBase_ValueError (T.x_ 33 (by decide) (by decide)) (show mg "BadPath" = _ from T.g_cls 33 (by decide)) (T.k_ 33 (by decide)) (raises_own (T.e_ 33 (by decide)) (T.t_ 33 (by decide))) rfl)) (a_cons (e_new (pmk_own PySem.F.excBase_ValueError (T.x_ 34 (by decide) (by decide)) (show mg "BadPlace" = _ from T.g_cls 34 (by decide)) (T.k_ 34 (by decide)) (raises_own (T.e_ 34 (by decide)) (T.t_ 34 (by decide))) rfl)) a_nil)))))))))))))
    (ss_cons (s_set (i := 0) sc_law_plain_errors.nd rfl (Or.inl rfl) (e_op op_addT (d_addT (mkF_ok _)) (e_var (pv 0)) (e_lst (mkF_ok _) (a_cons (e_new (pmk_own PySem.F.excBase_ValueError (T.x_ 35 (by decide) (by decide)) (show mg "BadPoint" = _ from T.g_cls 35 (by decide)) (T.k_ 35 (by decide)) (raises_own (T.e_ 35 (by decide)) (T.t_ 35 (by decide))) rfl)) (a_cons (e_new (pmk_own PySem.F.excBase_ValueError (T.x_ 36 (by decide) (by decide)) (show mg "BadPrice" = _ from T.g_cls 36 (by decide)) (T.k_ 36 (by decide)) (raises_own (T.e_ 36 (by decide)) (T.t_ 36 (by decide))) rfl)) (a_cons (e_new (pmk_own PySem.F.excBase_ValueError (T.x_ 37 (by decide) (by decide)) (show mg "BadPrices" = _ from T.g_cls 37 (by decide)) (T.k_ 37 (by decide)) (raises_own (T.e_ 37 (by decide)) (T.t_ 37 (by decide))) rfl)) (a_cons (e_new (pmk_own PySem.F.excBase_ValueError (T.x_ 38 (by decide) (by decide)) (show mg "BadPromises" = _ from T.g_cls 38 (by decide)) (T.k_ 38 (by decide)) (raises_own (T.e_ 38 (by decide)) (T.t_ 38 (by decide))) rfl)) (a_cons (e_new (pmk_own PySem.F.excBase_ValueError (T.x_ 39 (by decide) (by decide)) (show mg "BadQuestion" = _ from T.g_cls 39 (by decide)) (T.k_ 39 (by decide)) (raises_own (T.e_ 39 (by decide)) (T.t_ 39 (by decide))) rfl)) (a_cons (e_new (pmk_own PySem.F.excBase_ValueError (T.x_ 40 (by decide) (by decide)) (show mg "BadScheme" = _ from T.g_cls 40 (by decide)) (T.k_ 40 (by decide)) (raises_own (T.e_ 40 (by decide)) (T.t_ 40 (by decide))) rfl)) (a_cons (e_new (pmk_own PySem.F.excBase_ValueError (T.x_ 41 (by decide) (by decide)) (show mg "BadSheet" = _ from T.g_cls 41 (by decide)) (T.k_ 41 (by decide)) (raises_own (T.e_ 41 (by decide)) (T.t_ 41 (by decide))) rfl)) (a_cons (e_new (pmk_own PySem.F.excBase_ValueError (T.x_ 42 (by decide) (by decide)) (show mg "BadSide" = _ from T.g_cls 42 (by decide)) (T.k_ 42 (by decide)) (raises_own (T.e_ 42 (by decide)) (T.t_ 42 (by decide))) rfl)) (a_cons (e_new (pmk_own PySem.F.excBase_ValueError (T.x_ 43 (by decide) (by decide)) (show mg "BadSides" = _ from T.g_cls 43 (by decide)) (T.k_ 43 (by decide)) (raises_own (T.e_ 43 (by decide)) (T.t_ 43 (by decide))) rfl)) a_nil))))))))))))
    (ss_cons (s_set (i := 0) sc_law_plain_errors.nd rfl (Or.inl rfl) (e_op op_addT (d_addT (mkF_ok _)) (e_var (pv 0)) (e_lst (mkF_ok _) (a_cons (e_new (pmk_own PySem.F.excBase_ValueError (T.x_ 45 (by decide) (by decide)) (show mg "BadSpot" = _ from T.g_cls 45 (by decide)) (T.k_ 45 (by decide)) (raises_own (T.e_ 45 (by decide)) (T.t_ 45 (by decide))) rfl)) (a_cons (e_new (pmk_own PySem.F.excBase_ValueError (T.x_ 46 (by decide) (by decide)) (show mg "BadSpots" = _ from T.g_cls 46 (by decide)) (T.k_ 46 (by decide)) (raises_own (T.e_ 46 (by decide)) (T.t_ 46 (by decide))) rfl)) (a_cons (e_new (pmk_own PySem.F.excBase_ValueError (T.x_ 47 (by decide) (by decide)) (show mg "BadStretch" = _ from T.g_cls 47 (by decide)) (T.k_ 47 (by decide)) (raises_own (T.e_ 47 (by decide)) (T.t_ 47 (by decide))) rfl)) (a_cons (e_new (pmk_own PySem.F.excBase_ValueError (T.x_ 48 (by decide) (by decide)) (show mg "BadStretches" = _ from T.g_cls 48 (by decide)) (T.k_ 48 (by decide)) (raises_own (T.e_ 48 (by decide)) (T.t_ 48 (by decide))) rfl)) (a_cons (e_new (pmk_own PySem.F.excBase_ValueError (T.x_ 49 (by decide) (by decide)) (show mg "BadTable" = _ from T.g_cls 49 (by decide)) (T.k_ 49 (by decide)) (raises_own (T.e_ 49 (by decide)) (T.t_ 49 (by decide))) rfl)) (a_cons (e_new (pmk_own PySem.F.excBase_ValueError (T.x_ 51 (by decide) (by decide)) (show mg "BadTree" = _ from T.g_cls 51 (by decide)) (T.k_ 51 (by decide)) (raises_own (T.e_ 51 (by decide)) (T.t_ 51 (by decide))) rfl)) (a_cons (e_new (pmk_own PySem.F.excBase_ValueError (T.x_ 52 (by decide) (by decide)) (show mg "BadWeights" = _ from T.g_cls 52 (by decide)) (T.k_ 52 (by decide)) (raises_own (T.e_ 52 (by decide)) (T.t_ 52 (by decide))) rfl)) (a_cons (e_new (pmk_own PySem.F.excBase_ValueError (T.x_ 53 (by decide) (by decide)) (show mg "BadWish" = _ from T.g_cls 53 (by decide)) (T.k_ 53 (by decide)) (raises_own (T.e_ 53 (by decide)) (T.t_ 53 (by decide))) rfl)) (a_cons (e_new (pmk_own PySem.F.excBase_ValueError (T.x_ 55 (by decide) (by decide)) (show mg "BadWord" = _ from T.g_cls 55 (by decide)) (T.k_ 55 (by decide)) (raises_own (T.e_ 55 (by decide)) (T.t_ 55 (by decide))) rfl)) (a_cons (e_new (pmk_own PySem.F.excBase_ValueError (T.x_ 56 (by decide) (by decide)) (show mg "BadWorth" = _ from T.g_cls 56 (by decide)) (T.k_ 56 (by decide)) (raises_own (T.e_ 56 (by decide)) (T.t_ 56 (by decide))) rfl)) a_nil)))))))))))))
    (ss_cons (s_set (i := 0) sc_law_plain_errors.nd rfl (Or.inl rfl) (e_op op_addT (d_addT (mkF_ok _)) (e_var (pv 0)) (e_lst (mkF_ok _) (a_cons (e_new (pmk_own PySem.F.excBase_ValueError (T.x_ 57 (by decide) (by decide)) (show mg "BadWorths" = _ from T.g_cls 57 (by decide)) (T.k_ 57 (by decide)) (raises_own (T.e_ 57 (by decide)) (T.t_ 57 (by decide))) rfl)) (a_cons (e_new (pmk_own PySem.F.excBase_ValueError (T.x_ 60 (by decide) (by decide)) (show mg "Ended" = _ from T.g_cls 60 (by decide)) (T.k_ 60 (by decide)) (raises_own (T.e_ 60 (by decide)) (T.t_ 60 (by decide))) rfl)) (a_cons (e_new (pmk_own PySem.F.excBase_ValueError (T.x_ 63 (by decide) (by decide)) (show mg "MatchOver" = _ from T.g_cls 63 (by decide)) (T.k_ 63 (by decide)) (raises_own (T.e_ 63 (by decide)) (T.t_ 63 (by decide))) rfl)) (a_cons (e_new (pmk_own PySem.F.excBase_ValueError (T.x_ 64 (by decide) (by decide)) (show mg "NoDifference" = _ from T.g_cls 64 (by decide)) (T.k_ 64 (by decide)) (raises_own (T.e_ 64 (by decide)) (T.t_ 64 (by decide))) rfl)) (a_cons (e_new (pmk_own PySem.F.excBase_ValueError (T.x_ 67 (by decide) (by decide)) (show mg "NoPlan" = _ from T.g_cls 67 (by decide)) (T.k_ 67 (by decide)) (raises_own (T.e_ 67 (by decide)) (T.t_ 67 (by decide))) rfl)) (a_cons (e_new (pmk_own PySem.F.excBase_ValueError (T.x_ 69 (by decide) (by decide)) (show mg "NoTurn" = _ from T.g_cls 69 (by decide)) (T.k_ 69 (by decide)) (raises_own (T.e_ 69 (by decide)) (T.t_ 69 (by decide))) rfl)) (a_cons (e_new (pmk_own PySem.F.excBase_ValueError (T.x_ 70 (by decide) (by decide)) (show mg "NoWall" = _ from T.g_cls 70 (by decide)) (T.k_ 70 (by decide)) (raises_own (T.e_ 70 (by decide)) (T.t_ 70 (by decide))) rfl)) (a_cons (e_new (pmk_own PySem.F.excBase_ValueError (T.x_ 71 (by decide) (by decide)) (show mg "NotAsked" = _ from T.g_cls 71 (by decide)) (T.k_ 71 (by decide)) (raises_own (T.e_ 71 (by decide)) (T.t_ 71 (by decide))) rfl)) (a_cons (e_new (pmk_own PySem.F.excBase_ValueError (T.x_ 73 (by decide) (by decide)) (show mg "NotGuessed" = _ from T.g_cls 73 (by decide)) (T.k_ 73 (by decide)) (raises_own (T.e_ 73 (by decide)) (T.t_ 73 (by decide))) rfl)) (a_cons (e_new (pmk_own PySem.F.excBase_ValueError (T.x_ 74 (by decide) (by decide)) (show mg "NotKnown" = _ from T.g_cls 74 (by decide)) (T.k_ 74 (by decide)) (raises_own (T.e_ 74 (by decide)) (T.t_ 74 (by decide))) rfl)) a_nil)))))))))))))
    (ss_cons (s_set (i := 0) sc_law_plain_errors.nd rfl (Or.inl rfl) (e_op op_addT (d_addT (mkF_ok _)) (e_var (pv 0)) (e_lst (mkF_ok _) (a_cons (e_new (pmk_own PySem.F.excBase_ValueError (T.x_ 75 (by decide) (by decide)) (show mg "NotLeast" = _ from T.g_cls 75 (by decide)) (T.k_ 75 (by decide)) (raises_own (T.e_ 75 (by decide)) (T.t_ 75 (by decide))) rfl)) (a_cons (e_new (pmk_own PySem.F.excBase_ValueError (T.x_ 76 (by decide) (by decide)) (show mg "NotMine" = _ from T.g_cls 76 (by decide)) (T.k_ 76 (by decide)) (raises_own (T.e_ 76 (by decide)) (T.t_ 76 (by decide))) rfl)) (a_cons (e_new (pmk_own PySem.F.excBase_ValueError (T.x_ 77 (by decide) (by decide)) (show mg "NotOpen" = _ from T.g_cls 77 (by decide)) (T.k_ 77 (by decide)) (raises_own (T.e_ 77 (by decide)) (T.t_ 77 (by decide))) rfl)) (a_cons (e_new (pmk_own PySem.F.excBase_ValueError (T.x_ 79 (by decide) (by decide)) (show mg "NothingAsked" = _ from T.g_cls 79 (by decide)) (T.k_ 79 (by decide)) (raises_own (T.e_ 79 (by decide)) (T.t_ 79 (by decide))) rfl)) (a_cons (e_new (pmk_own PySem.F.excBase_ValueError (T.x_ 80 (by decide) (by decide)) (show mg "NothingDone" = _ from T.g_cls 80 (by decide)) (T.k_ 80 (by decide)) (raises_own (T.e_ 80 (by decide)) (T.t_ 80 (by decide))) rfl)) (a_cons (e_new (pmk_own PySem.F.excBase_ValueError (T.x_ 81 (by decide) (by decide)) (show mg "NothingSet" = _ from T.g_cls 81 (by decide)) (T.k_ 81 (by decide)) (raises_own (T.e_ 81 (by decide)) (T.t_ 81 (by decide))) rfl)) (a_cons (e_new (pmk_own PySem.F.excBase_ValueError (T.x_ 82 (by decide) (by decide)) (show mg "NothingUndone" = _ from T.g_cls 82 (by decide)) (T.k_ 82 (by decide)) (raises_own (T.e_ 82 (by decide)) (T.t_ 82 (by decide))) rfl)) (a_cons (e_new (pmk_own PySem.F.excBase_ValueError (T.x_ 83 (by decide) (by decide)) (show mg "NowSo" = _ from T.g_cls 83 (by decide)) (T.k_ 83 (by decide)) (raises_own (T.e_ 83 (by decide)) (T.t_ 83 (by decide))) rfl)) (a_cons (e_new (pmk_own PySem.F.excBase_ValueError (T.x_ 85 (by decide) (by decide)) (show mg "OtherInputs" = _ from T.g_cls 85 (by decide)) (T.k_ 85 (by decide)) (raises_own (T.e_ 85 (by decide)) (T.t_ 85 (by decide))) rfl)) a_nil))))))))))))
    (ss_cons (s_set (i := 0) sc_law_plain_errors.nd rfl (Or.inl rfl) (e_op op_addT (d_addT (mkF_ok _)) (e_var (pv 0)) (e_lst (mkF_ok _) (a_cons (e_new (pmk_own PySem.F.excBase_ValueError (T.x_ 86 (by decide) (by decide)) (show mg "OtherOrder" = _ from T.g_cls 86 (by decide)) (T.k_ 86 (by decide)) (raises_own (T.e_ 86 (by decide)) (T.t_ 86 (by decide))) rfl)) (a_cons (e_new (pmk_own PySem.F.excBase_ValueError (T.x_ 88 (by decide) (by decide)) (show mg "Unfit" = _ from T.g_cls 88 (by decide)) (T.k_ 88 (by decide)) (raises_own (T.e_ 88 (by decide)) (T.t_ 88 (by decide))) rfl)) a_nil)))))
    (ss_one (s_ret (e_var (pv 0))))))))))))
theorem ok_law_told_errors (T : Txt P K base mg A) : FnOk P w K mg base (L2.CX P w) 3 A.f_law_told_errors A.d_law_told_errors ["one", "other"] (spM K 2 (r_law_told_errors A)) := by
  refine fn_ok (k := 2) T.F_law_told_errors sc_law_told_errors fun cdv A' outer s H E hr => ?_
  have tk0 : Takes (cxOf (L2.CX P w) P w K mg base ["one", "other", "found", "error"] "_law_told_errors" (defScope s_law_told_errors) A.f_law_told_errors cdv A' outer s H E) (Wd E) := takes_of rfl rfl rfl rfl
  have po0 : PassesOwn (model P w) (cxOf (L2.CX P w) P w K mg base ["one", "other", "found", "error"] "_law_told_errors" (defScope s_law_told_errors) A.f_law_told_errors cdv A' outer s H E).A (cxOf (L2.CX P w) P w K mg base ["one", "other", "found", "error"] "_law_told_errors" (defScope s_law_told_errors) A.f_law_told_errors cdv A' outer s H E).env (cxOf (L2.CX P w) P w K mg base ["one", "other", "found", "error"] "_law_told_errors" (defScope s_law_told_errors) A.f_law_told_errors cdv A' outer s H E).xe := passes_of rfl
  exact (ss_cons (s_set (i := 2) sc_law_told_errors.nd rfl (Or.inl rfl) (e_lst (mkM_ok _) a_nil))
    (ss_cons (s_set (i := 3) sc_law_told_errors.nd rfl (Or.inl rfl) (e_newI tk0 T.O_BadBits T.iC_BadBits T.tI_BadBits (ok_init_BadBits T) (hr.mono (by decide)) T.bI_BadBits rfl (show mg "BadBits" = _ from T.g_cls 6 (by decide)) (a_cons (e_var (pv 0)) a_nil) rfl (by decide) (by decide)))
    (ss_cons (s_expr (e_bm PySem.F.plainAttrs_list PySem.F.slot_list_append PySem.F.type_list_append mt_append m_append (e_var (pv 2)) (a_cons (e_tup (a_cons (e_var (pv 3)) (a_cons (e_lst (mkF_ok _) (a_cons (e_xf (fun C => T.fx_ok C _) (e_var (pv 3))) a_nil)) (a_cons (e_lst (mkF_ok _) (a_cons (e_var (pv 0)) a_nil)) a_nil)))) a_nil)))
    (ss_cons (s_set (i := 3) sc_law_told_errors.nd rfl (Or.inl rfl) (e_newI tk0 T.O_BadEdits T.iC_BadEdits T.tI_BadEdits (ok_init_BadEdits T) (hr.mono (by decide)) T.bI_BadEdits rfl (show mg "BadEdits" = _ from T.g_cls 12 (by decide)) (a_cons (e_var (pv 0)) a_nil) rfl (by decide) (by decide)))
    (ss_cons (s_expr (e_bm PySem.F.plainAttrs_list PySem.F.slot_list_append PySem.F.type_list_append mt_append m_append (e_var (pv 2)) (a_cons (e_tup (a_cons (e_var (pv 3)) (a_cons (e_lst (mkF_ok _) (a_cons (e_xf (fun C => T.fx_ok C _) (e_var (pv 3))) a_nil)) (a_cons (e_lst (mkF_ok _) (a_cons (e_var (pv 0)) a_nil)) a_nil)))) a_nil)))
    (ss_cons (s_set (i := 3) sc_law_told_errors.nd rfl (Or.inl rfl) (e_newI tk0 T.O_BadForks T.iC_BadForks T.tI_BadForks (ok_init_BadForks T) (hr.mono (by decide)) T.bI_BadForks rfl (show mg "BadForks" = _ from T.g_cls 15 (by decide)) (a_cons (e_var (pv 0)) a_nil) rfl (by decide) (by decide)))
    (ss_cons (s_expr (e_bm PySem.F.plainAttrs_list PySem.F.slot_list_append PySem.F.type_list_append mt_append m_append (e_var (pv 2)) (a_cons (e_tup (a_cons (e_var (pv 3)) (a_cons (e_lst (mkF_ok _) (a_cons (e_xf (fun C => T.fx_ok C _) (e_var (pv 3))) a_nil)) (a_cons (e_lst (mkF_ok _) (a_cons (e_var (pv 0)) a_nil)) a_nil)))) a_nil)))
    (ss_cons (s_set (i := 3) sc_law_told_errors.nd rfl (Or.inl rfl) (e_newI tk0 T.O_BadLots T.iC_BadLots T.tI_BadLots (ok_init_BadLots T) (hr.mono (by decide)) T.bI_BadLots rfl (show mg "BadLots" = _ from T.g_cls 23 (by decide)) (a_cons (e_var (pv 0)) a_nil) rfl (by decide) (by decide)))
    (ss_cons (s_expr (e_bm PySem.F.plainAttrs_list PySem.F.slot_list_append PySem.F.type_list_append mt_append m_append (e_var (pv 2)) (a_cons (e_tup (a_cons (e_var (pv 3)) (a_cons (e_lst (mkF_ok _) (a_cons (e_xf (fun C => T.fx_ok C _) (e_var (pv 3))) a_nil)) (a_cons (e_lst (mkF_ok _) (a_cons (e_var (pv 0)) a_nil)) a_nil)))) a_nil)))
    (ss_cons (s_set (i := 3) sc_law_told_errors.nd rfl (Or.inl rfl) (e_newI tk0 T.O_BadSplit T.iC_BadSplit T.tI_BadSplit (ok_init_BadSplit T) (hr.mono (by decide)) T.bI_BadSplit rfl (show mg "BadSplit" = _ from T.g_cls 44 (by decide)) (a_cons (e_var (pv 0)) a_nil) rfl (by decide) (by decide)))
    (ss_cons (s_expr (e_bm PySem.F.plainAttrs_list PySem.F.slot_list_append PySem.F.type_list_append mt_append m_append (e_var (pv 2)) (a_cons (e_tup (a_cons (e_var (pv 3)) (a_cons (e_lst (mkF_ok _) (a_cons (e_xf (fun C => T.fx_ok C _) (e_var (pv 3))) a_nil)) (a_cons (e_lst (mkF_ok _) (a_cons (e_var (pv 0)) a_nil)) a_nil)))) a_nil)))
    (ss_cons (s_set (i := 3) sc_law_told_errors.nd rfl (Or.inl rfl) (e_newI tk0 T.O_BadText T.iC_BadText T.tI_BadText (ok_init_BadText T) (hr.mono (by decide)) T.bI_BadText rfl (show mg "BadText" = _ from T.g_cls 50 (by decide)) (a_cons (e_var (pv 0)) (a_cons (e_var (pv 1)) (a_cons (e_tup (a_cons (e_var (pv 0)) (a_cons (e_var (pv 1)) a_nil))) a_nil))) rfl (by decide) (by decide)))
    (ss_cons (s_expr (e_bm PySem.F.plainAttrs_list PySem.F.slot_list_append PySem.F.type_list_append mt_append m_append (e_var (pv 2)) (a_cons (e_tup (a_cons (e_var (pv 3)) (a_cons (e_lst (mkF_ok _) (a_cons (e_xf (fun C => T.fx_ok C _) (e_var (pv 3))) (a_cons (e_xf (fun C => T.fx_ok C _) (e_var (pv 3))) (a_cons (e_xf (fun C => T.fx_ok C _) (e_var (pv 3))) a_nil)))) (a_cons (e_lst (mkF_ok _) (a_cons (e_var (pv 0)) (a_cons (e_var (pv 1)) (a_cons (e_tup (a_cons (e_var (pv 0)) (a_cons (e_var (pv 1)) a_nil))) a_nil)))) a_nil)))) a_nil)))
    (ss_cons (s_set (i := 3) sc_law_told_errors.nd rfl (Or.inl rfl) (e_newI tk0 T.O_BadWishes T.iC_BadWishes T.tI_BadWishes (ok_init_BadWishes T) (hr.mono (by decide)) T.bI_BadWishes rfl (show mg "BadWishes" = _ from T.g_cls 54 (by decide)) (a_cons (e_var (pv 0)) a_nil) rfl (by decide) (by decide)))
    (ss_cons (s_expr (e_bm PySem.F.plainAttrs_list PySem.F.slot_list_append PySem.F.type_list_append mt_append m_append (e_var (pv 2)) (a_cons (e_tup (a_cons (e_var (pv 3)) (a_cons (e_lst (mkF_ok _) (a_cons (e_xf (fun C => T.fx_ok C _) (e_var (pv 3))) a_nil)) (a_cons (e_lst (mkF_ok _) (a_cons (e_var (pv 0)) a_nil)) a_nil)))) a_nil)))
    (ss_cons (s_set (i := 3) sc_law_told_errors.nd rfl (Or.inl rfl) (e_newI tk0 T.O_Broken T.iC_Broken T.tI_Broken (ok_init_Broken T) (hr.mono (by decide)) T.bI_Broken rfl (show mg "Broken" = _ from T.g_cls 58 (by decide)) (a_cons (e_var (pv 0)) a_nil) rfl (by decide) (by decide)))
    (ss_cons (s_expr (e_bm PySem.F.plainAttrs_list PySem.F.slot_list_append PySem.F.type_list_append mt_append m_append (e_var (pv 2)) (a_cons (e_tup (a_cons (e_var (pv 3)) (a_cons (e_lst (mkF_ok _) (a_cons (e_xf (fun C => T.fx_ok C _) (e_var (pv 3))) a_nil)) (a_cons (e_lst (mkF_ok _) (a_cons (e_var (pv 0)) a_nil)) a_nil)))) a_nil)))
    (ss_cons (s_set (i := 3) sc_law_told_errors.nd rfl (Or.inl rfl) (e_newI tk0 T.O_Collides T.iC_Collides T.tI_Collides (ok_init_Collides T) (hr.mono (by decide)) T.bI_Collides rfl (show mg "Collides" = _ from T.g_cls 59 (by decide)) (a_cons (e_var (pv 0)) (a_cons (e_var (pv 1)) a_nil)) rfl (by decide) (by decide)))
    (ss_cons (s_expr (e_bm PySem.F.plainAttrs_list PySem.F.slot_list_append PySem.F.type_list_append mt_append m_append (e_var (pv 2)) (a_cons (e_tup (a_cons (e_var (pv 3)) (a_cons (e_lst (mkF_ok _) (a_cons (e_xf (fun C => T.fx_ok C _) (e_var (pv 3))) (a_cons (e_xf (fun C => T.fx_ok C _) (e_var (pv 3))) a_nil))) (a_cons (e_lst (mkF_ok _) (a_cons (e_var (pv 0)) (a_cons (e_var (pv 1)) a_nil))) a_nil)))) a_nil)))
    (ss_cons (s_set (i := 3) sc_law_told_errors.nd rfl (Or.inl rfl) (e_newI tk0 T.O_Faulty T.iC_Faulty T.tI_Faulty (ok_init_Faulty T) (hr.mono (by decide)) T.bI_Faulty rfl (show mg "Faulty" = _ from T.g_cls 61 (by decide)) (a_cons (e_var (pv 0)) a_nil) rfl (by decide) (by decide)))
    (ss_cons (s_expr (e_bm PySem.F.plainAttrs_list PySem.F.slot_list_append PySem.F.type_list_append mt_append m_append (e_var (pv 2)) (a_cons (e_tup (a_cons (e_var (pv 3)) (a_cons (e_lst (mkF_ok _) (a_cons (e_xf (fun C => T.fx_ok C _) (e_var (pv 3))) a_nil)) (a_cons (e_lst (mkF_ok _) (a_cons (e_var (pv 0)) a_nil)) a_nil)))) a_nil)))
    (ss_cons (s_set (i := 3) sc_law_told_errors.nd rfl (Or.inl rfl) (e_newI tk0 T.O_IsSure T.iC_IsSure T.tI_IsSure (ok_init_IsSure T) (hr.mono (by decide)) T.bI_IsSure rfl (show mg "IsSure" = _ from T.g_cls 62 (by decide)) (a_cons (e_var (pv 0)) a_nil) rfl (by decide) (by decide)))
    (ss_cons (s_expr (e_bm PySem.F.plainAttrs_list PySem.F.slot_list_append PySem.F.type_list_append mt_append m_append (e_var (pv 2)) (a_cons (e_tup (a_cons (e_var (pv 3)) (a_cons (e_lst (mkF_ok _) (a_cons (e_xf (fun C => T.fx_ok C _) (e_var (pv 3))) a_nil)) (a_cons (e_lst (mkF_ok _) (a_cons (e_var (pv 0)) a_nil)) a_nil)))) a_nil)))
    (ss_cons (s_set (i := 3) sc_law_told_errors.nd rfl (Or.inl rfl) (e_newI tk0 T.O_NoFit T.iC_NoFit T.tI_NoFit (ok_init_NoFit T) (hr.mono (by decide)) T.bI_NoFit rfl (show mg "NoFit" = _ from T.g_cls 65 (by decide)) (a_cons (e_var (pv 0)) (a_cons (e_var (pv 1)) (a_cons (e_tup (a_cons (e_var (pv 0)) (a_cons (e_var (pv 1)) a_nil))) (a_cons (e_lst (mkF_ok _) (a_cons (e_var (pv 0)) a_nil)) a_nil)))) rfl (by decide) (by decide)))
    (ss_cons (s_expr (e_bm PySem.F.plainAttrs_list PySem.F.slot_list_append PySem.F.type_list_append mt_append m_append (e_var (pv 2)) (a_cons (e_tup (a_cons (e_var (pv 3)) (a_cons (e_lst (mkF_ok _) (a_cons (e_xf (fun C => T.fx_ok C _) (e_var (pv 3))) (a_cons (e_xf (fun C => T.fx_ok C _) (e_var (pv 3))) (a_cons (e_xf (fun C => T.fx_ok C _) (e_var (pv 3))) (a_cons (e_xf (fun C => T.fx_ok C _) (e_var (pv 3))) a_nil))))) (a_cons (e_lst (mkF_ok _) (a_cons (e_var (pv 0)) (a_cons (e_var (pv 1)) (a_cons (e_tup (a_cons (e_var (pv 0)) (a_cons (e_var (pv 1)) a_nil))) (a_cons (e_lst (mkF_ok _) (a_cons (e_var (pv 0)) a_nil)) a_nil))))) a_nil)))) a_nil)))
    (ss_cons (s_set (i := 3) sc_law_told_errors.nd rfl (Or.inl rfl) (e_newI tk0 T.O_NoPlace T.iC_NoPlace T.tI_NoPlace (ok_init_NoPlace T) (hr.mono (by decide)) T.bI_NoPlace rfl (show mg "NoPlace" = _ from T.g_cls 66 (by decide)) (a_cons (e_var (pv 0)) a_nil) rfl (by decide) (by decide)))
    (ss_cons (s_expr (e_bm PySem.F.plainAttrs_list PySem.F.slot_list_append PySem.F.type_list_append mt_append m_append (e_var (pv 2)) (a_cons (e_tup (a_cons (e_var (pv 3)) (a_cons (e_lst (mkF_ok _) (a_cons (e_xf (fun C => T.fx_ok C _) (e_var (pv 3))) a_nil)) (a_cons (e_lst (mkF_ok _) (a_cons (e_var (pv 0)) a_nil)) a_nil)))) a_nil)))
    (ss_cons (s_set (i := 3) sc_law_told_errors.nd rfl (Or.inl rfl) (e_newI tk0 T.O_NoRing T.iC_NoRing T.tI_NoRing (ok_init_NoRing T) (hr.mono (by decide)) T.bI_NoRing rfl (show mg "NoRing" = _ from T.g_cls 68 (by decide)) (a_cons (e_var (pv 0)) a_nil) rfl (by decide) (by decide)))
    (ss_cons (s_expr (e_bm PySem.F.plainAttrs_list PySem.F.slot_list_append PySem.F.type_list_append mt_append m_append (e_var (pv 2)) (a_cons (e_tup (a_cons (e_var (pv 3)) (a_cons (e_lst (mkF_ok _) (a_cons (e_xf (fun C => T.fx_ok C _) (e_var (pv 3))) a_nil)) (a_cons (e_lst (mkF_ok _) (a_cons (e_var (pv 0)) a_nil)) a_nil)))) a_nil)))
    (ss_cons (s_set (i := 3) sc_law_told_errors.nd rfl (Or.inl rfl) (e_newI tk0 T.O_NotGood T.iC_NotGood T.tI_NotGood (ok_init_NotGood T) (hr.mono (by decide)) T.bI_NotGood rfl (show mg "NotGood" = _ from T.g_cls 72 (by decide)) (a_cons (e_var (pv 0)) a_nil) rfl (by decide) (by decide)))
    (ss_cons (s_expr (e_bm PySem.F.plainAttrs_list PySem.F.slot_list_append PySem.F.type_list_append mt_append m_append (e_var (pv 2)) (a_cons (e_tup (a_cons (e_var (pv 3)) (a_cons (e_lst (mkF_ok _) (a_cons (e_xf (fun C => T.fx_ok C _) (e_var (pv 3))) a_nil)) (a_cons (e_lst (mkF_ok _) (a_cons (e_var (pv 0)) a_nil)) a_nil)))) a_nil)))
    (ss_cons (s_set (i := 3) sc_law_told_errors.nd rfl (Or.inl rfl) (e_newI tk0 T.O_NotWritten T.iC_NotWritten T.tI_NotWritten (ok_init_NotWritten T) (hr.mono (by decide)) T.bI_NotWritten rfl (show mg "NotWritten" = _ from T.g_cls 78 (by decide)) (a_cons (e_var (pv 0)) a_nil) rfl (by decide) (by decide)))
    (ss_cons (s_expr (e_bm PySem.F.plainAttrs_list PySem.F.slot_list_append PySem.F.type_list_append mt_append m_append (e_var (pv 2)) (a_cons (e_tup (a_cons (e_var (pv 3)) (a_cons (e_lst (mkF_ok _) (a_cons (e_xf (fun C => T.fx_ok C _) (e_var (pv 3))) a_nil)) (a_cons (e_lst (mkF_ok _) (a_cons (e_var (pv 0)) a_nil)) a_nil)))) a_nil)))
    (ss_cons (s_set (i := 3) sc_law_told_errors.nd rfl (Or.inl rfl) (e_newI tk0 T.O_OpenWorth T.iC_OpenWorth T.tI_OpenWorth (ok_init_OpenWorth T) (hr.mono (by decide)) T.bI_OpenWorth rfl (show mg "OpenWorth" = _ from T.g_cls 84 (by decide)) (a_cons (e_var (pv 0)) a_nil) rfl (by decide) (by decide)))
    (ss_cons (s_expr (e_bm PySem.F.plainAttrs_list PySem.F.slot_list_append PySem.F.type_list_append mt_append m_append (e_var (pv 2)) (a_cons (e_tup (a_cons (e_var (pv 3)) (a_cons (e_lst (mkF_ok _) (a_cons (e_xf (fun C => T.fx_ok C _) (e_var (pv 3))) a_nil)) (a_cons (e_lst (mkF_ok _) (a_cons (e_var (pv 0)) a_nil)) a_nil)))) a_nil)))
    (ss_cons (s_set (i := 3) sc_law_told_errors.nd rfl (Or.inl rfl) (e_newI tk0 T.O_TooMany T.iC_TooMany T.tI_TooMany (ok_init_TooMany T) (hr.mono (by decide)) T.bI_TooMany rfl (show mg "TooMany" = _ from T.g_cls 87 (by decide)) (a_cons (e_var (pv 0)) a_nil) rfl (by decide) (by decide)))
    (ss_cons (s_expr (e_bm PySem.F.plainAttrs_list PySem.F.slot_list_append PySem.F.type_list_append mt_append m_append (e_var (pv 2)) (a_cons (e_tup (a_cons (e_var (pv 3)) (a_cons (e_lst (mkF_ok _) (a_cons (e_xf (fun C => T.fx_ok C _) (e_var (pv 3))) a_nil)) (a_cons (e_lst (mkF_ok _) (a_cons (e_var (pv 0)) a_nil)) a_nil)))) a_nil)))
    (ss_cons (s_set (i := 3) sc_law_told_errors.nd rfl (Or.inl rfl) (e_newI tk0 T.O_Wrong T.iC_Wrong T.tI_Wrong (ok_init_Wrong T) (hr.mono (by decide)) T.bI_Wrong rfl (show mg "Wrong" = _ from T.g_cls 89 (by decide)) (a_cons (e_var (pv 0)) (a_cons (e_var (pv 1)) a_nil)) rfl (by decide) (by decide)))
    (ss_cons (s_expr (e_bm PySem.F.plainAttrs_list PySem.F.slot_list_append PySem.F.type_list_append mt_append m_append (e_var (pv 2)) (a_cons (e_tup (a_cons (e_var (pv 3)) (a_cons (e_lst (mkF_ok _) (a_cons (e_xf (fun C => T.fx_ok C _) (e_var (pv 3))) (a_cons (e_xf (fun C => T.fx_ok C _) (e_var (pv 3))) a_nil))) (a_cons (e_lst (mkF_ok _) (a_cons (e_var (pv 0)) (a_cons (e_var (pv 1)) a_nil))) a_nil)))) a_nil)))
    (ss_one (s_ret (e_var (pv 2)))))))))))))))))))))))))))))))))))))))))))
theorem ok_law_classes (T : Txt P K base mg A) : FnOk P w K mg base (L2.CX P w) 1 A.f_law_classes A.d_law_classes ["error"] (spM K 1 (r_law_classes A)) := by
  refine fn_ok (k := 0) T.F_law_classes sc_law_classes fun cdv A' outer s H E hr => ?_
  have tk0 : Takes (cxOf (L2.CX P w) P w K mg base ["error", "found", "k", "is_one"] "_law_classes" (defScope s_law_classes) A.f_law_classes cdv A' outer s H E) (Wd E) := takes_of rfl rfl rfl rfl
  have po0 : PassesOwn (model P w) (cxOf (L2.CX P w) P w K mg base ["error", "found", "k", "is_one"] "_law_classes" (defScope s_law_classes) A.f_law_classes cdv A' outer s H E).A (cxOf (L2.CX P w) P w K mg base ["error", "found", "k", "is_one"] "_law_classes" (defScope s_law_classes) A.f_law_classes cdv A' outer s H E).env (cxOf (L2.CX P w) P w K mg base ["error", "found", "k", "is_one"] "_law_classes" (defScope s_law_classes) A.f_law_classes cdv A' outer s H E).xe := passes_of rfl
  exact (ss_cons (s_set (i := 1) sc_law_classes.nd rfl (Or.inl rfl) (e_lst (mkF_ok _) (a_cons (e_callB call_isiA (d_isi T.sub_ok T.ex_ok) rfl T.m_isinstance bt_isinstance (a_cons (e_var (pv 0)) (a_cons (e_const (pe_glob (v := .ref (A.cls 1)) rfl ((show mg "AlreadyTold" = _ from T.g_cls 1 (by decide))) rfl) fun _ => rfl) a_nil))) (a_cons (e_callB call_isiA (d_isi T.sub_ok T.ex_ok) rfl T.m_isinstance bt_isinstance (a_cons (e_var (pv 0)) (a_cons (e_const (pe_glob (v := .ref (A.cls 2)) rfl ((show mg "BadAnswer" = _ from T.g_cls 2 (by decide))) rfl) fun _ => rfl) a_nil))) (a_cons (e_callB call_isiA (d_isi T.sub_ok T.ex_ok) rfl T.m_isinstance bt_isinstance (a_cons (e_var (pv 0)) (a_cons (e_const (pe_glob (v := .ref (A.cls 3)) rfl ((show mg "BadAt" = _ from T.g_cls 3 (by decide))) rfl) fun _ => rfl) a_nil))) (a_cons (e_callB call_isiA (d_isi T.sub_ok T.ex_ok) rfl T.m_isinstance bt_isinstance (a_cons (e_var (pv 0)) (a_cons (e_const (pe_glob (v := .ref (A.cls 4)) rfl ((show mg "BadBargains" = _ from T.g_cls 4 (by decide))) rfl) fun _ => rfl) a_nil))) (a_cons (e_callB call_isiA (d_isi T.sub_ok T.ex_ok) rfl T.m_isinstance bt_isinstance (a_cons (e_var (pv 0)) (a_cons (e_const (pe_glob (v := .ref (A.cls 5)) rfl ((show mg "BadBit" = _ from T.g_cls 5 (by decide))) rfl) fun _ => rfl) a_nil))) a_nil)))))))
    (ss_cons (s_set (i := 1) sc_law_classes.nd rfl (Or.inl rfl) (e_op op_addT (d_addT (mkF_ok _)) (e_var (pv 1)) (e_lst (mkF_ok _) (a_cons (e_callB call_isiA (d_isi T.sub_ok T.ex_ok) rfl T.m_isinstance bt_isinstance (a_cons (e_var (pv 0)) (a_cons (e_const (pe_glob (v := .ref (A.cls 6)) rfl ((show mg "BadBits" = _ from T.g_cls 6 (by decide))) rfl) fun _ => rfl) a_nil))) (a_cons (e_callB call_isiA (d_isi T.sub_ok T.ex_ok) rfl T.m_isinstance bt_isinstance (a_cons (e_var (pv 0)) (a_cons (e_const (pe_glob (v := .ref (A.cls 7)) rfl ((show mg "BadBook" = _ from T.g_cls 7 (by decide))) rfl) fun _ => rfl) a_nil))) (a_cons (e_callB call_isiA (d_isi T.sub_ok T.ex_ok) rfl T.m_isinstance bt_isinstance (a_cons (e_var (pv 0)) (a_cons (e_const (pe_glob (v := .ref (A.cls 8)) rfl ((show mg "BadBox" = _ from T.g_cls 8 (by decide))) rfl) fun _ => rfl) a_nil))) (a_cons (e_callB call_isiA (d_isi T.sub_ok T.ex_ok) rfl T.m_isinstance bt_isinstance (a_cons (e_var (pv 0)) (a_cons (e_const (pe_glob (v := .ref (A.cls 9)) rfl ((show mg "BadCell" = _ from T.g_cls 9 (by decide))) rfl) fun _ => rfl) a_nil))) (a_cons (e_callB call_isiA (d_isi T.sub_ok T.ex_ok) rfl T.m_isinstance bt_isinstance (a_cons (e_var (pv 0)) (a_cons (e_const (pe_glob (v := .ref (A.cls 10)) rfl ((show mg "BadClaim" = _ from T.g_cls 10 (by decide))) rfl) fun _ => rfl) a_nil))) a_nil))))))))
    (ss_cons (s_set (i := 1) sc_law_classes.nd rfl (Or.inl rfl) (e_op op_addT (d_addT (mkF_ok _)) (e_var (pv 1)) (e_lst (mkF_ok _) (a_cons (e_callB call_isiA (d_isi T.sub_ok T.ex_ok) rfl T.m_isinstance bt_isinstance (a_cons (e_var (pv 0)) (a_cons (e_const (pe_glob (v := .ref (A.cls 11)) rfl ((show mg "BadCourse" = _ from T.g_cls 11 (by decide))) rfl) fun _ => rfl) a_nil))) (a_cons (e_callB call_isiA (d_isi T.sub_ok T.ex_ok) rfl T.m_isinstance bt_isinstance (a_cons (e_var (pv 0)) (a_cons (e_const (pe_glob (v := .ref (A.cls 12)) rfl ((show mg "BadEdits" = _ from T.g_cls 12 (by decide))) rfl) fun _ => rfl) a_nil))) (a_cons (e_callB call_isiA (d_isi T.sub_ok T.ex_ok) rfl T.m_isinstance bt_isinstance (a_cons (e_var (pv 0)) (a_cons (e_const (pe_glob (v := .ref (A.cls 13)) rfl ((show mg "BadExpression" = _ from T.g_cls 13 (by decide))) rfl) fun _ => rfl) a_nil))) (a_cons (e_callB call_isiA (d_isi T.sub_ok T.ex_ok) rfl T.m_isinstance bt_isinstance (a_cons (e_var (pv 0)) (a_cons (e_const (pe_glob (v := .ref (A.cls 14)) rfl ((show mg "BadFork" = _ from T.g_cls 14 (by decide))) rfl) fun _ => rfl) a_nil))) (a_cons (e_callB call_isiA (d_isi T.sub_ok T.ex_ok) rfl T.m_isinstance bt_isinstance (a_cons (e_var (pv 0)) (a_cons (e_const (pe_glob (v := .ref (A.cls 15)) rfl ((show mg "BadForks" = _ from T.g_cls 15 (by decide))) rfl) fun _ => rfl) a_nil))) a_nil))))))))
    (ss_cons (s_set (i := 1) sc_law_classes.nd rfl (Or.inl rfl) (e_op op_addT (d_addT (mkF_ok _)) (e_var (pv 1)) (e_lst (mkF_ok _) (a_cons (e_callB call_isiA (d_isi T.sub_ok T.ex_ok) rfl T.m_isinstance bt_isinstance (a_cons (e_var (pv 0)) (a_cons (e_const (pe_glob (v := .ref (A.cls 16)) rfl ((show mg "BadGame" = _ from T.g_cls 16 (by decide))) rfl) fun _ => rfl) a_nil))) (a_cons (e_callB call_isiA (d_isi T.sub_ok T.ex_ok) rfl T.m_isinstance bt_isinstance (a_cons (e_var (pv 0)) (a_cons (e_const (pe_glob (v := .ref (A.cls 17)) rfl ((show mg "BadGroup" = _ from T.g_cls 17 (by decide))) rfl) fun _ => rfl) a_nil))) (a_cons (e_callB call_isiA (d_isi T.sub_ok T.ex_ok) rfl T.m_isinstance bt_isinstance (a_cons (e_var (pv 0)) (a_cons (e_const (pe_glob (v := .ref (A.cls 18)) rfl ((show mg "BadIndexes" = _ from T.g_cls 18 (by decide))) rfl) fun _ => rfl) a_nil))) (a_cons (e_callB call_isiA (d_isi T.sub_ok T.ex_ok) rfl T.m_isinstance bt_isinstance (a_cons (e_var (pv 0)) (a_cons (e_const (pe_glob (v := .ref (A.cls 19)) rfl ((show mg "BadInner" = _ from T.g_cls 19 (by decide))) rfl) fun _ => rfl) a_nil))) (a_cons (e_callB call_isiA (d_isi T.sub_ok T.ex_ok) rfl T.m_isinstance bt_isinstance (a_cons (e_var (pv 0)) (a_cons (e_const (pe_glob (v := .ref (A.cls 20)) rfl ((show mg "BadInputs" = _ from T.g_cls 20 (by decide))) rfl) fun _ => rfl) a_nil))) a_nil))))))))
    (ss_cons (s_set (i := 1) sc_law_classes.nd rfl (Or.inl rfl) (e_op op_addT (d_addT (mkF_ok _)) (e_var (pv 1)) (e_lst (mkF_ok _) (a_cons (e_callB call_isiA (d_isi T.sub_ok T.ex_ok) rfl T.m_isinstance bt_isinstance (a_cons (e_var (pv 0)) (a_cons (e_const (pe_glob (v := .ref (A.cls 21)) rfl ((show mg "BadLimit" = _ from T.g_cls 21 (by decide))) rfl) fun _ => rfl) a_nil))) (a_cons (e_callB call_isiA (d_isi T.sub_ok T.ex_ok) rfl T.m_isinstance bt_isinstance (a_cons (e_var (pv 0)) (a_cons (e_const (pe_glob (v := .ref (A.cls 22)) rfl ((show mg "BadLot" = _ from T.g_cls 22 (by decide))) rfl) fun _ => rfl) a_nil))) (a_cons (e_callB call_isiA (d_isi T.sub_ok T.ex_ok) rfl T.m_isinstance bt_isinstance (a_cons (e_var (pv 0)) (a_cons (e_const (pe_glob (v := .ref (A.cls 23)) rfl ((show mg "BadLots" = _ from T.g_cls 23 (by decide))) rfl) fun _ => rfl) a_nil))) (a_cons (e_callB call_isiA (d_isi T.sub_ok T.ex_ok) rfl T.m_isinstance bt_isinstance (a_cons (e_var (pv 0)) (a_cons (e_const (pe_glob (v := .ref (A.cls 24)) rfl ((show mg "BadMany" = _ from T.g_cls 24 (by decide))) rfl) fun _ => rfl) a_nil))) (a_cons (e_callB call_isiA (d_isi T.sub_ok T.ex_ok) rfl T.m_isinstance bt_isinstance (a_cons (e_var (pv 0)) (a_cons (e_const (pe_glob (v := .ref (A.cls 25)) rfl ((show mg "BadMost" = _ from T.g_cls 25 (by decide))) rfl) fun _ => rfl) a_nil))) a_nil))))))))
    (ss_cons (s_set (i := 1) sc_law_classes.nd rfl (Or.inl rfl) (e_op op_addT (d_addT (mkF_ok _)) (e_var (pv 1)) (e_lst (mkF_ok _) (a_cons (e_callB call_isiA (d_isi T.sub_ok T.ex_ok) rfl T.m_isinstance bt_isinstance (a_cons (e_var (pv 0)) (a_cons (e_const (pe_glob (v := .ref (A.cls 26)) rfl ((show mg "BadName" = _ from T.g_cls 26 (by decide))) rfl) fun _ => rfl) a_nil))) (a_cons (e_callB call_isiA (d_isi T.sub_ok T.ex_ok) rfl T.m_isinstance bt_isinstance (a_cons (e_var (pv 0)) (a_cons (e_const (pe_glob (v := .ref (A.cls 27)) rfl ((show mg "BadNames" = _ from T.g_cls 27 (by decide))) rfl) fun _ => rfl) a_nil))) (a_cons (e_callB call_isiA (d_isi T.sub_ok T.ex_ok) rfl T.m_isinstance bt_isinstance (a_cons (e_var (pv 0)) (a_cons (e_const (pe_glob (v := .ref (A.cls 28)) rfl ((show mg "BadNumber" = _ from T.g_cls 28 (by decide))) rfl) fun _ => rfl) a_nil))) (a_cons (e_callB call_isiA (d_isi T.sub_ok T.ex_ok) rfl T.m_isinstance bt_isinstance (a_cons (e_var (pv 0)) (a_cons (e_const (pe_glob (v := .ref (A.cls 29)) rfl ((show mg "BadNumbers" = _ from T.g_cls 29 (by decide))) rfl) fun _ => rfl) a_nil))) (a_cons (e_callB call_isiA (d_isi T.sub_ok T.ex_ok) rfl T.m_isinstance bt_isinstance (a_cons (e_var (pv 0)) (a_cons (e_const (pe_glob (v := .ref (A.cls 30)) rfl ((show mg "BadOrder" = _ from T.g_cls 30 (by decide))) rfl) fun _ => rfl) a_nil))) a_nil))))))))
    (ss_cons (s_set (i := 1) sc_law_classes.nd rfl (Or.inl rfl) (e_op op_addT (d_addT (mkF_ok _)) (e_var (pv 1)) (e_lst (mkF_ok _) (a_cons (e_callB call_isiA (d_isi T.sub_ok T.ex_ok) rfl T.m_isinstance bt_isinstance (a_cons (e_var (pv 0)) (a_cons (e_const (pe_glob (v := .ref (A.cls 31)) rfl ((show mg "BadPaper" = _ from T.g_cls 31 (by decide))) rfl) fun _ => rfl) a_nil))) (a_cons (e_callB call_isiA (d_isi T.sub_ok T.ex_ok) rfl T.m_isinstance bt_isinstance (a_cons (e_var (pv 0)) (a_cons (e_const (pe_glob (v := .ref (A.cls 32)) rfl ((show mg "BadPart" = _ from T.g_cls 32 (by decide))) rfl) fun _ => rfl) a_nil))) (a_cons (e_callB call_isiA (d_isi T.sub_ok T.ex_ok) rfl T.m_isinstance bt_isinstance (a_cons (e_var (pv 0)) (a_cons (e_const (pe_glob (v := .ref (A.cls 33)) rfl ((show mg "BadPath" = _ from T.g_cls 33 (by decide))) rfl) fun _ => rfl) a_nil))) (a_cons (e_callB call_isiA (d_isi T.sub_ok T.ex_ok) rfl T.m_isinstance bt_isinstance (a_cons (e_var (pv 0)) (a_cons (e_const (pe_glob (v := .ref (A.cls 34)) rfl ((show mg "BadPlace" = _ from T.g_cls 34 (by decide))) rfl) fun _ => rfl) a_nil))) (a_cons (e_callB call_isiA (d_isi T.sub_ok T.ex_ok) rfl T.m_isinstance bt_isinstance (a_cons (e_var (pv 0)) (a_cons (e_const (pe_glob (v := .ref (A.cls 35)) rfl ((show mg "BadPoint" = _ from T.g_cls 35 (by decide))) rfl) fun _ => rfl) a_nil))) a_nil))))))))
    (ss_cons (s_set (i := 1) sc_law_classes.nd rfl (Or.inl rfl) (e_op op_addT (d_addT (mkF_ok _)) (e_var (pv 1)) (e_lst (mkF_ok _) (a_cons (e_callB call_isiA (d_isi T.sub_ok T.ex_ok) rfl T.m_isinstance bt_isinstance (a_cons (e_var (pv 0)) (a_cons (e_const (pe_glob (v := .ref (A.cls 36)) rfl ((show mg "BadPrice" = _ from T.g_cls 36 (by decide))) rfl) fun _ => rfl) a_nil))) (a_cons (e_callB call_isiA (d_isi T.sub_ok T.ex_ok) rfl T.m_isinstance bt_isinstance (a_cons (e_var (pv 0)) (a_cons (e_const (pe_glob (v := .ref (A.cls 37)) rfl ((show mg "BadPrices" = _ from T.g_cls 37 (by decide))) rfl) fun _ => rfl) a_nil))) (a_cons (e_callB call_isiA (d_isi T.sub_ok T.ex_ok) rfl T.m_isinstance bt_isinstance (a_cons (e_var (pv 0)) (a_cons (e_const (pe_glob (v := .ref (A.cls 38)) rfl ((show mg "BadPromises" = _ from T.g_cls 38 (by decide))) rfl) fun _ => rfl) a_nil))) (a_cons (e_callB call_isiA (d_isi T.sub_ok T.ex_ok) rfl T.m_isinstance bt_isinstance (a_cons (e_var (pv 0)) (a_cons (e_const (pe_glob (v := .ref (A.cls 39)) rfl ((show mg "BadQuestion" = _ from T.g_cls 39 (by decide))) rfl) fun _ => rfl) a_nil))) (a_cons (e_callB call_isiA (d_isi T.sub_ok T.ex_ok) rfl T.m_isinstance bt_isinstance (a_cons (e_var (pv 0)) (a_cons (e_const (pe_glob (v := .ref (A.cls 40)) rfl ((show mg "BadScheme" = _ from T.g_cls 40 (by decide))) rfl) fun _ => rfl) a_nil))) a_nil))))))))
    (ss_cons (s_set (i := 1) sc_law_classes.nd rfl (Or.inl rfl) (e_op op_addT (d_addT (mkF_ok _)) (e_var (pv 1)) (e_lst (mkF_ok _) (a_cons (e_callB call_isiA (d_isi T.sub_ok T.ex_ok) rfl T.m_isinstance bt_isinstance (a_cons (e_var (pv 0)) (a_cons (e_const (pe_glob (v := .ref (A.cls 41)) rfl ((show mg "BadSheet" = _ from T.g_cls 41 (by decide))) rfl) fun _ => rfl) a_nil))) (a_cons (e_callB call_isiA (d_isi T.sub_ok T.ex_ok) rfl T.m_isinstance bt_isinstance (a_cons (e_var (pv 0)) (a_cons (e_const (pe_glob (v := .ref (A.cls 42)) rfl ((show mg "BadSide" = _ from T.g_cls 42 (by decide))) rfl) fun _ => rfl) a_nil))) (a_cons (e_callB call_isiA (d_isi T.sub_ok T.ex_ok) rfl T.m_isinstance bt_isinstance (a_cons (e_var (pv 0)) (a_cons (e_const (pe_glob (v := .ref (A.cls 43)) rfl ((show mg "BadSides" = _ from T.g_cls 43 (by decide))) rfl) fun _ => rfl) a_nil))) (a_cons (e_callB call_isiA (d_isi T.sub_ok T.ex_ok) rfl T.m_isinstance bt_isinstance (a_cons (e_var (pv 0)) (a_cons (e_const (pe_glob (v := .ref (A.cls 44)) rfl ((show mg "BadSplit" = _ from T.g_cls 44 (by decide))) rfl) fun _ => rfl) a_nil))) (a_cons (e_callB call_isiA (d_isi T.sub_ok T.ex_ok) rfl T.m_isinstance bt_isinstance (a_cons (e_var (pv 0)) (a_cons (e_const (pe_glob (v := .ref (A.cls 45)) rfl ((show mg "BadSpot" = _ from T.g_cls 45 (by decide))) rfl) fun _ => rfl) a_nil))) a_nil))))))))
    (ss_cons (s_set (i := 1) sc_law_classes.nd rfl (Or.inl rfl) (e_op op_addT (d_addT (mkF_ok _)) (e_var (pv 1)) (e_lst (mkF_ok _) (a_cons (e_callB call_isiA (d_isi T.sub_ok T.ex_ok) rfl T.m_isinstance bt_isinstance (a_cons (e_var (pv 0)) (a_cons (e_const (pe_glob (v := .ref (A.cls 46)) rfl ((show mg "BadSpots" = _ from T.g_cls 46 (by decide))) rfl) fun _ => rfl) a_nil))) (a_cons (e_callB call_isiA (d_isi T.sub_ok T.ex_ok) rfl T.m_isinstance bt_isinstance (a_cons (e_var (pv 0)) (a_cons (e_const (pe_glob (v := .ref (A.cls 47)) rfl ((show mg "BadStretch" = _ from T.g_cls 47 (by decide))) rfl) fun _ => rfl) a_nil))) (a_cons (e_callB call_isiA (d_isi T.sub_ok T.ex_ok) rfl T.m_isinstance bt_isinstance (a_cons (e_var (pv 0)) (a_cons (e_const (pe_glob (v := .ref (A.cls 48)) rfl ((show mg "BadStretches" = _ from T.g_cls 48 (by decide))) rfl) fun _ => rfl) a_nil))) (a_cons (e_callB call_isiA (d_isi T.sub_ok T.ex_ok) rfl T.m_isinstance bt_isinstance (a_cons (e_var (pv 0)) (a_cons (e_const (pe_glob (v := .ref (A.cls 49)) rfl ((show mg "BadTable" = _ from T.g_cls 49 (by decide))) rfl) fun _ => rfl) a_nil))) (a_cons (e_callB call_isiA (d_isi T.sub_ok T.ex_ok) rfl T.m_isinstance bt_isinstance (a_cons (e_var (pv 0)) (a_cons (e_const (pe_glob (v := .ref (A.cls 50)) rfl ((show mg "BadText" = _ from T.g_cls 50 (by decide))) rfl) fun _ => rfl) a_nil))) a_nil))))))))
    (ss_cons (s_set (i := 1) sc_law_classes.nd rfl (Or.inl rfl) (e_op op_addT (d_addT (mkF_ok _)) (e_var (pv 1)) (e_lst (mkF_ok _) (a_cons (e_callB call_isiA (d_isi T.sub_ok T.ex_ok) rfl T.m_isinstance bt_isinstance (a_cons (e_var (pv 0)) (a_cons (e_const (pe_glob (v := .ref (A.cls 51)) rfl ((show mg "BadTree" = _ from T.g_cls 51 (by decide))) rfl) fun _ => rfl) a_nil))) (a_cons (e_callB call_isiA (d_isi T.sub_ok T.ex_ok) rfl T.m_isinstance bt_isinstance (a_cons (e_var (pv 0)) (a_cons (e_const (pe_glob (v := .ref (A.cls 52)) rfl ((show mg "BadWeights" = _ from T.g_cls 52 (by decide))) rfl) fun _ => rfl) a_nil))) (a_cons (e_callB call_isiA (d_isi T.sub_ok T.ex_ok) rfl T.m_isinstance bt_isinstance (a_cons (e_var (pv 0)) (a_cons (e_const (pe_glob (v := .ref (A.cls 53)) rfl ((show mg "BadWish" = _ from T.g_cls 53 (by decide))) rfl) fun _ => rfl) a_nil))) (a_cons (e_callB call_isiA (d_isi T.sub_ok T.ex_ok) rfl T.m_isinstance bt_isinstance (a_cons (e_var (pv 0)) (a_cons (e_const (pe_glob (v := .ref (A.cls 54)) rfl ((show mg "BadWishes" = _ from T.g_cls 54 (by decide))) rfl) fun _ => rfl) a_nil))) (a_cons (e_callB call_isiA (d_isi T.sub_ok T.ex_ok) rfl T.m_isinstance bt_isinstance (a_cons (e_var (pv 0)) (a_cons (e_const (pe_glob (v := .ref (A.cls 55)) rfl ((show mg "BadWord" = _ from T.g_cls 55 (by decide))) rfl) fun _ => rfl) a_nil))) a_nil))))))))
    (ss_cons (s_set (i := 1) sc_law_classes.nd rfl (Or.inl rfl) (e_op op_addT (d_addT (mkF_ok _)) (e_var (pv 1)) (e_lst (mkF_ok _) (a_cons (e_callB call_isiA (d_isi T.sub_ok T.ex_ok) rfl T.m_isinstance bt_isinstance (a_cons (e_var (pv 0)) (a_cons (e_const (pe_glob (v := .ref (A.cls 56)) rfl ((show mg "BadWorth" = _ from T.g_cls 56 (by decide))) rfl) fun _ => rfl) a_nil))) (a_cons (e_callB call_isiA (d_isi T.sub_ok T.ex_ok) rfl T.m_isinstance bt_isinstance (a_cons (e_var (pv 0)) (a_cons (e_const (pe_glob (v := .ref (A.cls 57)) rfl ((show mg "BadWorths" = _ from T.g_cls 57 (by decide))) rfl) fun _ => rfl) a_nil))) (a_cons (e_callB call_isiA (d_isi T.sub_ok T.ex_ok) rfl T.m_isinstance bt_isinstance (a_cons (e_var (pv 0)) (a_cons (e_const (pe_glob (v := .ref (A.cls 58)) rfl ((show mg "Broken" = _ from T.g_cls 58 (by decide))) rfl) fun _ => rfl) a_nil))) (a_cons (e_callB call_isiA (d_isi T.sub_ok T.ex_ok) rfl T.m_isinstance bt_isinstance (a_cons (e_var (pv 0)) (a_cons (e_const (pe_glob (v := .ref (A.cls 59)) rfl ((show mg "Collides" = _ from T.g_cls 59 (by decide))) rfl) fun _ => rfl) a_nil))) (a_cons (e_callB call_isiA (d_isi T.sub_ok T.ex_ok) rfl T.m_isinstance bt_isinstance (a_cons (e_var (pv 0)) (a_cons (e_const (pe_glob (v := .ref (A.cls 60)) rfl ((show mg "Ended" = _ from T.g_cls 60 (by decide))) rfl) fun _ => rfl) a_nil))) a_nil))))))))
    (ss_cons (s_set (i := 1) sc_law_classes.nd rfl (Or.inl rfl) (e_op op_addT (d_addT (mkF_ok _)) (e_var (pv 1)) (e_lst (mkF_ok _) (a_cons (e_callB call_isiA (d_isi T.sub_ok T.ex_ok) rfl T.m_isinstance bt_isinstance (a_cons (e_var (pv 0)) (a_cons (e_const (pe_glob (v := .ref (A.cls 61)) rfl ((show mg "Faulty" = _ from T.g_cls 61 (by decide))) rfl) fun _ => rfl) a_nil))) (a_cons (e_callB call_isiA (d_isi T.sub_ok T.ex_ok) rfl T.m_isinstance bt_isinstance (a_cons (e_var (pv 0)) (a_cons (e_const (pe_glob (v := .ref (A.cls 62)) rfl ((show mg "IsSure" = _ from T.g_cls 62 (by decide))) rfl) fun _ => rfl) a_nil))) (a_cons (e_callB call_isiA (d_isi T.sub_ok T.ex_ok) rfl T.m_isinstance bt_isinstance (a_cons (e_var (pv 0)) (a_cons (e_const (pe_glob (v := .ref (A.cls 63)) rfl ((show mg "MatchOver" = _ from T.g_cls 63 (by decide))) rfl) fun _ => rfl) a_nil))) (a_cons (e_callB call_isiA (d_isi T.sub_ok T.ex_ok) rfl T.m_isinstance bt_isinstance (a_cons (e_var (pv 0)) (a_cons (e_const (pe_glob (v := .ref (A.cls 64)) rfl ((show mg "NoDifference" = _ from T.g_cls 64 (by decide))) rfl) fun _ => rfl) a_nil))) (a_cons (e_callB call_isiA (d_isi T.sub_ok T.ex_ok) rfl T.m_isinstance bt_isinstance (a_cons (e_var (pv 0)) (a_cons (e_const (pe_glob (v := .ref (A.cls 65)) rfl ((show mg "NoFit" = _ from T.g_cls 65 (by decide))) rfl) fun _ => rfl) a_nil))) a_nil))))))))
    (ss_cons (s_set (i := 1) sc_law_classes.nd rfl (Or.inl rfl) (e_op op_addT (d_addT (mkF_ok _)) (e_var (pv 1)) (e_lst (mkF_ok _) (a_cons (e_callB call_isiA (d_isi T.sub_ok T.ex_ok) rfl T.m_isinstance bt_isinstance (a_cons (e_var (pv 0)) (a_cons (e_const (pe_glob (v := .ref (A.cls 66)) rfl ((show mg "NoPlace" = _ from T.g_cls 66 (by decide))) rfl) fun _ => rfl) a_nil))) (a_cons (e_callB call_isiA (d_isi T.sub_ok T.ex_ok) rfl T.m_isinstance bt_isinstance (a_cons (e_var (pv 0)) (a_cons (e_const (pe_glob (v := .ref (A.cls 67)) rfl ((show mg "NoPlan" = _ from T.g_cls 67 (by decide))) rfl) fun _ => rfl) a_nil))) (a_cons (e_callB call_isiA (d_isi T.sub_ok T.ex_ok) rfl T.m_isinstance bt_isinstance (a_cons (e_var (pv 0)) (a_cons (e_const (pe_glob (v := .ref (A.cls 68)) rfl ((show mg "NoRing" = _ from T.g_cls 68 (by decide))) rfl) fun _ => rfl) a_nil))) (a_cons (e_callB call_isiA (d_isi T.sub_ok T.ex_ok) rfl T.m_isinstance bt_isinstance (a_cons (e_var (pv 0)) (a_cons (e_const (pe_glob (v := .ref (A.cls 69)) rfl ((show mg "NoTurn" = _ from T.g_cls 69 (by decide))) rfl) fun _ => rfl) a_nil))) (a_cons (e_callB call_isiA (d_isi T.sub_ok T.ex_ok) rfl T.m_isinstance bt_isinstance (a_cons (e_var (pv 0)) (a_cons (e_const (pe_glob (v := .ref (A.cls 70)) rfl ((show mg "NoWall" = _ from T.g_cls 70 (by decide))) rfl) fun _ => rfl) a_nil))) a_nil))))))))
    (ss_cons (s_set (i := 1) sc_law_classes.nd rfl (Or.inl rfl) (e_op op_addT (d_addT (mkF_ok _)) (e_var (pv 1)) (e_lst (mkF_ok _) (a_cons (e_callB call_isiA (d_isi T.sub_ok T.ex_ok) rfl T.m_isinstance bt_isinstance (a_cons (e_var (pv 0)) (a_cons (e_const (pe_glob (v := .ref (A.cls 71)) rfl ((show mg "NotAsked" = _ from T.g_cls 71 (by decide))) rfl) fun _ => rfl) a_nil))) (a_cons (e_callB call_isiA (d_isi T.sub_ok T.ex_ok) rfl T.m_isinstance bt_isinstance (a_cons (e_var (pv 0)) (a_cons (e_const (pe_glob (v := .ref (A.cls 72)) rfl ((show mg "NotGood" = _ from T.g_cls 72 (by decide))) rfl) fun _ => rfl) a_nil))) (a_cons (e_callB call_isiA (d_isi T.sub_ok T.ex_ok) rfl T.m_isinstance bt_isinstance (a_cons (e_var (pv 0)) (a_cons (e_const (pe_glob (v := .ref (A.cls 73)) rfl ((show mg "NotGuessed" = _ from T.g_cls 73 (by decide))) rfl) fun _ => rfl) a_nil))) (a_cons (e_callB call_isiA (d_isi T.sub_ok T.ex_ok) rfl T.m_isinstance bt_isinstance (a_cons (e_var (pv 0)) (a_cons (e_const (pe_glob (v := .ref (A.cls 74)) rfl ((show mg "NotKnown" = _ from T.g_cls 74 (by decide))) rfl) fun _ => rfl) a_nil))) (a_cons (e_callB call_isiA (d_isi T.sub_ok T.ex_ok) rfl T.m_isinstance bt_isinstance (a_cons (e_var (pv 0)) (a_cons (e_const (pe_glob (v := .ref (A.cls 75)) rfl ((show mg "NotLeast" = _ from T.g_cls 75 (by decide))) rfl) fun _ => rfl) a_nil))) a_nil))))))))
    (ss_cons (s_set (i := 1) sc_law_classes.nd rfl (Or.inl rfl) (e_op op_addT (d_addT (mkF_ok _)) (e_var (pv 1)) (e_lst (mkF_ok _) (a_cons (e_callB call_isiA (d_isi T.sub_ok T.ex_ok) rfl T.m_isinstance bt_isinstance (a_cons (e_var (pv 0)) (a_cons (e_const (pe_glob (v := .ref (A.cls 76)) rfl ((show mg "NotMine" = _ from T.g_cls 76 (by decide))) rfl) fun _ => rfl) a_nil))) (a_cons (e_callB call_isiA (d_isi T.sub_ok T.ex_ok) rfl T.m_isinstance bt_isinstance (a_cons (e_var (pv 0)) (a_cons (e_const (pe_glob (v := .ref (A.cls 77)) rfl ((show mg "NotOpen" = _ from T.g_cls 77 (by decide))) rfl) fun _ => rfl) a_nil))) (a_cons (e_callB call_isiA (d_isi T.sub_ok T.ex_ok) rfl T.m_isinstance bt_isinstance (a_cons (e_var (pv 0)) (a_cons (e_const (pe_glob (v := .ref (A.cls 78)) rfl ((show mg "NotWritten" = _ from T.g_cls 78 (by decide))) rfl) fun _ => rfl) a_nil))) (a_cons (e_callB call_isiA (d_isi T.sub_ok T.ex_ok) rfl T.m_isinstance bt_isinstance (a_cons (e_var (pv 0)) (a_cons (e_const (pe_glob (v := .ref (A.cls 79)) rfl ((show mg "NothingAsked" = _ from T.g_cls 79 (by decide))) rfl) fun _ => rfl) a_nil))) (a_cons (e_callB call_isiA (d_isi T.sub_ok T.ex_ok) rfl T.m_isinstance bt_isinstance (a_cons (e_var (pv 0)) (a_cons (e_const (pe_glob (v := .ref (A.cls 80)) rfl ((show mg "NothingDone" = _ from T.g_cls 80 (by decide))) rfl) fun _ => rfl) a_nil))) a_nil))))))))
    (ss_cons (s_set (i := 1) sc_law_classes.nd rfl (Or.inl rfl) (e_op op_addT (d_addT (mkF_ok _)) (e_var (pv 1)) (e_lst (mkF_ok _) (a_cons (e_callB call_isiA (d_isi T.sub_ok T.ex_ok) rfl T.m_isinstance bt_isinstance (a_cons (e_var (pv 0)) (a_cons (e_const (pe_glob (v := .ref (A.cls 81)) rfl ((show mg "NothingSet" = _ from T.g_cls 81 (by decide))) rfl) fun _ => rfl) a_nil))) (a_cons (e_callB call_isiA (d_isi T.sub_ok T.ex_ok) rfl T.m_isinstance bt_isinstance (a_cons (e_var (pv 0)) (a_cons (e_const (pe_glob (v := .ref (A.cls 82)) rfl ((show mg "NothingUndone" = _ from T.g_cls 82 (by decide))) rfl) fun _ => rfl) a_nil))) (a_cons (e_callB call_isiA (d_isi T.sub_ok T.ex_ok) rfl T.m_isinstance bt_isinstance (a_cons (e_var (pv 0)) (a_cons (e_const (pe_glob (v := .ref (A.cls 83)) rfl ((show mg "NowSo" = _ from T.g_cls 83 (by decide))) rfl) fun _ => rfl) a_nil))) (a_cons (e_callB call_isiA (d_isi T.sub_ok T.ex_ok) rfl T.m_isinstance bt_isinstance (a_cons (e_var (pv 0)) (a_cons (e_const (pe_glob (v := .ref (A.cls 84)) rfl ((show mg "OpenWorth" = _ from T.g_cls 84 (by decide))) rfl) fun _ => rfl) a_nil))) (a_cons (e_callB call_isiA (d_isi T.sub_ok T.ex_ok) rfl T.m_isinstance bt_isinstance (a_cons (e_var (pv 0)) (a_cons (e_const (pe_glob (v := .ref (A.cls 85)) rfl ((show mg "OtherInputs" = _ from T.g_cls 85 (by decide))) rfl) fun _ => rfl) a_nil))) a_nil))))))))
    (ss_cons (s_set (i := 1) sc_law_classes.nd rfl (Or.inl rfl) (e_op op_addT (d_addT (mkF_ok _)) (e_var (pv 1)) (e_lst (mkF_ok _) (a_cons (e_callB call_isiA (d_isi T.sub_ok T.ex_ok) rfl T.m_isinstance bt_isinstance (a_cons (e_var (pv 0)) (a_cons (e_const (pe_glob (v := .ref (A.cls 86)) rfl ((show mg "OtherOrder" = _ from T.g_cls 86 (by decide))) rfl) fun _ => rfl) a_nil))) (a_cons (e_callB call_isiA (d_isi T.sub_ok T.ex_ok) rfl T.m_isinstance bt_isinstance (a_cons (e_var (pv 0)) (a_cons (e_const (pe_glob (v := .ref (A.cls 87)) rfl ((show mg "TooMany" = _ from T.g_cls 87 (by decide))) rfl) fun _ => rfl) a_nil))) (a_cons (e_callB call_isiA (d_isi T.sub_ok T.ex_ok) rfl T.m_isinstance bt_isinstance (a_cons (e_var (pv 0)) (a_cons (e_const (pe_glob (v := .ref (A.cls 88)) rfl ((show mg "Unfit" = _ from T.g_cls 88 (by decide))) rfl) fun _ => rfl) a_nil))) (a_cons (e_callB call_isiA (d_isi T.sub_ok T.ex_ok) rfl T.m_isinstance bt_isinstance (a_cons (e_var (pv 0)) (a_cons (e_const (pe_glob (v := .ref (A.cls 89)) rfl ((show mg "Wrong" = _ from T.g_cls 89 (by decide))) rfl) fun _ => rfl) a_nil))) a_nil)))))))
    (ss_one (s_ret (e_comp (own := [("k", 2), ("is_one", 3)]) (mkF_ok _) rfl sc_law_classes.nd (i_enumL rfl T.m_enumerate (a_cons (e_var (pv 1)) a_nil)) (blkOk_by (own := [("k", 2), ("is_one", 3)]) (N := ["error", "found", "k", "is_one"]) (sc := defScope s_law_classes) (by decide +kernel)) (mono_tup (monos_cons (mono_name) (monos_cons (mono_name) (monos_nil)))) (tg_tup (tgs_cons (mono_name) (tg_name) (tgs_cons (mono_name) (tg_name) (tgs_nil)))) (fun _ _ _ _ _ => pg_tup rfl (pgs_cons (pg_name (i := 2) sc_law_classes.nd rfl (Or.inl rfl)) (pgs_cons (pg_name (i := 3) sc_law_classes.nd rfl (Or.inl rfl)) (pgs_nil)))) (W1 := W0) (fun _ _ _ _ _ => (ts_one (t_val (e_var (pv 3))))) (W2 := W0) (fun _ _ _ _ _ => (e_var (pv 2))))))))))))))))))))))))
theorem ok_law (T : Txt P K base mg A) : Quiet P w K mg base (L2.CX P w) 4 A.f_law A.d_law ["script"] (spM K 1 (r_law A)) := by
  refine quiet_of (k := 3) T.F_law sc_law fun cdv A' outer s H E hq hr => ?_
  have tk0 : Takes (cxOf (L2.CX P w) P w K mg base ["script", "draw", "some", "one", "other", "told", "errors_here", "entry", "classes", "error", "found", "mine", "due"] "law" (defScope s_law) A.f_law cdv A' outer s H E) (Wd E) := takes_of rfl rfl rfl rfl
  have po0 : PassesOwn (model P w) (cxOf (L2.CX P w) P w K mg base ["script", "draw", "some", "one", "other", "told", "errors_here", "entry", "classes", "error", "found", "mine", "due"] "law" (defScope s_law) A.f_law cdv A' outer s H E).A (cxOf (L2.CX P w) P w K mg base ["script", "draw", "some", "one", "other", "told", "errors_here", "entry", "classes", "error", "found", "mine", "due"] "law" (defScope s_law) A.f_law cdv A' outer s H E).env (cxOf (L2.CX P w) P w K mg base ["script", "draw", "some", "one", "other", "told", "errors_here", "entry", "classes", "error", "found", "mine", "due"] "law" (defScope s_law) A.f_law cdv A' outer s H E).xe := passes_of rfl
  exact (ss_cons (s_set (i := 1) sc_law.nd rfl (Or.inl rfl) (e_call (ok_law_begun T) (hr.mono (by decide)) rfl T.g_law_begun T.F_law_begun.kp T.b_law_begun tk0 (a_cons (e_var (pv 0)) a_nil)))
    (ss_cons (s_set (i := 2) sc_law.nd rfl (Or.inl rfl) (e_lst (mkF_ok _) (a_cons e_non (a_cons e_int (a_cons (e_un un_neg d_neg e_int) (a_cons e_str (a_cons e_str (a_cons (e_tup (a_cons e_int (a_cons e_int a_nil))) (a_cons (e_lst (mkF_ok _) (a_cons e_int a_nil)) (a_cons (e_disp (mkDF_ok _) (dp_cons (.inr "a") pe_str e_int dp_nil) (by decide)) (a_cons e_bl (a_cons (e_op op_pow d_pow e_int e_int) a_nil))))))))))))
    (ss_cons (s_par (i := 3) (j := 4) rfl sc_law.nd rfl rfl (by decide) rfl rfl (a_cons (e_call (ok_law_pick T) (hr.mono (by decide)) rfl T.g_law_pick T.F_law_pick.kp T.b_law_pick tk0 (a_cons (e_var (pv 1)) (a_cons (e_var (pv 2)) a_nil))) (a_cons (e_call (ok_law_pick T) (hr.mono (by decide)) rfl T.g_law_pick T.F_law_pick.kp T.b_law_pick tk0 (a_cons (e_var (pv 1)) (a_cons (e_var (pv 2)) a_nil))) a_nil)) (by rfl))
    (ss_cons (s_fzv 5 (s_set (i := 5) sc_law.nd rfl (Or.inl rfl) (e_call (ok_law_told_errors T) (hr.mono (by decide)) rfl T.g_law_told_errors T.F_law_told_errors.kp T.b_law_told_errors tk0 (a_cons (e_var (pv 3)) (a_cons (e_var (pv 4)) a_nil)))))
    (ss_cons (s_set (i := 6) sc_law.nd rfl (Or.inl rfl) (e_op op_addT (d_addT (mkF_ok _)) (e_call0 (ok_law_plain_errors T) (hr.mono (by decide)) rfl T.g_law_plain_errors T.F_law_plain_errors.kp T.b_law_plain_errors tk0) (e_comp (own := [("entry", 7)]) (mkF_ok _) rfl sc_law.nd (i_seq (e_var (pv 5))) (blkOk_by (own := [("entry", 7)]) (N := ["script", "draw", "some", "one", "other", "told", "errors_here", "entry", "classes", "error", "found", "mine", "due"]) (sc := defScope s_law) (by decide +kernel)) (mono_name) (tg_name) (fun _ _ _ _ _ => pg_name (i := 7) sc_law.nd rfl (Or.inl rfl)) (W1 := W0) (fun _ _ _ _ _ => ts_nil) (W2 := W0) (fun _ _ _ _ _ => (e_ix (ix_all (hu_of hr)) d_ix (e_var (pv 7)) e_int)))))
    (ss_cons (s_setComp (i := 8) (own := [("error", 9)]) (mkF_ok _) rfl sc_law.nd rfl rfl (sw_true rfl rfl rfl (by decide +kernel)) (i_seq (e_var (pv 6))) (blkOk_by (own := [("error", 9)]) (N := ["script", "draw", "some", "one", "other", "told", "errors_here", "entry", "classes", "error", "found", "mine", "due"]) (sc := defScope s_law) (by decide +kernel)) (mono_name) (tg_name) (fun _ _ _ _ _ => pg_name (i := 9) sc_law.nd rfl (Or.inl rfl)) (W1 := W0) (fun _ _ _ _ _ => ts_nil) (W2 := W0) (fun _ _ _ _ _ => (e_call (ok_law_classes T) (hr.mono (by decide)) rfl T.g_law_classes T.F_law_classes.kp T.b_law_classes takes0 (a_cons (e_var (pv 9)) a_nil))))
    (ss_cons (s_if (w_pt (w_or (t_cmp (op_neE hr.units) (d_nil d_ne) (bools_nil bools_ne) (e_comp (own := [("found", 10)]) (mkF_ok _) rfl sc_law.nd (i_seq (e_var (pv 8))) (blkOk_by (own := [("found", 10)]) (N := ["script", "draw", "some", "one", "other", "told", "errors_here", "entry", "classes", "error", "found", "mine", "due"]) (sc := defScope s_law) (by decide +kernel)) (mono_name) (tg_name) (fun _ _ _ _ _ => pg_name (i := 10) sc_law.nd rfl (Or.inl rfl)) (W1 := W0) (fun _ _ _ _ _ => (ts_one (t_cmp (op_neE hr.units) (d_nil d_ne) (bools_nil bools_ne) (e_callB call_lenA d_len_ rfl T.m_len bt_len (a_cons (e_var (pv 10)) a_nil)) e_int))) (W2 := W0) (fun _ _ _ _ _ => e_int)) (e_lst (mkF_ok _) a_nil)) (w_or1 (t_cmp (op_neE hr.units) (d_nil d_ne) (bools_nil bools_ne) (e_lenSet rfl T.m_len rfl T.m_set (e_comp (own := [("found", 10)]) (mkF_ok _) rfl sc_law.nd (i_seq (e_var (pv 8))) (blkOk_by (own := [("found", 10)]) (N := ["script", "draw", "some", "one", "other", "told", "errors_here", "entry", "classes", "error", "found", "mine", "due"]) (sc := defScope s_law) (by decide +kernel)) (mono_name) (tg_name) (fun _ _ _ _ _ => pg_name (i := 10) sc_law.nd rfl (Or.inl rfl)) (W1 := W0) (fun _ _ _ _ _ => ts_nil) (W2 := W0) (fun _ _ _ _ _ => (e_ix (ix_all (hu_of hr)) d_ix (e_var (pv 10)) e_int)))) (e_callB call_lenA d_len_ rfl T.m_len bt_len (a_cons (e_var (pv 6)) a_nil)))))) (ss_one (s_ret e_bl)) ss_nil)
    (ss_cons (s_for po0 rfl (i_seq (e_var (pv 5))) (g_tup rfl (gs_cons (g_name (pg_name (i := 9) sc_law.nd rfl (Or.inl rfl))) (gs_cons (g_name (pg_name (i := 11) sc_law.nd rfl (Or.inl rfl))) (gs_cons (g_name (pg_name (i := 12) sc_law.nd rfl (Or.inl rfl))) gs_nil)))) (ss_one (s_if (t_cmp (op_neE hr.units) (d_nil d_ne) (bools_nil bools_ne) (e_callB (call_reprX ((deeper_guards _ _).trans hq) (hu66 hr)) d_reprX rfl T.m_repr bt_repr (a_cons (e_var (pv 11)) a_nil)) (e_callB (call_reprX ((deeper_guards _ _).trans hq) (hu66 hr)) d_reprX rfl T.m_repr bt_repr (a_cons (e_var (pv 12)) a_nil))) (ss_one (s_ret e_bl)) ss_nil)))
    (ss_cons (s_for po0 rfl (i_seq (e_var (pv 6))) (g_name (pg_name (i := 9) sc_law.nd rfl (Or.inl rfl))) (ss_one (s_if (w_pt (w_or (t_not (t_val (e_callB call_isiA (d_isi T.sub_ok T.ex_ok) rfl T.m_isinstance bt_isinstance (a_cons (e_var (pv 9)) (a_cons (e_const (pe_glob (v := .ref (A.cls 0)) rfl ((show mg "SheetError" = _ from T.g_cls 0 (by decide))) rfl) fun _ => rfl) a_nil))))) (w_or1 (t_not (t_val (e_callB call_isiA (d_isi T.sub_ok T.ex_ok) rfl T.m_isinstance bt_isinstance (a_cons (e_var (pv 9)) (a_cons (e_const (pe_bltn (v := .ty "ValueError") rfl T.m_ValueError bt_ValueError rfl) fun _ => rfl) a_nil)))))))) (ss_one (s_ret e_bl)) ss_nil)))
    (ss_one (s_ret e_bl)))))))))))
end
end K24

set_option Elab.async false
set_option linter.all false
set_option maxRecDepth 100000
set_option maxHeartbeats 8100000
local macro_rules | `(tactic| walk_at "mp_s") => `(tactic| (repeat (first | (with_reducible refine MP.evV_i rfl ?_) | (with_reducible refine MP.dgTup_i rfl ?_) | (with_reducible refine MP.gIx_t rfl ?_) | (with_reducible refine MP.gIx_l rfl ?_) | (with_reducible refine MP.gLen_w rfl ?_) | (with_reducible refine MP.dAug_i rfl ?_) | (with_reducible refine MP.runF_i ?_) | (with_reducible refine MP.dSeq_i ?_) | (with_reducible refine MP.dSet_i ?_) | (with_reducible refine MP.dIf_i ?_) | (with_reducible refine MP.dRet_i ?_) | (with_reducible refine MP.dExpr_i ?_) | (with_reducible refine MP.dAsg_i ?_) | (with_reducible refine MP.dPar_i ?_) | (with_reducible refine MP.dRaise_i ?_) | (with_reducible refine MP.dNext_i ?_) | (with_reducible refine MP.dgName_i ?_) | (with_reducible refine MP.dgNil_i ?_) | (with_reducible refine MP.dgCons_i ?_) | (with_reducible refine MP.dgSub_i ?_) | (with_reducible refine MP.evC_i ?_) | (with_reducible refine MP.aNil_i ?_) | (with_reducible refine MP.aCons_i ?_) | (with_reducible refine MP.evTup_i ?_) | (with_reducible refine MP.evLst_i ?_) | (with_reducible refine MP.mkF_i ?_) | (with_reducible refine MP.mkDF_i ?_) | (with_reducible refine MP.evDisp_i ?_) | (with_reducible refine MP.evDict0_i ?_) | (with_reducible refine MP.bin_i ?_) | (with_reducible refine MP.una_i ?_) | (with_reducible refine MP.evCall_i ?_) | (with_reducible refine MP.evCall0_i ?_) | (with_reducible refine MP.evCallK_i ?_) | (with_reducible refine MP.evB_i ?_) | (with_reducible refine MP.onT_bl ?_) | (with_reducible refine MP.onT_non ?_) | (with_reducible refine MP.bV_i ?_) | (with_reducible refine MP.bAnd_i ?_) | (with_reducible refine MP.bOr_i ?_) | (with_reducible refine MP.bNot_i ?_) | (with_reducible refine MP.bYes_i ?_) | (with_reducible refine MP.onBl_i ?_) | (with_reducible refine MP.bB_i ?_) | (with_reducible refine MP.eAnd_i ?_) | (with_reducible refine MP.eOr_i ?_) | (with_reducible refine MP.eNot_i ?_) | (with_reducible refine MP.eIf_i ?_) | (with_reducible refine MP.chn_i ?_) | (with_reducible refine MP.ite_tt ?_) | (with_reducible refine MP.ite_ff ?_) | (with_reducible refine MP.gSub_i ?_) | (with_reducible refine MP.gAdd_i ?_) | (with_reducible refine MP.gNeg_i ?_) | (with_reducible refine MP.gLe_i ?_) | (with_reducible refine MP.gLt_i ?_) | (with_reducible refine MP.gGt_i ?_) | (with_reducible refine MP.gGe_i ?_) | (with_reducible refine MP.gEq_i ?_) | (with_reducible refine MP.gNe_i ?_) | (with_reducible refine MP.gEq_b ?_) | (with_reducible refine MP.gNe_b ?_) | (with_reducible refine MP.gEq_s ?_) | (with_reducible refine MP.gNe_s ?_) | (with_reducible refine MP.gIs_i ?_) | (with_reducible refine MP.gIsn_i ?_) | (with_reducible refine MP.gInt_i ?_) | (with_reducible refine MP.gAbs_i ?_) | (with_reducible refine MP.gMin2_i ?_) | (with_reducible refine MP.evComp_i ?_) | (with_reducible refine MP.dFor_i ?_) | (with_reducible refine MP.iSeq_i ?_) | (with_reducible refine MP.onSeq_l ?_) | (with_reducible refine MP.onSeq_k ?_) | (with_reducible refine MP.onSeq_t ?_) | (with_reducible refine MP.iChars_i ?_) | (with_reducible refine MP.onStr_i ?_) | (with_reducible refine MP.evSl_i ?_) | (with_reducible refine MP.oNo_i ?_) | (with_reducible refine MP.oPart_i ?_) | (with_reducible refine MP.onInt_i ?_) | (with_reducible refine MP.gSl_t ?_) | (with_reducible refine MP.dPar3_i ?_) | (with_reducible refine MP.gAddT_i ?_) | (with_reducible refine MP.gEqE_i ?_) | (with_reducible refine MP.gNeE_i ?_) | (with_reducible refine MP.gEqE_s ?_) | (with_reducible refine MP.gNeE_s ?_) | (with_reducible refine MP.intK_i ?_) | (with_reducible refine MP.gInt_b ?_) | (with_reducible refine MP.dRaiseI_i ?_) | (with_reducible refine MP.gIsA_n ?_) | (with_reducible refine MP.gIsnA_n ?_) | (with_reducible refine MP.gIsA_b ?_) | (with_reducible refine MP.gIsnA_b ?_) | ((with_reducible apply MP.gIsi_t); rfl; rfl; rfl) | ((with_reducible apply MP.onT_i); rfl) | ((with_reducible apply MP.ite_t); rfl) | ((with_reducible apply MP.ite_f); rfl) | ((with_reducible apply MP.gList_i); rfl) | ((with_reducible apply MP.gTuple_i); rfl))))
local macro_rules | `(tactic| walk_at "mp_1") => `(tactic| (first | (with_reducible refine MP.evV_i rfl ?_) | (with_reducible refine MP.dgTup_i rfl ?_) | (with_reducible refine MP.gIx_t rfl ?_) | (with_reducible refine MP.gIx_l rfl ?_) | (with_reducible refine MP.gLen_w rfl ?_) | (with_reducible refine MP.dAug_i rfl ?_) | (with_reducible refine MP.runF_i ?_) | (with_reducible refine MP.dSeq_i ?_) | (with_reducible refine MP.dSet_i ?_) | (with_reducible refine MP.dIf_i ?_) | (with_reducible refine MP.dRet_i ?_) | (with_reducible refine MP.dExpr_i ?_) | (with_reducible refine MP.dAsg_i ?_) | (with_reducible refine MP.dPar_i ?_) | (with_reducible refine MP.dRaise_i ?_) | (with_reducible refine MP.dNext_i ?_) | (with_reducible refine MP.dgName_i ?_) | (with_reducible refine MP.dgNil_i ?_) | (with_reducible refine MP.dgCons_i ?_) | (with_reducible refine MP.dgSub_i ?_) | (with_reducible refine MP.evC_i ?_) | (with_reducible refine MP.aNil_i ?_) | (with_reducible refine MP.aCons_i ?_) | (with_reducible refine MP.evTup_i ?_) | (with_reducible refine MP.evLst_i ?_) | (with_reducible refine MP.mkF_i ?_) | (with_reducible refine MP.mkDF_i ?_) | (with_reducible refine MP.evDisp_i ?_) | (with_reducible refine MP.evDict0_i ?_) | (with_reducible refine MP.bin_i ?_) | (with_reducible refine MP.una_i ?_) | (with_reducible refine MP.evCall_i ?_) | (with_reducible refine MP.evCall0_i ?_) | (with_reducible refine MP.evCallK_i ?_) | (with_reducible refine MP.evB_i ?_) | (with_reducible refine MP.onT_bl ?_) | (with_reducible refine MP.onT_non ?_) | (with_reducible refine MP.bV_i ?_) | (with_reducible refine MP.bAnd_i ?_) | (with_reducible refine MP.bOr_i ?_) | (with_reducible refine MP.bNot_i ?_) | (with_reducible refine MP.bYes_i ?_) | (with_reducible refine MP.onBl_i ?_) | (with_reducible refine MP.bB_i ?_) | (with_reducible refine MP.eAnd_i ?_) | (with_reducible refine MP.eOr_i ?_) | (with_reducible refine MP.eNot_i ?_) | (with_reducible refine MP.eIf_i ?_) | (with_reducible refine MP.chn_i ?_) | (with_reducible refine MP.ite_tt ?_) | (with_reducible refine MP.ite_ff ?_) | (with_reducible refine MP.gSub_i ?_) | (with_reducible refine MP.gAdd_i ?_) | (with_reducible refine MP.gNeg_i ?_) | (with_reducible refine MP.gLe_i ?_) | (with_reducible refine MP.gLt_i ?_) | (with_reducible refine MP.gGt_i ?_) | (with_reducible refine MP.gGe_i ?_) | (with_reducible refine MP.gEq_i ?_) | (with_reducible refine MP.gNe_i ?_) | (with_reducible refine MP.gEq_b ?_) | (with_reducible refine MP.gNe_b ?_) | (with_reducible refine MP.gEq_s ?_) | (with_reducible refine MP.gNe_s ?_) | (with_reducible refine MP.gIs_i ?_) | (with_reducible refine MP.gIsn_i ?_) | (with_reducible refine MP.gInt_i ?_) | (with_reducible refine MP.gAbs_i ?_) | (with_reducible refine MP.gMin2_i ?_) | (with_reducible refine MP.evComp_i ?_) | (with_reducible refine MP.dFor_i ?_) | (with_reducible refine MP.iSeq_i ?_) | (with_reducible refine MP.onSeq_l ?_) | (with_reducible refine MP.onSeq_k ?_) | (with_reducible refine MP.onSeq_t ?_) | (with_reducible refine MP.iChars_i ?_) | (with_reducible refine MP.onStr_i ?_) | (with_reducible refine MP.evSl_i ?_) | (with_reducible refine MP.oNo_i ?_) | (with_reducible refine MP.oPart_i ?_) | (with_reducible refine MP.onInt_i ?_) | (with_reducible refine MP.gSl_t ?_) | (with_reducible refine MP.dPar3_i ?_) | (with_reducible refine MP.gAddT_i ?_) | (with_reducible refine MP.gEqE_i ?_) | (with_reducible refine MP.gNeE_i ?_) | (with_reducible refine MP.gEqE_s ?_) | (with_reducible refine MP.gNeE_s ?_) | (with_reducible refine MP.intK_i ?_) | (with_reducible refine MP.gInt_b ?_) | (with_reducible refine MP.dRaiseI_i ?_) | (with_reducible refine MP.gIsA_n ?_) | (with_reducible refine MP.gIsnA_n ?_) | (with_reducible refine MP.gIsA_b ?_) | (with_reducible refine MP.gIsnA_b ?_) | ((with_reducible apply MP.gIsi_t); rfl; rfl; rfl) | ((with_reducible apply MP.onT_i); rfl) | ((with_reducible apply MP.ite_t); rfl) | ((with_reducible apply MP.ite_f); rfl) | ((with_reducible apply MP.gList_i); rfl) | ((with_reducible apply MP.gTuple_i); rfl)))
/-! what the mirrors compute: errors and their classes -/
namespace K24
open PySem PySem.Spec PyProof.Rows L2 MP
variable {A : Ad} {S : Store} {Q : Post} {E : XPost}

theorem le_line1 {n : Nat} (h : n ≤ 1000) : n ≤ sizeLine := Nat.le_trans h (by decide)
abbrev Er : Type := Nat × Addr × List Str × List D
def encE (A : Ad) (e : Er) : D := .exn (.ref (A.cls e.1)) e.2.1 e.2.2.1 e.2.2.2
def plainIx : List Nat := [1, 2, 3, 4, 5, 7, 8, 9, 10, 11, 13, 14, 16, 17, 18, 19, 20, 21, 22, 24, 25, 26, 27, 28, 29, 30, 31, 32, 33, 34, 35, 36, 37, 38, 39, 40, 41, 42, 43, 45, 46, 47, 48, 49, 51, 52, 53, 55, 56, 57, 60, 63, 64, 67, 69, 70, 71, 73, 74, 75, 76, 77, 79, 80, 81, 82, 83, 85, 86, 88]
def toldIx : List Nat := [6, 12, 15, 23, 44, 50, 54, 58, 59, 61, 62, 65, 66, 68, 72, 78, 84, 87, 89]
theorem isi_exn (hA : A.Ok) {i j : Nat} {a : Addr} {ks : List Str} {xs : List D} (hi : i < 90) (hj : j < 90) (q : Q (.bl ((below i).contains j)) S) : gIsi (subT A) (exT_ A) [.exn (.ref (A.cls i)) a ks xs, .ref (A.cls j)] S Q := by
  show exT_ A (A.cls i) = true ∧ match subT A (.ref (A.cls i)) (.ref (A.cls j)) with
    | some b => Q (.bl b) S
    | none => False
  have e : subT A (.ref (A.cls i)) (.ref (A.cls j)) = some ((below i).contains j) := by
    show (match A.nm (A.cls i), A.nm (A.cls j) with
      | some i, some j => some ((below i).contains j)
      | _, _ => none) = _
    rw [hA.nm i hi, hA.nm j hj]
  rw [e]
  exact ⟨by unfold exT_; rw [hA.nm i hi]; rfl, q⟩
theorem isi_val (hA : A.Ok) {i : Nat} {a : Addr} {ks : List Str} {xs : List D} (hi : i < 90) (q : Q (.bl true) S) : gIsi (subT A) (exT_ A) [.exn (.ref (A.cls i)) a ks xs, .ty "ValueError"] S Q := by
  show exT_ A (A.cls i) = true ∧ match subT A (.ref (A.cls i)) (.type "ValueError") with
    | some b => Q (.bl b) S
    | none => False
  have e : subT A (.ref (A.cls i)) (.type "ValueError") = some true := by
    show (if "ValueError" = "ValueError" then (A.nm (A.cls i)).map fun _ => true else none) = _
    rw [if_pos rfl, hA.nm i hi]
    rfl
  rw [e]
  exact ⟨by unfold exT_; rw [hA.nm i hi]; rfl, q⟩
theorem xf_at {f : ET} {ρ : MP.Env} {C a : Addr} {ks : List Str} {xs : List D} {n : Str} {x : D} (hc : fxT A C n = true) (e : lkF ks xs n = some x) (hf : ∀ (Q : Post) (E : XPost), Q (.exn (.ref C) a ks xs) S → f ρ S Q E) (q : Q x S) : evXf (fxT A) n f ρ S Q E := by
  refine evXf_i (hf _ _ ?_)
  show fxT A C n = true ∧ match lkF ks xs n with
    | some x => Q x S
    | none => False
  rw [e]
  exact ⟨hc, q⟩
theorem plain_ok (q : ∀ es : List Er, es.map (·.1) = plainIx → Q (.lst (es.map (encE A))) S) : r_law_plain_errors A [] S Q E := by
  unfold r_law_plain_errors
  walk_at "mp_s"
  refine evNew_i fun a1 => ?_
  walk_at "mp_s"
  refine evNew_i fun a2 => ?_
  walk_at "mp_s"
  refine evNew_i fun a3 => ?_
  walk_at "mp_s"
  refine evNew_i fun a4 => ?_
  walk_at "mp_s"
  refine evNew_i fun a5 => ?_
  walk_at "mp_s"
  refine evNew_i fun a6 => ?_
  walk_at "mp_s"
  refine evNew_i fun a7 => ?_
  walk_at "mp_s"
  refine evNew_i fun a8 => ?_
  walk_at "mp_s"
  refine evNew_i fun a9 => ?_
  walk_at "mp_s"
  refine evNew_i fun a10 => ?_
  walk_at "mp_s"
  refine evNew_i fun a11 => ?_
  walk_at "mp_s"
  refine evNew_i fun a12 => ?_
  walk_at "mp_s"
  refine evNew_i fun a13 => ?_
  walk_at "mp_s"
  refine evNew_i fun a14 => ?_
  walk_at "mp_s"
  refine evNew_i fun a15 => ?_
  walk_at "mp_s"
  refine evNew_i fun a16 => ?_
  walk_at "mp_s"
  refine evNew_i fun a17 => ?_
  walk_at "mp_s"
  refine evNew_i fun a18 => ?_
  walk_at "mp_s"
  refine evNew_i fun a19 => ?_
  walk_at "mp_s"
  refine evNew_i fun a20 => ?_
  walk_at "mp_s"
  refine gAddT_l (by simp only [List.length_append, List.length_cons, List.length_nil]; decide) ?_
  walk_at "mp_s"
  refine evNew_i fun a21 => ?_
  walk_at "mp_s"
  refine evNew_i fun a22 => ?_
  walk_at "mp_s"
  refine evNew_i fun a23 => ?_
  walk_at "mp_s"
  refine evNew_i fun a24 => ?_
  walk_at "mp_s"
  refine evNew_i fun a25 => ?_
  walk_at "mp_s"
  refine evNew_i fun a26 => ?_
  walk_at "mp_s"
  refine evNew_i fun a27 => ?_
  walk_at "mp_s"
  refine evNew_i fun a28 => ?_
  walk_at "mp_s"
  refine evNew_i fun a29 => ?_
  walk_at "mp_s"
  refine evNew_i fun a30 => ?_
  walk_at "mp_s"
  refine gAddT_l (by simp only [List.length_append, List.length_cons, List.length_nil]; decide) ?_
  walk_at "mp_s"
  refine evNew_i fun a31 => ?_
  walk_at "mp_s"
  refine evNew_i fun a32 => ?_
  walk_at "mp_s"
  refine evNew_i fun a33 => ?_
  walk_at "mp_s"
  refine evNew_i fun a34 => ?_
  walk_at "mp_s"
  refine evNew_i fun a35 => ?_
  walk_at "mp_s"
  refine evNew_i fun a36 => ?_
  walk_at "mp_s"
  refine evNew_i fun a37 => ?_
  walk_at "mp_s"
  refine evNew_i fun a38 => ?_
  walk_at "mp_s"
  refine evNew_i fun a39 => ?_
  walk_at "mp_s"
  refine gAddT_l (by simp only [List.length_append, List.length_cons, List.length_nil]; decide) ?_
  walk_at "mp_s"
  refine evNew_i fun a40 => ?_
  walk_at "mp_s"
  refine evNew_i fun a41 => ?_
  walk_at "mp_s"
  refine evNew_i fun a42 => ?_
  walk_at "mp_s"
  refine evNew_i fun a43 => ?_
  walk_at "mp_s"
  refine evNew_i fun a44 => ?_
  walk_at "mp_s"
  refine evNew_i fun a45 => ?_
  walk_at "mp_s"
  refine evNew_i fun a46 => ?_
  walk_at "mp_s"
  refine evNew_i fun a47 => ?_
  walk_at "mp_s"
  refine evNew_i fun a48 => ?_
  walk_at "mp_s"
  refine evNew_i fun a49 => ?_
  walk_at "mp_s"
  refine gAddT_l (by simp only [List.length_append, List.length_cons, List.length_nil]; decide) ?_
  walk_at "mp_s"
  refine evNew_i fun a50 => ?_
  walk_at "mp_s"
  refine evNew_i fun a51 => ?_
  walk_at "mp_s"
  refine evNew_i fun a52 => ?_
  walk_at "mp_s"
  refine evNew_i fun a53 => ?_
  walk_at "mp_s"
  refine evNew_i fun a54 => ?_
  walk_at "mp_s"
  refine evNew_i fun a55 => ?_
  walk_at "mp_s"
  refine evNew_i fun a56 => ?_
  walk_at "mp_s"
  refine evNew_i fun a57 => ?_
  walk_at "mp_s"
  refine evNew_i fun a58 => ?_
  walk_at "mp_s"
  refine evNew_i fun a59 => ?_
  walk_at "mp_s"
  refine gAddT_l (by simp only [List.length_append, List.length_cons, List.length_nil]; decide) ?_
  walk_at "mp_s"
  refine evNew_i fun a60 => ?_
  walk_at "mp_s"
  refine evNew_i fun a61 => ?_
  walk_at "mp_s"
  refine evNew_i fun a62 => ?_
  walk_at "mp_s"
  refine evNew_i fun a63 => ?_
  walk_at "mp_s"
  refine evNew_i fun a64 => ?_
  walk_at "mp_s"
  refine evNew_i fun a65 => ?_
  walk_at "mp_s"
  refine evNew_i fun a66 => ?_
  walk_at "mp_s"
  refine evNew_i fun a67 => ?_
  walk_at "mp_s"
  refine evNew_i fun a68 => ?_
  walk_at "mp_s"
  refine gAddT_l (by simp only [List.length_append, List.length_cons, List.length_nil]; decide) ?_
  walk_at "mp_s"
  refine evNew_i fun a69 => ?_
  walk_at "mp_s"
  refine evNew_i fun a70 => ?_
  walk_at "mp_s"
  refine gAddT_l (by simp only [List.length_append, List.length_cons, List.length_nil]; decide) ?_
  walk_at "mp_s"
  exact q [(1, a1, [], []), (2, a2, [], []), (3, a3, [], []), (4, a4, [], []), (5, a5, [], []), (7, a6, [], []), (8, a7, [], []), (9, a8, [], []), (10, a9, [], []), (11, a10, [], []), (13, a11, [], []), (14, a12, [], []), (16, a13, [], []), (17, a14, [], []), (18, a15, [], []), (19, a16, [], []), (20, a17, [], []), (21, a18, [], []), (22, a19, [], []), (24, a20, [], []), (25, a21, [], []), (26, a22, [], []), (27, a23, [], []), (28, a24, [], []), (29, a25, [], []), (30, a26, [], []), (31, a27, [], []), (32, a28, [], []), (33, a29, [], []), (34, a30, [], []), (35, a31, [], []), (36, a32, [], []), (37, a33, [], []), (38, a34, [], []), (39, a35, [], []), (40, a36, [], []), (41, a37, [], []), (42, a38, [], []), (43, a39, [], []), (45, a40, [], []), (46, a41, [], []), (47, a42, [], []), (48, a43, [], []), (49, a44, [], []), (51, a45, [], []), (52, a46, [], []), (53, a47, [], []), (55, a48, [], []), (56, a49, [], []), (57, a50, [], []), (60, a51, [], []), (63, a52, [], []), (64, a53, [], []), (67, a54, [], []), (69, a55, [], []), (70, a56, [], []), (71, a57, [], []), (73, a58, [], []), (74, a59, [], []), (75, a60, [], []), (76, a61, [], []), (77, a62, [], []), (79, a63, [], []), (80, a64, [], []), (81, a65, [], []), (82, a66, [], []), (83, a67, [], []), (85, a68, [], []), (86, a69, [], []), (88, a70, [], [])] rfl
end K24

set_option Elab.async false
set_option linter.all false
set_option maxRecDepth 100000
set_option maxHeartbeats 4100000
/-! what the mirrors compute: the draws -/
namespace K24
open PySem PySem.Spec PyProof.Rows L2 MP
variable {A : Ad} {S : Store} {Q : Post} {E : XPost}
def dks : List Key := [.inr "wide", .inr "cells", .inr "rest", .inr "turn"]
def box (w : Addr) (cs : List Int) (rest turn : Int) : SO := .dct dks [.ref w, .lst (cs.map .int), .int rest, .int turn]
/-- a draw that stands at a, its wide numbers at w; n numbers at most were mixed -/
structure Dr (S : Store) (a w : Addr) (n : Nat) : Prop where
  ne : a ≠ w
  box : ∃ (cs : List Int) (rest turn : Int), S a = some (box w cs rest turn) ∧ (∀ c ∈ cs, 0 ≤ c ∧ c < 2147483629) ∧ 0 ≤ rest ∧ 0 ≤ turn ∧ turn ≤ n
  wide : ∃ ws : List Int, S w = some (.lst (ws.map .int)) ∧ ∀ x ∈ ws, 0 ≤ x
def Same (S S' : Store) (a w : Addr) : Prop := ∀ b, b ≠ a → b ≠ w → S' b = S b
theorem Same.refl (S : Store) (a w : Addr) : Same S S a w := fun _ _ _ => rfl
theorem Same.trans {S S1 S2 : Store} {a w : Addr} (h : Same S S1 a w) (k : Same S1 S2 a w) : Same S S2 a w := fun b x y => (k b x y).trans (h b x y)
theorem Dr.mono {S : Store} {a w : Addr} {n m : Nat} (h : Dr S a w n) (l : n ≤ m) : Dr S a w m := ⟨h.ne, by
  obtain ⟨cs, r, t, e, c, r0, t0, tn⟩ := h.box
  exact ⟨cs, r, t, e, c, r0, t0, by omega⟩, h.wide⟩
theorem set_at {S : Store} {a : Addr} {o : SO} : S.set a o a = some o := by unfold Store.set; rw [if_pos rfl]
theorem set_off {S : Store} {a b : Addr} {o : SO} (h : b ≠ a) : S.set a o b = S b := by unfold Store.set; rw [if_neg h]
theorem same_set {S S1 : Store} {a w : Addr} {o : SO} (h : Same S S1 a w) : Same S (S1.set a o) a w := fun b x y => by rw [set_off x, h b x y]
theorem same_setw {S S1 : Store} {a w : Addr} {o : SO} (h : Same S S1 a w) : Same S (S1.set w o) a w := fun b x y => by rw [set_off y, h b x y]
theorem bx_turn {S : Store} {a w : Addr} {cs : List Int} {r t : Int} (h : S a = some (box w cs r t)) (q : Q (.int t) S) : gIx (.ref a) (.str "turn") S Q :=
  gIx_box h (k := .inr "turn") rfl (d := .int t) (by rfl) q
theorem bx_rest {S : Store} {a w : Addr} {cs : List Int} {r t : Int} (h : S a = some (box w cs r t)) (q : Q (.int r) S) : gIx (.ref a) (.str "rest") S Q :=
  gIx_box h (k := .inr "rest") rfl (d := .int r) (by rfl) q
theorem bx_cells {S : Store} {a w : Addr} {cs : List Int} {r t : Int} (h : S a = some (box w cs r t)) (q : Q (.lst (cs.map .int)) S) : gIx (.ref a) (.str "cells") S Q :=
  gIx_box h (k := .inr "cells") rfl (d := .lst (cs.map .int)) (by rfl) q
theorem bx_wide {S : Store} {a w : Addr} {cs : List Int} {r t : Int} (h : S a = some (box w cs r t)) (q : Q (.ref w) S) : gIx (.ref a) (.str "wide") S Q :=
  gIx_box h (k := .inr "wide") rfl (d := .ref w) (by rfl) q
theorem st_turn {S : Store} {a w : Addr} {cs : List Int} {r t i : Int} {QS : Store → Prop} (h : S a = some (box w cs r t)) (q : QS (S.set a (box w cs r i))) : setD (.ref a) (.str "turn") (.int i) S QS :=
  setD_box h (k := .inr "turn") rfl (by decide) (ks' := dks) (by rfl) (ds' := [.ref w, .lst (cs.map .int), .int r, .int i]) (by rfl) q
theorem st_rest {S : Store} {a w : Addr} {cs : List Int} {r t i : Int} {QS : Store → Prop} (h : S a = some (box w cs r t)) (q : QS (S.set a (box w cs i t))) : setD (.ref a) (.str "rest") (.int i) S QS :=
  setD_box h (k := .inr "rest") rfl (by decide) (ks' := dks) (by rfl) (ds' := [.ref w, .lst (cs.map .int), .int i, .int t]) (by rfl) q
theorem mixed_ok {a w : Addr} {n : Nat} (h : Dr S a w n) (hn : n < 2 ^ 40) (q : ∀ r S', 0 ≤ r → Dr S' a w (n + 1) → Same S S' a w → Q (.int r) S') : r_law_mixed A [.ref a] S Q E := by
  obtain ⟨cs, r, t, e, hc, r0, t0, tn⟩ := h.box
  obtain ⟨ws, ew, hw⟩ := h.wide
  unfold r_law_mixed
  walk_at "mp_s"
  refine bx_turn e ?_
  walk_at "mp_s"
  refine st_turn e ?_
  walk_at "mp_s"
  have e1 : S.set a (box w cs r (t + 1)) a = some (box w cs r (t + 1)) := set_at
  have d1 : Dr (S.set a (box w cs r (t + 1))) a w (n + 1) := ⟨h.ne, ⟨cs, r, t + 1, e1, hc, r0, by omega, by omega⟩, ⟨ws, by rw [set_off h.ne.symm]; exact ew, hw⟩⟩
  have s1 : Same S (S.set a (box w cs r (t + 1))) a w := same_set (Same.refl S a w)
  generalize S.set a (box w cs r (t + 1)) = S1 at e1 d1 s1 ⊢
  refine loop_ind (fun ds ρ S' => S' = S1 ∧ (∀ d ∈ ds, ∃ p, d = .int p ∧ 0 < p ∧ p < 2147483648) ∧ ∃ f p b g, 0 ≤ f ∧ ρ = [some (.ref a), some (.int (t + 1)), some (.int f), p, b, g]) ?_ ?_ _ _ _ ⟨rfl, ?_, 0, none, none, none, by omega, rfl⟩
  · rintro d ds ρ S' ih ⟨rfl, hd, f, p, b, g, f0, rfl⟩
    obtain ⟨p, rfl, p0, p1⟩ := hd d List.mem_cons_self
    walk_at "mp_s"
    refine gMul_i (.inl ⟨by decide, by decide⟩) ?_
    walk_at "mp_s"
    refine gDiv_i ⟨by decide, by decide⟩ ?_
    walk_at "mp_s"
    refine bx_cells e1 ?_
    walk_at "mp_s"
    have b0 : 0 ≤ 48271 * (t + 1) + p / 37 ∧ 48271 * (t + 1) + p / 37 < 2 ^ 63 := by
      have : (n : Int) < 2 ^ 40 := by exact_mod_cast hn
      omega
    generalize 48271 * (t + 1) + p / 37 = b at b0
    refine loop_ind (fun ds ρ S'' => S'' = S' ∧ (∀ d ∈ ds, ∃ c, d = .int c ∧ 0 ≤ c) ∧ ∃ b g, 0 ≤ b ∧ b < 2 ^ 63 ∧ ρ = [some (.ref a), some (.int (t + 1)), some (.int f), some (.int p), some (.int b), g]) ?_ ?_ _ _ _ ⟨rfl, ?_, b, g, b0.1, b0.2, rfl⟩
    · rintro d2 ds2 ρ2 S2 ih2 ⟨rfl, hd2, b, g, b0, b1, rfl⟩
      obtain ⟨c, rfl, c0⟩ := hd2 d2 List.mem_cons_self
      walk_at "mp_s"
      refine gMul_i (.inr ⟨by decide, by decide⟩) ?_
      walk_at "mp_s"
      refine gMod_i p0 ?_
      walk_at "mp_s"
      refine ih2 _ _ ⟨rfl, fun d hd => hd2 d (List.mem_cons_of_mem _ hd), (b * 69621 + c + (t + 1)) % p, some (.int c), ?_, ?_, rfl⟩
      · exact Int.emod_nonneg _ (by omega)
      · have := Int.emod_lt_of_pos (b * 69621 + c + (t + 1)) p0
        omega
    · rintro ρ2 S2 ⟨rfl, -, b, g, b0, b1, rfl⟩
      walk_at "mp_s"
      refine gMul_i (.inr ⟨by decide, by decide⟩) ?_
      walk_at "mp_s"
      refine gPow_i ⟨by decide, by decide, by omega⟩ ?_
      walk_at "mp_s"
      refine gMod_i p0 ?_
      walk_at "mp_s"
      refine ih _ _ ⟨rfl, fun d hd' => hd d (List.mem_cons_of_mem _ hd'), f * 2147483647 + b ^ 5 % p, some (.int p), some (.int b), g, ?_, rfl⟩
      have := Int.emod_nonneg (b ^ 5) (show p ≠ 0 by omega)
      omega
    · intro d hd
      obtain ⟨c, hc', rfl⟩ := List.mem_map.mp hd
      exact ⟨c, rfl, (hc c hc').1⟩
  · rintro ρ S' ⟨rfl, -, f, p, b, g, f0, rfl⟩
    walk_at "mp_s"
    exact q f S' f0 d1 s1
  · intro d hd
    simp only [List.mem_cons, List.not_mem_nil, or_false] at hd
    rcases hd with rfl | rfl | rfl | rfl <;> exact ⟨_, rfl, by decide, by decide⟩
theorem pop_ok {w : Addr} {x : D} {xs : List D} (h : S w = some (.lst (x :: xs))) (q : Q x (S.set w (.lst xs))) : mPopAt (.ref w) [.int 0] S Q := by
  unfold mPopAt onL
  simp only [h]
  refine ⟨by decide, by decide, ?_⟩
  have e : seqIndex? 0 (x :: xs).length = some 0 := by
    unfold seqIndex?
    simp
  rw [e]
  exact q
theorem take_end {a w : Addr} {n : Nat} {many : Int} {ρ : MP.Env} {N : DEnds} (h : Dr S a w n) (hm : 0 < many) (hm2 : many < 1073741824) (e0 : ρ = [some (.ref a), some (.int many), none]) (q : ∀ r S', 0 ≤ r → r < many → Dr S' a w n → Same S S' a w → N.rt (.int r) S') :
    dSeq (dSet 2 (bin gMod (evB gInt (aCons (bin gIx (evV 0) (evC (.str "rest"))) (aNil))) (evV 1))) (dSeq (dAsg (bin gDiv (bin gIx (evV 0) (evC (.str "rest"))) (evV 1)) (dgSub (evV 0) (evC (.str "rest")))) (dRet (evV 2))) ρ S N := by
  obtain ⟨cs, r, t, e, hc, r0, t0, tn⟩ := h.box
  obtain ⟨ws, ew, hw⟩ := h.wide
  subst e0
  walk_at "mp_s"
  refine bx_rest e ?_
  walk_at "mp_s"
  refine gMod_i hm ?_
  walk_at "mp_s"
  refine bx_rest e ?_
  walk_at "mp_s"
  refine gDiv_i ⟨hm, hm2⟩ ?_
  walk_at "mp_s"
  refine st_rest e ?_
  walk_at "mp_s"
  exact q _ _ (Int.emod_nonneg _ (by omega)) (Int.emod_lt_of_pos _ hm) ⟨h.ne, ⟨cs, r / many, t, set_at, hc, Int.ediv_nonneg r0 (by omega), t0, tn⟩, ⟨ws, by rw [set_off h.ne.symm]; exact ew, hw⟩⟩ (same_set (Same.refl S a w))
theorem take_ok {a w : Addr} {n : Nat} {many : Int} (h : Dr S a w n) (hn : n < 2 ^ 40) (hm : 0 < many) (hm2 : many < 1073741824) (q : ∀ r S', 0 ≤ r → r < many → Dr S' a w (n + 1) → Same S S' a w → Q (.int r) S') : r_law_take A [.ref a, .int many] S Q E := by
  obtain ⟨cs, r, t, e, hc, r0, t0, tn⟩ := h.box
  obtain ⟨ws, ew, hw⟩ := h.wide
  unfold r_law_take
  walk_at "mp_s"
  refine bx_rest e ?_
  walk_at "mp_s"
  refine ite_cc (fun c => ?_) fun c => ?_
  · walk_at "mp_s"
    refine bx_wide e ?_
    walk_at "mp_s"
    refine gNeE_nil (vw_l ew) ?_
    walk_at "mp_s"
    cases ws with
    | nil =>
      walk_at "mp_s"
      refine mixed_ok h hn fun r1 S1 p1 d1 s1 => ?_
      walk_at "mp_s"
      obtain ⟨cs1, r2, t2, e2, hc2, r02, t02, tn2⟩ := d1.box
      refine st_rest e2 ?_
      refine take_end (a := a) (w := w) (n := n + 1) (many := many) ⟨h.ne, ⟨cs1, r1, t2, set_at, hc2, p1, t02, tn2⟩, ?_⟩ hm hm2 rfl fun r S' x0 x1 d2 s2 => q r S' x0 x1 d2 ((same_set s1).trans s2)
      obtain ⟨ws1, ew1, hw1⟩ := d1.wide
      exact ⟨ws1, by rw [set_off h.ne.symm]; exact ew1, hw1⟩
    | cons x xs =>
      refine ite_t rfl ?_
      refine evM_i ?_
      walk_at "mp_s"
      refine bx_wide e ?_
      refine ⟨by rw [vw_l ew]; rfl, ?_⟩
      walk_at "mp_s"
      refine pop_ok ew ?_
      walk_at "mp_s"
      have x0 : 0 ≤ x := hw x List.mem_cons_self
      refine st_rest (w := w) (cs := cs) (r := r) (t := t) (by rw [set_off h.ne]; exact e) ?_
      refine take_end (a := a) (w := w) (n := n + 1) (many := many) ⟨h.ne, ⟨cs, x, t, set_at, hc, x0, t0, by omega⟩, ⟨xs, by rw [set_off h.ne.symm, set_at], fun y hy => hw y (List.mem_cons_of_mem _ hy)⟩⟩ hm hm2 rfl fun r S' x0 x1 d2 s2 => q r S' x0 x1 d2 ((same_set (same_setw (Same.refl S a w))).trans s2)
  · walk_at "mp_s"
    exact take_end (h.mono (Nat.le_succ n)) hm hm2 rfl q
theorem atI_ok {xs : List D} {r : Int} (h0 : 0 ≤ r) (h1 : r < xs.length) : ∃ x, x ∈ xs ∧ atI xs r = some x := by
  have hl : r.toNat < xs.length := by omega
  refine ⟨xs[r.toNat], List.getElem_mem hl, ?_⟩
  unfold atI ixN
  rw [if_pos h0, if_pos h1]
  exact List.getElem?_eq_getElem hl
theorem pick_ok {a w : Addr} {n : Nat} {xs : List D} (h : Dr S a w n) (hn : n < 2 ^ 40) (h0 : xs ≠ []) (h1 : xs.length < 1073741824) (q : ∀ x S', x ∈ xs → Dr S' a w (n + 1) → Same S S' a w → Q x S') : r_law_pick A [.ref a, .lst xs] S Q E := by
  have l0 : 0 < xs.length := List.length_pos_iff.mpr h0
  unfold r_law_pick
  walk_at "mp_s"
  refine take_ok h hn (by omega) (by omega) fun r S' r0 r1 d1 s1 => ?_
  obtain ⟨x, hx, e⟩ := atI_ok r0 r1
  refine gIx_l e ?_
  exact q x S' hx d1 s1
def ab (x : Int) : Int := if x < 0 then -x else x
theorem ab0 (x : Int) : 0 ≤ ab x := by unfold ab; split <;> omega
theorem begun_ok {ns : List Int} (hl : ns.length ≤ 64) (q : ∀ a w S', Dr S' a w 0 → Same S S' a w → S a = none → S w = none → Q (.ref a) S') : r_law_begun A [.kls (ns.map .int)] S Q E := by
  have hz : ns.length ≤ sizeLine := Nat.le_trans hl (by decide)
  unfold r_law_begun
  walk_at "mp_s"
  refine comp_map D.int (fun x => decide ((10 : Int) ^ (18 : Int).toNat ≤ ab x)) (fun x => .int (ab x - (10 : Int) ^ (18 : Int).toNat)) ns [] (fun x hx k q => ?_) (fun x hx e k q => ?_) (by simpa using hz) ?_
  · walk_at "mp_s"
    refine gPow_i ⟨by decide, by decide, by decide⟩ ?_
    walk_at "mp_s"
    exact q
  · walk_at "mp_s"
    refine gPow_i ⟨by decide, by decide, by decide⟩ ?_
    walk_at "mp_s"
    exact q
  refine mkM_i fun w hw => ?_
  walk_at "mp_s"
  refine comp_all D.int (fun x => .int (ab x % 2147483629)) ns (fun x hx k q => ?_) hz ?_
  · walk_at "mp_s"
    refine gMod_i (by decide) ?_
    walk_at "mp_s"
    exact q
  walk_at "mp_s"
  refine mkDM_i fun a ha => ?_
  walk_at "mp_s"
  have ne : a ≠ w := fun z => by rw [z, set_at] at ha; cases ha
  rw [set_off ne] at ha
  refine q a w _ ⟨ne, ⟨ns.map fun x => ab x % 2147483629, 0, 0, ?_, ?_, by decide, by decide, by decide⟩, ⟨(ns.filter fun x => decide ((10 : Int) ^ (18 : Int).toNat ≤ ab x)).map fun x => ab x - (10 : Int) ^ (18 : Int).toNat, ?_, ?_⟩⟩ (same_set (same_setw (Same.refl S a w))) ha hw
  · rw [set_at]
    unfold box
    rw [List.map_map]
    rfl
  · intro c hc
    obtain ⟨x, -, rfl⟩ := List.mem_map.mp hc
    exact And.intro (Int.emod_nonneg _ (by decide)) (Int.emod_lt_of_pos _ (by decide))
  · rw [set_off ne.symm, set_at, List.map_map]
    rfl
  · intro c hc
    obtain ⟨x, hx, rfl⟩ := List.mem_map.mp hc
    have := of_decide_eq_true (List.mem_filter.mp hx).2
    omega
/-! .. with so many draws left -/
def Dg (S : Store) (a w : Addr) (b : Nat) : Prop := ∃ n, Dr S a w n ∧ n + b < 2 ^ 40
theorem Dg.mono {a w : Addr} {b c : Nat} (h : Dg S a w b) (l : c ≤ b) : Dg S a w c := let ⟨n, d, e⟩ := h; ⟨n, d, by omega⟩
theorem Dg.ne {a w : Addr} {b : Nat} (h : Dg S a w b) : a ≠ w := let ⟨_, d, _⟩ := h; d.ne
theorem Dg.at {a w : Addr} {b : Nat} (h : Dg S a w b) : S a ≠ none := let ⟨_, d, _⟩ := h; let ⟨_, _, _, e, _⟩ := d.box; by rw [e]; exact fun z => nomatch z
theorem Dg.wt {a w : Addr} {b : Nat} (h : Dg S a w b) : S w ≠ none := let ⟨_, d, _⟩ := h; let ⟨_, e, _⟩ := d.wide; by rw [e]; exact fun z => nomatch z
theorem Dg.set {a w c : Addr} {b : Nat} {o : SO} (h : Dg S a w b) (n1 : c ≠ a) (n2 : c ≠ w) : Dg (S.set c o) a w b := by
  obtain ⟨n, d, e⟩ := h
  refine ⟨n, ⟨d.ne, ?_, ?_⟩, e⟩
  · obtain ⟨cs, r, t, e, x⟩ := d.box
    exact ⟨cs, r, t, by rw [set_off (Ne.symm n1)]; exact e, x⟩
  · obtain ⟨ws, e, x⟩ := d.wide
    exact ⟨ws, by rw [set_off (Ne.symm n2)]; exact e, x⟩
theorem Dg.del {a w c : Addr} {b : Nat} (h : Dg S a w b) (n1 : c ≠ a) (n2 : c ≠ w) : Dg (S.del c) a w b := by
  obtain ⟨n, d, e⟩ := h
  refine ⟨n, ⟨d.ne, ?_, ?_⟩, e⟩
  · obtain ⟨cs, r, t, e, x⟩ := d.box
    exact ⟨cs, r, t, by rw [Store.del_ne (Ne.symm n1)]; exact e, x⟩
  · obtain ⟨ws, e, x⟩ := d.wide
    exact ⟨ws, by rw [Store.del_ne (Ne.symm n2)]; exact e, x⟩
/-- all else is kept -/
def Kp (S S' : Store) (a w : Addr) : Prop := ∀ b o, b ≠ a → b ≠ w → S b = some o → S' b = some o
theorem Same.kp {S S' : Store} {a w : Addr} (h : Same S S' a w) : Kp S S' a w := fun b o n1 n2 e => by rw [h b n1 n2]; exact e
theorem Kp.refl (S : Store) (a w : Addr) : Kp S S a w := fun _ _ _ _ e => e
theorem Kp.trans {S S1 S2 : Store} {a w : Addr} (h : Kp S S1 a w) (k : Kp S1 S2 a w) : Kp S S2 a w := fun b o x y e => k b o x y (h b o x y e)
/-- a place that is free behind was free ahead -/
theorem Kp.free {S S' : Store} {a w c : Addr} {b : Nat} (h : Kp S S' a w) (d : Dg S' a w b) (e : S' c = none) : S c = none ∧ c ≠ a ∧ c ≠ w := by
  have n1 : c ≠ a := fun z => d.at (by rw [← z]; exact e)
  have n2 : c ≠ w := fun z => d.wt (by rw [← z]; exact e)
  refine ⟨?_, n1, n2⟩
  cases q : S c with
  | none => rfl
  | some o => rw [h c o n1 n2 q] at e; cases e
theorem Kp.set {S S' : Store} {a w c : Addr} {o : SO} (h : Kp S S' a w) (e : S c = none) : Kp S (S'.set c o) a w := fun b u n1 n2 eb => by
  have nc : b ≠ c := fun z => by rw [z, e] at eb; cases eb
  rw [set_off nc]
  exact h b u n1 n2 eb
theorem Kp.del {S S' : Store} {a w c : Addr} (h : Kp S S' a w) (e : S c = none) : Kp S (S'.del c) a w := fun b u n1 n2 eb => by
  have nc : b ≠ c := fun z => by rw [z, e] at eb; cases eb
  rw [Store.del_ne nc]
  exact h b u n1 n2 eb
theorem take_g {a w : Addr} {b : Nat} {many : Int} (h : Dg S a w (b + 1)) (hm : 0 < many) (hm2 : many < 1073741824) (q : ∀ r S', 0 ≤ r → r < many → Dg S' a w b → Kp S S' a w → Q (.int r) S') : r_law_take A [.ref a, .int many] S Q E := by
  obtain ⟨n, d, e⟩ := h
  exact take_ok d (by omega) hm hm2 fun r S' r0 r1 d' s => q r S' r0 r1 ⟨n + 1, d', by omega⟩ s.kp
theorem pick_g {a w : Addr} {b : Nat} {xs : List D} (h : Dg S a w (b + 1)) (h0 : xs ≠ []) (h1 : xs.length < 1073741824) (q : ∀ x S', x ∈ xs → Dg S' a w b → Kp S S' a w → Q x S') : r_law_pick A [.ref a, .lst xs] S Q E := by
  obtain ⟨n, d, e⟩ := h
  exact pick_ok d (by omega) h0 h1 fun x S' hx d' s => q x S' hx ⟨n + 1, d', by omega⟩ s.kp
theorem begun_g {ns : List Int} {b : Nat} (hb : b < 2 ^ 40) (hl : ns.length ≤ 64) (q : ∀ a w S', Dg S' a w b → Kp S S' a w → Q (.ref a) S') : r_law_begun A [.kls (ns.map .int)] S Q E :=
  begun_ok hl fun a w S' d s ha hw => q a w S' ⟨0, d, by omega⟩ s.kp
end K24

set_option Elab.async false
set_option linter.all false
set_option maxRecDepth 100000
set_option maxHeartbeats 8100000
/-! what the mirrors compute: the classes of an error -/
namespace K24
open PySem PySem.Spec PyProof.Rows L2 MP
variable {A : Ad} {S : Store} {Q : Post} {E : XPost}

theorem comp_two {i j : Nat} {ρ : MP.Env} {t : EB} {f : ET} {K : List D → Store → Prop} (p : D × D → Bool) (out : D × D → D) : ∀ (xs : List (D × D)) (acc : List D),
    (∀ x ∈ xs, ∀ k : Bool → Store → Prop, k (p x) S → t (st (st ρ i (some x.1)) j (some x.2)) S k (fun _ _ => False)) →
    (∀ x ∈ xs, p x = true → ∀ k : Post, k (out x) S → f (st (st ρ i (some x.1)) j (some x.2)) S k (fun _ _ => False)) →
    acc.length + xs.length ≤ sizeLine → K (acc ++ (xs.filter p).map out) S → comp (dgTup 2 (dgCons (dgName i) (dgCons (dgName j) dgNil))) t f K (xs.map fun x => .tup [x.1, x.2]) acc ρ S
  | [], acc, _, _, _, q => by
    show K acc S
    simpa using q
  | x :: xs, acc, h1, h2, hl, q => by
    have ih := fun acc => comp_two (K := K) p out xs acc (fun y hy => h1 y (List.mem_cons_of_mem _ hy)) (fun y hy => h2 y (List.mem_cons_of_mem _ hy))
    refine dgTup_i rfl (dgCons_i (dgName_i (dgCons_i (dgName_i (dgNil_i ?_)))))
    refine h1 x List.mem_cons_self _ ?_
    by_cases e : p x = true
    · refine ite_t e (h2 x List.mem_cons_self e _ ⟨by simp only [List.length_cons] at hl; omega, ih _ (by simp only [List.length_append, List.length_cons, List.length_nil] at hl ⊢; omega) ?_⟩)
      rw [List.filter_cons_of_pos e] at q
      simpa using q
    · refine ite_f (by simpa using e) (ih _ (by simp only [List.length_cons] at hl; omega) ?_)
      rw [List.filter_cons_of_neg e] at q
      exact q
def enumI (k : Nat) : List D → List (D × D)
  | [] => []
  | d :: ds => (.int k, d) :: enumI (k + 1) ds
theorem enumI_eq (k : Nat) : ∀ ds : List D, enumD k ds = (enumI k ds).map fun x => .tup [x.1, x.2]
  | [] => rfl
  | d :: ds => by
    show .tup [.int k, d] :: enumD (k + 1) ds = _
    rw [enumI_eq (k + 1) ds]
    rfl
theorem enumL_v {n : Nat} {xs : List D} {ρ : MP.Env} {Q : List D → Store → Prop} {E : XPost} (e : lk ρ n = some (.lst xs)) (q : Q ((enumI 0 xs).map fun x => .tup [x.1, x.2]) S) : iEnumL (aCons (evV n) aNil) ρ S Q E := by
  rw [← enumI_eq] at q
  exact aCons_i (evV_i e (aNil_i q))
def isT : D → Bool
  | .bl b => b
  | _ => false
/-- whether it is an error of each class of the row -/
def fRow (i : Nat) : Nat → D := fun j => .bl ((below i).contains j)
def upto (n : Nat) : List Nat := (List.range n).map (fun k => k + 1)
def row (i : Nat) : List D := (upto 89).map (fRow i)
theorem row_eq (i : Nat) : row i = (List.range 89).map fun k => .bl ((below i).contains (k + 1)) := by
  unfold row
  unfold upto
  rw [List.map_map]
  rfl
def hits (i : Nat) : List Nat := (List.range 89).filter fun k => (below i).contains (k + 1)
theorem hits_one : ∀ i, i < 90 → 0 < i → hits i = [i - 1] := by decide +kernel
theorem row_hits (i : Nat) : ((enumI 0 (row i)).filter fun x => isT x.2).map (·.1) = (hits i).map fun (k : Nat) => D.int k := by
  have g : ∀ (m s : Nat), ((enumI s ((List.range' s m).map fun k => D.bl ((below i).contains (k + 1)))).filter fun x => isT x.2).map (·.1) = ((List.range' s m).filter fun k => (below i).contains (k + 1)).map fun (k : Nat) => D.int k := by
    intro m
    induction m with
    | zero => intro s; rfl
    | succ m ih =>
      intro s
      rw [List.range'_succ, List.map_cons]
      show List.map (·.1) (List.filter (fun x => isT x.2) ((.int s, .bl ((below i).contains (s + 1))) :: enumI (s + 1) _)) = _
      cases h : (below i).contains (s + 1) with
      | true =>
        rw [List.filter_cons_of_pos (by rfl), List.filter_cons_of_pos (by exact h), List.map_cons, List.map_cons, ih (s + 1)]
      | false =>
        rw [List.filter_cons_of_neg (by intro z; cases z), List.filter_cons_of_neg (by rw [h]; intro z; cases z), ih (s + 1)]
  have e := g 89 0
  rw [← List.range_eq_range'] at e
  rw [row_eq]
  exact e
def isiT (A : Ad) (j : Nat) : ET := evB (gIsi (subT A) (exT_ A)) (aCons (evV 0) (aCons (evC (.ref (A.cls j))) (aNil)))
def rowT (A : Ad) : List Nat → EA
  | [] => aNil
  | j :: js => aCons (isiT A j) (rowT A js)
theorem rowT_ok (hA : A.Ok) {i : Nat} {a : Addr} {ks : List Str} {xs : List D} (hi : i < 90) {ρ : MP.Env} (e : lk ρ 0 = some (.exn (.ref (A.cls i)) a ks xs)) : ∀ (js : List Nat) (_ : ∀ j ∈ js, j < 90) {QA : List D → Store → Prop} (_ : QA (js.map (fRow i)) S), rowT A js ρ S QA E
  | [], _, _, q => aNil_i q
  | j :: js, h, _, q => aCons_i (evB_i (aCons_i (evV_i e (aCons_i (evC_i (aNil_i (isi_exn hA hi (h j List.mem_cons_self) (rowT_ok hA hi e js (fun j h2 => h j (List.mem_cons_of_mem _ h2)) q))))))))
theorem grp (hA : A.Ok) {i : Nat} {a : Addr} {ks : List Str} {xs : List D} (hi : i < 90) {N : DEnds} (js0 js js2 : List Nat) (e2 : js0 ++ js = js2) (hl : js0.length + js.length ≤ 1000) (h : ∀ j ∈ js, j < 90)
    (q : N.nx [some (.exn (.ref (A.cls i)) a ks xs), some (.lst (js2.map (fRow i))), none, none] S) : dSet 1 (bin (gAddT mkF) (evV 1) (evLst mkF (rowT A js))) [some (.exn (.ref (A.cls i)) a ks xs), some (.lst (js0.map (fRow i))), none, none] S N := by
  subst e2
  refine dSet_i (bin_i (evV_i rfl (evLst_i (rowT_ok hA hi rfl js h (mkF_i (gAddT_l ?_ (mkF_i ?_)))))))
  · rw [List.length_map, List.length_map]
    exact le_line1 hl
  · rw [← List.map_append]
    exact q
theorem grp0 (hA : A.Ok) {i : Nat} {a : Addr} {ks : List Str} {xs : List D} (hi : i < 90) {N : DEnds} {js : List Nat} (js1 : List Nat) (e : js1 = js) (h : ∀ j ∈ js1, j < 90)
    (q : N.nx [some (.exn (.ref (A.cls i)) a ks xs), some (.lst (js.map (fRow i))), none, none] S) : dSet 1 (evLst mkF (rowT A js1)) [some (.exn (.ref (A.cls i)) a ks xs), none, none, none] S N := by
  subst e
  exact dSet_i (evLst_i (rowT_ok hA hi rfl js1 h (mkF_i q)))
theorem grp0S (hA : A.Ok) {i : Nat} {a : Addr} {ks : List Str} {xs : List D} (hi : i < 90) {N : DEnds} {g : ST} {js : List Nat} (js1 : List Nat) (e : js1 = js) (h : ∀ j ∈ js1, j < 90)
    (q : g [some (.exn (.ref (A.cls i)) a ks xs), some (.lst (js.map (fRow i))), none, none] S N) : dSeq (dSet 1 (evLst mkF (rowT A js1))) g [some (.exn (.ref (A.cls i)) a ks xs), none, none, none] S N := dSeq_i (grp0 hA hi js1 e h q)
theorem grpS (hA : A.Ok) {i : Nat} {a : Addr} {ks : List Str} {xs : List D} (hi : i < 90) {N : DEnds} {g : ST} (js0 js js2 : List Nat) (e2 : js0 ++ js = js2) (hl : js0.length + js.length ≤ 1000) (h : ∀ j ∈ js, j < 90)
    (q : g [some (.exn (.ref (A.cls i)) a ks xs), some (.lst (js2.map (fRow i))), none, none] S N) : dSeq (dSet 1 (bin (gAddT mkF) (evV 1) (evLst mkF (rowT A js)))) g [some (.exn (.ref (A.cls i)) a ks xs), some (.lst (js0.map (fRow i))), none, none] S N := dSeq_i (grp hA hi js0 js js2 e2 hl h q)
theorem classes_ok (hA : A.Ok) {e : Er} (h0 : 0 < e.1) (h1 : e.1 < 90) (q : Q (.lst [.int ((e.1 : Int) - 1)]) S) : r_law_classes A [encE A e] S Q E := by
  obtain ⟨i, a, ks, xs⟩ := e
  have h0 : 0 < i := h0
  have h1 : i < 90 := h1
  unfold r_law_classes encE
  refine runF_i ?_
  show dSeq _ _ [some (.exn (.ref (A.cls i)) a ks xs), none, none, none] _ _
  refine grp0S hA h1 (js := upto 5) [1, 2, 3, 4, 5] (by decide) (by decide) ?_
  refine grpS hA h1 (upto 5) [6, 7, 8, 9, 10] (upto 10) (by decide) (by decide) (by decide) ?_
  refine grpS hA h1 (upto 10) [11, 12, 13, 14, 15] (upto 15) (by decide) (by decide) (by decide) ?_
  refine grpS hA h1 (upto 15) [16, 17, 18, 19, 20] (upto 20) (by decide) (by decide) (by decide) ?_
  refine grpS hA h1 (upto 20) [21, 22, 23, 24, 25] (upto 25) (by decide) (by decide) (by decide) ?_
  refine grpS hA h1 (upto 25) [26, 27, 28, 29, 30] (upto 30) (by decide) (by decide) (by decide) ?_
  refine grpS hA h1 (upto 30) [31, 32, 33, 34, 35] (upto 35) (by decide) (by decide) (by decide) ?_
  refine grpS hA h1 (upto 35) [36, 37, 38, 39, 40] (upto 40) (by decide) (by decide) (by decide) ?_
  refine grpS hA h1 (upto 40) [41, 42, 43, 44, 45] (upto 45) (by decide) (by decide) (by decide) ?_
  refine grpS hA h1 (upto 45) [46, 47, 48, 49, 50] (upto 50) (by decide) (by decide) (by decide) ?_
  refine grpS hA h1 (upto 50) [51, 52, 53, 54, 55] (upto 55) (by decide) (by decide) (by decide) ?_
  refine grpS hA h1 (upto 55) [56, 57, 58, 59, 60] (upto 60) (by decide) (by decide) (by decide) ?_
  refine grpS hA h1 (upto 60) [61, 62, 63, 64, 65] (upto 65) (by decide) (by decide) (by decide) ?_
  refine grpS hA h1 (upto 65) [66, 67, 68, 69, 70] (upto 70) (by decide) (by decide) (by decide) ?_
  refine grpS hA h1 (upto 70) [71, 72, 73, 74, 75] (upto 75) (by decide) (by decide) (by decide) ?_
  refine grpS hA h1 (upto 75) [76, 77, 78, 79, 80] (upto 80) (by decide) (by decide) (by decide) ?_
  refine grpS hA h1 (upto 80) [81, 82, 83, 84, 85] (upto 85) (by decide) (by decide) (by decide) ?_
  refine grpS hA h1 (upto 85) [86, 87, 88, 89] (upto 89) (by decide) (by decide) (by decide) ?_
  rw [show (upto 89).map (fRow i) = row i from rfl]
  walk_at "mp_s"
  refine enumL_v (xs := row i) rfl ?_
  refine comp_two (fun x => isT x.2) (fun x => x.1) (enumI 0 (row i)) [] (fun x hx k hk => ?_) (fun x _ _ k hk => evV_i rfl hk) ?_ ?_
  · obtain ⟨b, hb⟩ : ∃ b, x.2 = .bl b := by
      have m : ∀ (ds : List D) (s : Nat), (∀ d ∈ ds, ∃ b, d = .bl b) → ∀ x ∈ enumI s ds, ∃ b, x.2 = .bl b := by
        intro ds
        induction ds with
        | nil => intro s _ x hx; cases hx
        | cons d ds ih =>
          intro s hd x hx
          rcases List.mem_cons.mp hx with rfl | hx
          · exact hd _ List.mem_cons_self
          · exact ih (s + 1) (fun d h => hd d (List.mem_cons_of_mem _ h)) x hx
      refine m (row i) 0 (fun d hd => ?_) x hx
      rw [row_eq] at hd
      obtain ⟨k, _, rfl⟩ := List.mem_map.mp hd
      exact ⟨_, rfl⟩
    rw [hb] at hk ⊢
    exact bV_i (evV_i rfl (onT_bl hk))
  · have l : ∀ (ds : List D) (s : Nat), (enumI s ds).length = ds.length := by
      intro ds
      induction ds with
      | nil => intro s; rfl
      | cons d ds ih => intro s; show (enumI (s + 1) ds).length + 1 = _; rw [ih]; rfl
    rw [l]
    rw [row_eq, List.length_map, List.length_range]
    decide
  · rw [List.nil_append, row_hits, hits_one i h1 h0]
    rw [show (i : Int) - 1 = ((i - 1 : Nat) : Int) by omega] at q
    exact q
end K24

set_option Elab.async false
set_option linter.all false
set_option maxRecDepth 100000
set_option maxHeartbeats 8100000
/-! what the mirrors compute: errors that bear attributes -/
namespace K24
open PySem PySem.Spec PyProof.Rows L2 MP
variable {A : Ad} {S : Store} {Q : Post} {E : XPost}

def someP : List PyData := [.none, .int 0, .int (-7), .str "x", .str "", .tuple [.int 1, .int 2], .list [.int 3], .dict [(.str "a", .int 4)], .bool true, .int 100000000000000000000]
def okP (ps : List PyData) : Bool := (PyData.list ps).showable && (decide ((PyData.list ps).depth ≤ 64) && decide ((PyData.list ps).shown.length ≤ sizeLine))
theorem all_shown : (someP.all fun p => someP.all fun r => okP [p] && (okP [p, r] && (okP [p, r, .tuple [p, r]] && okP [p, r, .tuple [p, r], .list [p]]))) = true := by decide +kernel
def Shw (m : List D) : Prop := ∃ ps, toPyX (.lst m) = some (.list ps) ∧ okP ps = true
theorem shown_4 {one other : D} {p r : PyData} (h1 : toPyX one = some p) (h2 : toPyX other = some r) (m1 : p ∈ someP) (m2 : r ∈ someP) : Shw [one] ∧ Shw [one, other] ∧ Shw [one, other, .tup [one, other]] ∧ Shw [one, other, .tup [one, other], .lst [one]] := by
  have z := List.all_eq_true.mp (List.all_eq_true.mp all_shown p m1) r m2
  simp only [Bool.and_eq_true] at z
  obtain ⟨z1, z2, z3, z4⟩ := z
  refine ⟨⟨[p], ?_, z1⟩, ⟨[p, r], ?_, z2⟩, ⟨[p, r, .tuple [p, r]], ?_, z3⟩, ⟨[p, r, .tuple [p, r], .list [p]], ?_, z4⟩⟩ <;> simp [toPyX, toPysX, h1, h2]
theorem repr_ok {m : List D} (h : Shw m) : ∃ s, ∀ (Q : Post), Q (.str s) S → gReprX [.lst m] S Q := by
  obtain ⟨ps, e, h⟩ := h
  unfold okP at h
  simp only [Bool.and_eq_true, decide_eq_true_eq] at h
  exact ⟨_, fun Q q => gReprX_i e h.1 h.2.1 h.2.2 q⟩
theorem append_ok {p : Addr} {y : D} {xs : List D} (h : S p = some (.lst xs)) (hl : xs.length < sizeLine) (q : Q .non (S.set p (.lst (xs ++ [y])))) : mAppend (.ref p) [y] S Q := by
  unfold mAppend onL
  simp only [h]
  exact ⟨hl, q⟩
def But (S S' : Store) (p : Addr) : Prop := ∀ b, b ≠ p → S' b = S b
theorem But.set {S S' : Store} {p : Addr} {o : SO} (h : But (S.set p o) S' p) : But S S' p := fun b n => by rw [h b n, set_off n]
abbrev Te : Type := Er × List D
def encT (A : Ad) (z : Te) : D := .tup [encE A z.1, .lst z.2, .lst z.2]
theorem fx_BadBits_at : fxT A (A.cls 6) "at" = true := by unfold fxT; simp
theorem fx_BadEdits_at : fxT A (A.cls 12) "at" = true := by unfold fxT; simp
theorem fx_BadForks_at : fxT A (A.cls 15) "at" = true := by unfold fxT; simp
theorem fx_BadLots_word : fxT A (A.cls 23) "word" = true := by unfold fxT; simp
theorem fx_BadSplit_path : fxT A (A.cls 44) "path" = true := by unfold fxT; simp
theorem fx_BadText_line : fxT A (A.cls 50) "line" = true := by unfold fxT; simp
theorem fx_BadText_column : fxT A (A.cls 50) "column" = true := by unfold fxT; simp
theorem fx_BadText_wanted : fxT A (A.cls 50) "wanted" = true := by unfold fxT; simp
theorem fx_BadWishes_at : fxT A (A.cls 54) "at" = true := by unfold fxT; simp
theorem fx_Broken_breach : fxT A (A.cls 58) "breach" = true := by unfold fxT; simp
theorem fx_Collides_first : fxT A (A.cls 59) "first" = true := by unfold fxT; simp
theorem fx_Collides_second : fxT A (A.cls 59) "second" = true := by unfold fxT; simp
theorem fx_Faulty_fault : fxT A (A.cls 61) "fault" = true := by unfold fxT; simp
theorem fx_IsSure_price : fxT A (A.cls 62) "price" = true := by unfold fxT; simp
theorem fx_NoFit_line : fxT A (A.cls 65) "line" = true := by unfold fxT; simp
theorem fx_NoFit_column : fxT A (A.cls 65) "column" = true := by unfold fxT; simp
theorem fx_NoFit_low : fxT A (A.cls 65) "low" = true := by unfold fxT; simp
theorem fx_NoFit_high : fxT A (A.cls 65) "high" = true := by unfold fxT; simp
theorem fx_NoPlace_at : fxT A (A.cls 66) "at" = true := by unfold fxT; simp
theorem fx_NoRing_name : fxT A (A.cls 68) "name" = true := by unfold fxT; simp
theorem fx_NotGood_number : fxT A (A.cls 72) "number" = true := by unfold fxT; simp
theorem fx_NotWritten_worth : fxT A (A.cls 78) "worth" = true := by unfold fxT; simp
theorem fx_OpenWorth_point : fxT A (A.cls 84) "point" = true := by unfold fxT; simp
theorem fx_TooMany_most : fxT A (A.cls 87) "most" = true := by unfold fxT; simp
theorem fx_Wrong_path : fxT A (A.cls 89) "path" = true := by unfold fxT; simp
theorem fx_Wrong_word : fxT A (A.cls 89) "word" = true := by unfold fxT; simp
section
variable {one other x3 : D} {ρ : MP.Env} {QA : List D → Store → Prop}
theorem args1 (h0 : lk ρ 0 = some one) (k : QA [one] S) : aCons (evV 0) aNil ρ S QA E := aCons_i (evV_i h0 (aNil_i k))
theorem args2 (h0 : lk ρ 0 = some one) (h1 : lk ρ 1 = some other) (k : QA [one, other] S) : aCons (evV 0) (aCons (evV 1) aNil) ρ S QA E := aCons_i (evV_i h0 (aCons_i (evV_i h1 (aNil_i k))))
theorem args3 (h0 : lk ρ 0 = some one) (h1 : lk ρ 1 = some other) (k : QA [one, other, .tup [one, other]] S) : aCons (evV 0) (aCons (evV 1) (aCons (evTup (aCons (evV 0) (aCons (evV 1) aNil))) aNil)) ρ S QA E := aCons_i (evV_i h0 (aCons_i (evV_i h1 (aCons_i (evTup_i (args2 h0 h1 (aNil_i k)))))))
theorem args4 (h0 : lk ρ 0 = some one) (h1 : lk ρ 1 = some other) (k : QA [one, other, .tup [one, other], .lst [one]] S) : aCons (evV 0) (aCons (evV 1) (aCons (evTup (aCons (evV 0) (aCons (evV 1) aNil))) (aCons (evLst mkF (aCons (evV 0) aNil)) aNil))) ρ S QA E := aCons_i (evV_i h0 (aCons_i (evV_i h1 (aCons_i (evTup_i (args2 h0 h1 (aCons_i (evLst_i (args1 h0 (mkF_i (aNil_i k)))))))))))
end
theorem told_one {S0 : Store} {one other : D} {x3 : Option D} {P : Addr} (i : Nat) (fs : List Str) (ds ms : List D) {fa ga ha : EA} {g : ST} {N : DEnds} {zs : List Te} (e : S P = some (.lst (zs.map (encT A)))) (b : But S0 S P) (hl : zs.length ≤ 100)
    (hf : ∀ (QA : List D → Store → Prop) (E : XPost), QA ds S → fa [some one, some other, some (.ref P), x3] S QA E)
    (hg : ∀ (a : Addr) (QA : List D → Store → Prop) (E : XPost), QA ms S → ga [some one, some other, some (.ref P), some (.exn (.ref (A.cls i)) a fs.reverse ds.reverse)] S QA E)
    (hh : ∀ (a : Addr) (QA : List D → Store → Prop) (E : XPost), QA ms S → ha [some one, some other, some (.ref P), some (.exn (.ref (A.cls i)) a fs.reverse ds.reverse)] S QA E)
    (q : ∀ (a : Addr) (S' : Store), S' P = some (.lst ((zs ++ [((i, a, fs.reverse, ds.reverse), ms)]).map (encT A))) → But S0 S' P → g [some one, some other, some (.ref P), some (.exn (.ref (A.cls i)) a fs.reverse ds.reverse)] S' N) :
    dSeq (dSet 3 (evNewI (A.cls i) fs fa)) (dSeq (dExpr (evM "list" mAppend (evV 2) (aCons (evTup (aCons (evV 3) (aCons (evLst mkF ga) (aCons (evLst mkF ha) aNil)))) aNil))) g) [some one, some other, some (.ref P), x3] S N := by
  refine dSeq_i (dSet_i (evNewI_i (hf _ _ fun a => ?_)))
  have hst : MP.st [some one, some other, some (.ref P), x3] 3 (some (.exn (.ref (A.cls i)) a fs.reverse ds.reverse)) = [some one, some other, some (.ref P), some (.exn (.ref (A.cls i)) a fs.reverse ds.reverse)] := rfl
  dsimp only []
  rw [hst]
  refine dSeq_i ?_
  refine dExpr_i ?_
  refine evM_i ?_
  refine evV_i rfl ?_
  refine ⟨by rw [vw_l e]; rfl, ?_⟩
  refine aCons_i ?_
  refine evTup_i ?_
  refine aCons_i ?_
  refine evV_i rfl ?_
  refine aCons_i ?_
  refine evLst_i ?_
  refine hg a _ _ ?_
  refine mkF_i ?_
  refine aCons_i ?_
  refine evLst_i ?_
  refine hh a _ _ ?_
  refine mkF_i ?_
  refine aNil_i ?_
  refine aNil_i ?_
  refine append_ok e (Nat.lt_of_le_of_lt (m := 100) (by rw [List.length_map]; exact hl) (by decide)) ?_
  show g [some one, some other, some (.ref P), some (.exn (.ref (A.cls i)) a fs.reverse ds.reverse)] _ N
  refine q a _ ?_ (fun c n => (set_off n).trans (b c n))
  rw [List.map_append]
  exact set_at
theorem told_end {one other : D} {P : Addr} {x3 : Option D} {K : Post} {X : XPost} (q : K (.ref P) S) : (dRet (evV 2)) [some one, some other, some (.ref P), x3] S { nx := fun _ S' => K .non S', rt := K, ex := fun x _ S' => X x S' } := dRet_i (evV_i rfl q)
theorem told_begin {one other : D} {g : ST} {K : Post} {X : XPost} (q : ∀ P, S P = none → g [some one, some other, some (.ref P), none] (S.set P (.lst (([] : List Te).map (encT A)))) { nx := fun _ S' => K .non S', rt := K, ex := fun x _ S' => X x S' }) : runF 4 (dSeq (dSet 2 (evLst mkM (aNil))) g) [one, other] S K X :=
  runF_i (dSeq_i (dSet_i (evLst_i (aNil_i (mkM_i fun P hP => q P hP)))))
theorem told_ok {one other : D} {p r : PyData} (h1 : toPyX one = some p) (h2 : toPyX other = some r) (m1 : p ∈ someP) (m2 : r ∈ someP) (q : ∀ (P : Addr) (S' : Store) (zs : List Te), S P = none → But S S' P → zs.map (·.1.1) = toldIx → (∀ z ∈ zs, Shw z.2) → S' P = some (.lst (zs.map (encT A))) → Q (.ref P) S') : r_law_told_errors A [one, other] S Q E := by
  obtain ⟨w1, w2, w3, w4⟩ := shown_4 h1 h2 m1 m2
  unfold r_law_told_errors
  refine told_begin (A := A) fun P hP => ?_
  have e0 : (S.set P (.lst (([] : List Te).map (encT A)))) P = some (.lst (([] : List Te).map (encT A))) := set_at
  have b0 : But S (S.set P (.lst (([] : List Te).map (encT A)))) P := fun b n => set_off n
  refine told_one 6 ["at"] [one] [one] e0 b0 (by simp only [List.length_append, List.length_cons, List.length_nil]; decide) (fun QA E k => args1 rfl k) (fun a QA E k => aCons_i (xf_at fx_BadBits_at rfl (fun Q E k => evV_i rfl k) (aNil_i k))) (fun a QA E k => args1 rfl k) fun a0 S1 e1 b1 => ?_
  refine told_one 12 ["at"] [one] [one] e1 b1 (by simp only [List.length_append, List.length_cons, List.length_nil]; decide) (fun QA E k => args1 rfl k) (fun a QA E k => aCons_i (xf_at fx_BadEdits_at rfl (fun Q E k => evV_i rfl k) (aNil_i k))) (fun a QA E k => args1 rfl k) fun a1 S2 e2 b2 => ?_
  refine told_one 15 ["at"] [one] [one] e2 b2 (by simp only [List.length_append, List.length_cons, List.length_nil]; decide) (fun QA E k => args1 rfl k) (fun a QA E k => aCons_i (xf_at fx_BadForks_at rfl (fun Q E k => evV_i rfl k) (aNil_i k))) (fun a QA E k => args1 rfl k) fun a2 S3 e3 b3 => ?_
  refine told_one 23 ["word"] [one] [one] e3 b3 (by simp only [List.length_append, List.length_cons, List.length_nil]; decide) (fun QA E k => args1 rfl k) (fun a QA E k => aCons_i (xf_at fx_BadLots_word rfl (fun Q E k => evV_i rfl k) (aNil_i k))) (fun a QA E k => args1 rfl k) fun a3 S4 e4 b4 => ?_
  refine told_one 44 ["path"] [one] [one] e4 b4 (by simp only [List.length_append, List.length_cons, List.length_nil]; decide) (fun QA E k => args1 rfl k) (fun a QA E k => aCons_i (xf_at fx_BadSplit_path rfl (fun Q E k => evV_i rfl k) (aNil_i k))) (fun a QA E k => args1 rfl k) fun a4 S5 e5 b5 => ?_
  refine told_one 50 ["line", "column", "wanted"] [one, other, .tup [one, other]] [one, other, .tup [one, other]] e5 b5 (by simp only [List.length_append, List.length_cons, List.length_nil]; decide) (fun QA E k => args3 rfl rfl k) (fun a QA E k => aCons_i (xf_at fx_BadText_line rfl (fun Q E k => evV_i rfl k) (aCons_i (xf_at fx_BadText_column rfl (fun Q E k => evV_i rfl k) (aCons_i (xf_at fx_BadText_wanted rfl (fun Q E k => evV_i rfl k) (aNil_i k))))))) (fun a QA E k => args3 rfl rfl k) fun a5 S6 e6 b6 => ?_
  refine told_one 54 ["at"] [one] [one] e6 b6 (by simp only [List.length_append, List.length_cons, List.length_nil]; decide) (fun QA E k => args1 rfl k) (fun a QA E k => aCons_i (xf_at fx_BadWishes_at rfl (fun Q E k => evV_i rfl k) (aNil_i k))) (fun a QA E k => args1 rfl k) fun a6 S7 e7 b7 => ?_
  refine told_one 58 ["breach"] [one] [one] e7 b7 (by simp only [List.length_append, List.length_cons, List.length_nil]; decide) (fun QA E k => args1 rfl k) (fun a QA E k => aCons_i (xf_at fx_Broken_breach rfl (fun Q E k => evV_i rfl k) (aNil_i k))) (fun a QA E k => args1 rfl k) fun a7 S8 e8 b8 => ?_
  refine told_one 59 ["first", "second"] [one, other] [one, other] e8 b8 (by simp only [List.length_append, List.length_cons, List.length_nil]; decide) (fun QA E k => args2 rfl rfl k) (fun a QA E k => aCons_i (xf_at fx_Collides_first rfl (fun Q E k => evV_i rfl k) (aCons_i (xf_at fx_Collides_second rfl (fun Q E k => evV_i rfl k) (aNil_i k))))) (fun a QA E k => args2 rfl rfl k) fun a8 S9 e9 b9 => ?_
  refine told_one 61 ["fault"] [one] [one] e9 b9 (by simp only [List.length_append, List.length_cons, List.length_nil]; decide) (fun QA E k => args1 rfl k) (fun a QA E k => aCons_i (xf_at fx_Faulty_fault rfl (fun Q E k => evV_i rfl k) (aNil_i k))) (fun a QA E k => args1 rfl k) fun a9 S10 e10 b10 => ?_
  refine told_one 62 ["price"] [one] [one] e10 b10 (by simp only [List.length_append, List.length_cons, List.length_nil]; decide) (fun QA E k => args1 rfl k) (fun a QA E k => aCons_i (xf_at fx_IsSure_price rfl (fun Q E k => evV_i rfl k) (aNil_i k))) (fun a QA E k => args1 rfl k) fun a10 S11 e11 b11 => ?_
  refine told_one 65 ["line", "column", "low", "high"] [one, other, .tup [one, other], .lst [one]] [one, other, .tup [one, other], .lst [one]] e11 b11 (by simp only [List.length_append, List.length_cons, List.length_nil]; decide) (fun QA E k => args4 rfl rfl k) (fun a QA E k => aCons_i (xf_at fx_NoFit_line rfl (fun Q E k => evV_i rfl k) (aCons_i (xf_at fx_NoFit_column rfl (fun Q E k => evV_i rfl k) (aCons_i (xf_at fx_NoFit_low rfl (fun Q E k => evV_i rfl k) (aCons_i (xf_at fx_NoFit_high rfl (fun Q E k => evV_i rfl k) (aNil_i k))))))))) (fun a QA E k => args4 rfl rfl k) fun a11 S12 e12 b12 => ?_
  refine told_one 66 ["at"] [one] [one] e12 b12 (by simp only [List.length_append, List.length_cons, List.length_nil]; decide) (fun QA E k => args1 rfl k) (fun a QA E k => aCons_i (xf_at fx_NoPlace_at rfl (fun Q E k => evV_i rfl k) (aNil_i k))) (fun a QA E k => args1 rfl k) fun a12 S13 e13 b13 => ?_
  refine told_one 68 ["name"] [one] [one] e13 b13 (by simp only [List.length_append, List.length_cons, List.length_nil]; decide) (fun QA E k => args1 rfl k) (fun a QA E k => aCons_i (xf_at fx_NoRing_name rfl (fun Q E k => evV_i rfl k) (aNil_i k))) (fun a QA E k => args1 rfl k) fun a13 S14 e14 b14 => ?_
  refine told_one 72 ["number"] [one] [one] e14 b14 (by simp only [List.length_append, List.length_cons, List.length_nil]; decide) (fun QA E k => args1 rfl k) (fun a QA E k => aCons_i (xf_at fx_NotGood_number rfl (fun Q E k => evV_i rfl k) (aNil_i k))) (fun a QA E k => args1 rfl k) fun a14 S15 e15 b15 => ?_
  refine told_one 78 ["worth"] [one] [one] e15 b15 (by simp only [List.length_append, List.length_cons, List.length_nil]; decide) (fun QA E k => args1 rfl k) (fun a QA E k => aCons_i (xf_at fx_NotWritten_worth rfl (fun Q E k => evV_i rfl k) (aNil_i k))) (fun a QA E k => args1 rfl k) fun a15 S16 e16 b16 => ?_
  refine told_one 84 ["point"] [one] [one] e16 b16 (by simp only [List.length_append, List.length_cons, List.length_nil]; decide) (fun QA E k => args1 rfl k) (fun a QA E k => aCons_i (xf_at fx_OpenWorth_point rfl (fun Q E k => evV_i rfl k) (aNil_i k))) (fun a QA E k => args1 rfl k) fun a16 S17 e17 b17 => ?_
  refine told_one 87 ["most"] [one] [one] e17 b17 (by simp only [List.length_append, List.length_cons, List.length_nil]; decide) (fun QA E k => args1 rfl k) (fun a QA E k => aCons_i (xf_at fx_TooMany_most rfl (fun Q E k => evV_i rfl k) (aNil_i k))) (fun a QA E k => args1 rfl k) fun a17 S18 e18 b18 => ?_
  refine told_one 89 ["path", "word"] [one, other] [one, other] e18 b18 (by simp only [List.length_append, List.length_cons, List.length_nil]; decide) (fun QA E k => args2 rfl rfl k) (fun a QA E k => aCons_i (xf_at fx_Wrong_path rfl (fun Q E k => evV_i rfl k) (aCons_i (xf_at fx_Wrong_word rfl (fun Q E k => evV_i rfl k) (aNil_i k))))) (fun a QA E k => args2 rfl rfl k) fun a18 S19 e19 b19 => ?_
  refine told_end (q P _ _ hP b19 rfl (fun z hz => ?_) e19)
  simp only [List.mem_append, List.mem_cons, List.not_mem_nil, or_false, false_or, or_assoc] at hz
  rcases hz with rfl | rfl | rfl | rfl | rfl | rfl | rfl | rfl | rfl | rfl | rfl | rfl | rfl | rfl | rfl | rfl | rfl | rfl | rfl
  all_goals first | exact w1 | exact w2 | exact w3 | exact w4
end K24

set_option Elab.async false
set_option linter.all false
set_option maxRecDepth 100000
set_option maxHeartbeats 8100000
/-! what the mirrors compute: the law -/
namespace K24
open PySem PySem.Spec PyProof.Rows L2 MP
variable {A : Ad} {S : Store} {Q : Post} {E : XPost}

def bodyA : MP.ST := (dIf (bB (bin gNeE (evB gReprX (aCons (evV 11) (aNil))) (evB gReprX (aCons (evV 12) (aNil))))) (dRet (evC (.bl false))) (dNext))
def bodyB (A : Ad) : MP.ST := (dIf (bOr (bNot (bV (evB (gIsi (subT A) (exT_ A)) (aCons (evV 9) (aCons (evC (.ref (A.cls 0))) (aNil)))))) (bNot (bV (evB (gIsi (subT A) (exT_ A)) (aCons (evV 9) (aCons (evC (.ty "ValueError")) (aNil))))))) (dRet (evC (.bl false))) (dNext))
def lawT (A : Ad) : MP.ST := dSeq (dSet 8 (evComp mkF (iSeq (evV 6)) (dgName 9) (bYes) (evCall (r_law_classes A) (aCons (evV 9) (aNil))) [9])) (dSeq (dIf (bOr (bB (bin gNeE (evComp mkF (iSeq (evV 8)) (dgName 10) (bB (bin gNeE (evB gLen (aCons (evV 10) (aNil))) (evC (.int 1)))) (evC (.int 1)) [10]) (evLst mkF (aNil)))) (bB (bin gNeE (evLenSet (evComp mkF (iSeq (evV 8)) (dgName 10) (bYes) (bin gIx (evV 10) (evC (.int 0))) [10])) (evB gLen (aCons (evV 6) (aNil)))))) (dRet (evC (.bl false))) (dNext)) (dSeq (dFor (iSeq (evV 5)) (dgTup 3 (dgCons (dgName 9) (dgCons (dgName 11) (dgCons (dgName 12) (dgNil))))) bodyA) (dSeq (dFor (iSeq (evV 6)) (dgName 9) (bodyB A)) (dRet (evC (.bl true))))))
theorem law_eq (A : Ad) : r_law A = runF 13 (dSeq (dSet 1 (evCall (r_law_begun A) (aCons (evV 0) (aNil)))) (dSeq (dSet 2 (evLst mkF (aCons (evC .non) (aCons (evC (.int 0)) (aCons (una gNeg (evC (.int 7))) (aCons (evC (.str "x")) (aCons (evC (.str "")) (aCons (evTup (aCons (evC (.int 1)) (aCons (evC (.int 2)) (aNil)))) (aCons (evLst mkF (aCons (evC (.int 3)) (aNil))) (aCons (evDisp mkDF [(.inr "a")] (aCons (evC (.int 4)) (aNil))) (aCons (evC (.bl true)) (aCons (bin gPow (evC (.int 10)) (evC (.int 20))) (aNil))))))))))))) (dSeq (dPar 3 4 (aCons (evCall (r_law_pick A) (aCons (evV 1) (aCons (evV 2) (aNil)))) (aCons (evCall (r_law_pick A) (aCons (evV 1) (aCons (evV 2) (aNil)))) (aNil)))) (dSeq (dFzV 5 (dSet 5 (evCall (r_law_told_errors A) (aCons (evV 3) (aCons (evV 4) (aNil)))))) (dSeq (dSet 6 (bin (gAddT mkF) (evCall0 (r_law_plain_errors A)) (evComp mkF (iSeq (evV 5)) (dgName 7) (bYes) (bin gIx (evV 7) (evC (.int 0))) [7]))) (lawT A)))))) := rfl
def allIx : List Nat := plainIx ++ toldIx
theorem all_ix : ∀ i ∈ allIx, 0 < i ∧ i < 90 := by decide
theorem all_nodup : (allIx.map fun (i : Nat) => (i : Int) - 1).Nodup := by decide
theorem below_0 : ∀ i, i < 90 → (below i).contains 0 = true := by decide +kernel
theorem all_len : allIx.length = 89 := by decide
theorem dFzV_i {i : Nat} {g : MP.ST} {ρ : MP.Env} {N : DEnds} (q : g ρ S { N with nx := fzv i N.nx }) : dFzV i g ρ S N := q
theorem fzv_l {i : Nat} {ρ : MP.Env} {p : Addr} {ds : List D} {QE : MP.Env → Store → Prop} (hi : lk ρ i = some (.ref p)) (hp : S p = some (.lst ds)) (q : QE (st ρ i (some (.lst ds))) (S.del p)) : fzv i QE ρ S := by
  unfold fzv
  simp only [hi, hp]
  exact q
theorem line_k {n : Nat} (h : n ≤ 1000) : n ≤ sizeLine := Nat.le_trans h (by decide)
section
variable {x0 x1 x2 x3 x4 x5 x6 x7 x8 : Option D} {N : DEnds}
theorem loop_told : ∀ (zs : List Te) (y9 y11 y12 : Option D), (∀ z ∈ zs, Shw z.2) → (∀ y9 y11 y12, N.nx [x0, x1, x2, x3, x4, x5, x6, x7, x8, y9, none, y11, y12] S) → loop (dgTup 3 (dgCons (dgName 9) (dgCons (dgName 11) (dgCons (dgName 12) (dgNil))))) bodyA N (zs.map (encT A)) [x0, x1, x2, x3, x4, x5, x6, x7, x8, y9, none, y11, y12] S
  | [], y9, y11, y12, _, q => loop_nil (q y9 y11 y12)
  | z :: zs, y9, y11, y12, h, q => by
    obtain ⟨s, hs⟩ := repr_ok (S := S) (h z List.mem_cons_self)
    refine loop_cons ?_
    refine dgTup_i rfl (dgCons_i (dgName_i (dgCons_i (dgName_i (dgCons_i (dgName_i (dgNil_i ?_)))))))
    unfold bodyA
    walk_at "mp_s"
    refine hs _ ?_
    walk_at "mp_s"
    refine hs _ ?_
    walk_at "mp_s"
    rw [beq_self_eq_true]
    walk_at "mp_s"
    exact loop_told zs _ _ _ (fun y hy => h y (List.mem_cons_of_mem _ hy)) q
theorem loop_base (hA : A.Ok) : ∀ (es : List Er) (y9 : Option D) {y10 y11 y12 : Option D}, (∀ e ∈ es, e.1 < 90) → (∀ y9, N.nx [x0, x1, x2, x3, x4, x5, x6, x7, x8, y9, y10, y11, y12] S) → loop (dgName 9) (bodyB A) N (es.map (encE A)) [x0, x1, x2, x3, x4, x5, x6, x7, x8, y9, y10, y11, y12] S
  | [], y9, _, _, _, _, q => loop_nil (q y9)
  | e :: es, y9, _, _, _, h, q => by
    have h1 := h e List.mem_cons_self
    have b0 : (below e.1).contains 0 = true := below_0 e.1 h1
    refine loop_cons ?_
    refine dgName_i ?_
    unfold bodyB
    walk_at "mp_s"
    refine isi_exn hA h1 (by decide) ?_
    rw [b0]
    walk_at "mp_s"
    refine isi_val hA h1 ?_
    walk_at "mp_s"
    exact loop_base hA es _ (fun y hy => h y (List.mem_cons_of_mem _ hy)) q
end
theorem tail_law (hA : A.Ok) {Es : List Er} {zs : List Te} {x0 x1 x2 x3 x4 : Option D} {N : DEnds} (hE : Es.map (·.1) = allIx) (hz : zs.length ≤ 1000) (hs : ∀ z ∈ zs, Shw z.2) (q : N.rt (.bl true) S) :
    lawT A [x0, x1, x2, x3, x4, some (.lst (zs.map (encT A))), some (.lst (Es.map (encE A))), none, none, none, none, none, none] S N := by
  have len : Es.length = 89 := by rw [← List.length_map (f := fun e : Er => e.1), hE, all_len]
  have hb : ∀ e ∈ Es, 0 < e.1 ∧ e.1 < 90 := fun e he => all_ix e.1 (by rw [← hE]; exact List.mem_map_of_mem he)
  unfold lawT
  walk_at "mp_s"
  refine comp_all (encE A) (fun e => .lst [.int ((e.1 : Int) - 1)]) Es (fun e he k q => ?_) (line_k (by omega)) ?_
  · walk_at "mp_s"
    exact classes_ok hA (hb e he).1 (hb e he).2 q
  walk_at "mp_s"
  refine comp_map (fun e : Er => .lst [.int ((e.1 : Int) - 1)]) (fun _ => false) (fun _ => .int 1) Es [] (fun e _ k q => ?_) (fun e _ z => nomatch z) (by simp only [List.length_nil]; exact line_k (by omega)) ?_
  · walk_at "mp_s"
    exact q
  rw [show Es.filter (fun _ => false) = [] from List.filter_eq_nil_iff.mpr (fun _ _ => Bool.false_ne_true), List.map_nil, List.append_nil]
  walk_at "mp_s"
  refine gNeE_nil (xs := []) rfl ?_
  walk_at "mp_s"
  refine evLenSet_i ?_
  walk_at "mp_s"
  refine comp_all (fun e : Er => .lst [.int ((e.1 : Int) - 1)]) (fun e => .int ((e.1 : Int) - 1)) Es (fun e _ k q => ?_) (line_k (by omega)) ?_
  · walk_at "mp_s"
    exact gIx_l (i := 0) (xs := [.int ((e.1 : Int) - 1)]) rfl q
  walk_at "mp_s"
  have ei : Es.map (fun e : Er => D.int ((e.1 : Int) - 1)) = (allIx.map fun (i : Nat) => (i : Int) - 1).map D.int := by
    rw [← hE, List.map_map, List.map_map]
    rfl
  rw [ei]
  refine setK_i rfl all_nodup (by rw [List.length_map, all_len]; decide) ?_
  rw [List.length_map, all_len]
  walk_at "mp_s"
  rw [if_neg (by rw [List.length_map, len]; decide)]
  walk_at "mp_s"
  refine loop_told zs _ _ _ hs fun y9 y11 y12 => ?_
  walk_at "mp_s"
  refine loop_base hA Es _ (fun e he => (hb e he).2) fun y9 => ?_
  walk_at "mp_s"
  exact q
theorem vals_ok {one : D} (h : one ∈ ([.non, .int 0, .int (-7), .str "x", .str "", .tup [.int 1, .int 2], .lst [.int 3], .dct [.inr "a"] [.int 4], .bl true, .int ((10 : Int) ^ (20 : Int).toNat)] : List D)) : ∃ p, toPyX one = some p ∧ p ∈ someP := by
  simp only [List.mem_cons, List.not_mem_nil, or_false] at h
  rcases h with rfl | rfl | rfl | rfl | rfl | rfl | rfl | rfl | rfl | rfl
  · exact ⟨someP[0], rfl, List.getElem_mem _⟩
  · exact ⟨someP[1], rfl, List.getElem_mem _⟩
  · exact ⟨someP[2], rfl, List.getElem_mem _⟩
  · exact ⟨someP[3], rfl, List.getElem_mem _⟩
  · exact ⟨someP[4], rfl, List.getElem_mem _⟩
  · exact ⟨someP[5], rfl, List.getElem_mem _⟩
  · exact ⟨someP[6], rfl, List.getElem_mem _⟩
  · exact ⟨someP[7], rfl, List.getElem_mem _⟩
  · exact ⟨someP[8], rfl, List.getElem_mem _⟩
  · exact ⟨someP[9], congrArg (fun x => some (PyData.int x)) (by decide : (10 : Int) ^ (20 : Int).toNat = 100000000000000000000), List.getElem_mem _⟩
theorem law_ok {ns : List Int} (hA : A.Ok) (hl : ns.length ≤ 63) (q : ∀ S', Q (.bl true) S') : r_law A [.kls (ns.map .int)] S Q E := by
  rw [law_eq]
  walk_at "mp_s"
  refine begun_ok (by omega) fun a w S1 dr sm ha hw => ?_
  walk_at "mp_s"
  refine gPow_i ⟨by decide, by decide, by decide⟩ ?_
  walk_at "mp_s"
  refine pick_ok dr (by decide) (by simp) (by simp) fun one S2 h1 d2 _ => ?_
  walk_at "mp_s"
  refine pick_ok d2 (by decide) (by simp) (by simp) fun other S3 h2 d3 _ => ?_
  walk_at "mp_s"
  obtain ⟨p1, e1, m1⟩ := vals_ok h1
  obtain ⟨p2, e2, m2⟩ := vals_ok h2
  refine dFzV_i ?_
  walk_at "mp_s"
  refine told_ok e1 e2 m1 m2 fun P S4 zs hP hb hz hs hl4 => ?_
  dsimp only []
  refine fzv_l (i := 5) (p := P) rfl hl4 ?_
  walk_at "mp_s"
  refine plain_ok fun es he => ?_
  walk_at "mp_s"
  have lz : zs.length = 19 := by rw [← List.length_map (f := fun z : Te => z.1.1), hz]; rfl
  have ln : es.length = 70 := by rw [← List.length_map (f := fun z : Er => z.1), he]; rfl
  refine comp_all (encT A) (fun z => encE A z.1) zs (fun z _ k q => ?_) (line_k (by omega)) ?_
  · walk_at "mp_s"
    exact gIx_t (i := 0) rfl q
  walk_at "mp_s"
  refine gAddT_l (by rw [List.length_map, List.length_map]; exact line_k (by omega)) ?_
  rw [show es.map (encE A) ++ zs.map (fun z => encE A z.1) = (es ++ zs.map (fun z => z.1)).map (encE A) by rw [List.map_append, List.map_map]; rfl]
  walk_at "mp_s"
  refine tail_law hA (Es := es ++ zs.map (fun z => z.1)) (zs := zs) ?_ (by omega) hs (q _)
  rw [List.map_append, List.map_map, he, show ((fun e : Er => e.1) ∘ fun z : Te => z.1) = fun z => z.1.1 from rfl, hz]
  rfl
end K24

set_option Elab.async false
set_option linter.all false
set_option maxRecDepth 100000
set_option maxHeartbeats 2100000
/-! the states between the pieces of the top -/
namespace K24
open PySem PySem.W PySem.Calls PyProof.Rows HandSHeadRun MP
abbrev pw : Program := PySem.Challenge.pw_whysheets_k24_errors_made_and_bases
abbrev fileV (t : Nat) : Value := .str "/claim/cut.py" t
abbrev modV : Value := .str "whysheets.errors" 187
noncomputable def en (P : Params) (x : Str) (t : Nat) (v : Value) : DictEntry := { hash := PyData.keyHash P x, key := .str x t, val := v }
abbrev tupO (l : List Value) : Obj := { cls := .type "tuple", data := .seq l.toArray }
abbrev recO (l : List Value) : Obj := { cls := .none, data := .fields l.toArray }
abbrev blfO (n : String) (v : Value) : Obj := { cls := .type "builtin_function_or_method", data := .fields #[.builtin n, v] }
noncomputable abbrev dicO (l : List DictEntry) (n : Nat) : Obj := { cls := .type "dict", data := .dict l.toArray n }
def codO (x q : Str) (t f L args fl : Nat) (vars tab : Addr) (own : Bool) (more : List Value) : Obj :=
  { cls := .type "code", data := .fields ([.str x t, .str q (t + 1), fileV (t + 2), .int L 0, .int args 0, .int 0 0, .int 0 0, .int fl 0, .ref vars, .bool own, .int 181 0, .ref tab, .none] ++ more ++ [.int f 0, .int L 0, fileV (f + 1)]).toArray }
def frmO (c ns : Addr) : Obj := { cls := .type "frame", slots := #[some (.ref c), some (.ref 3), some (.ref ns), none, some modV, none, some (.ref 0)] }
def clsO (x : Str) (bases mro : List Value) (ns : Addr) (subs : List Value) (tup : Addr) (t q : Nat) : Obj :=
  { cls := .type "type", data := .cls { name := x, bases := bases, mro := mro, ns := ns, qualname := x, subclasses := subs }, slots := #[some (.ref tup), none, some (.str x t), some (.str x q), some (.builtin "ValueError.__new__"), some (.bool true)] }
abbrev veV : List Value := [.type "ValueError", .type "Exception", .type "BaseException", .type "object"]
abbrev bas : List Value := [.ref 24]
structure Acc where
  n : Nat
  t : Nat
  ks : List DictEntry
  ls : List Value
  sb : List Value
  os : List Obj
noncomputable def plainC (P : Params) (x : Str) (L n t : Nat) : List Obj :=
  [tupO bas, blfO "type.__prepare__" (.type "type"),
   dicO [en P "__module__" (t + 7) modV, en P "__qualname__" (t + 9) (.str x (t + 8)), en P "__firstlineno__" (t + 11) (.int L (t + 10)), en P "__static_attributes__" (t + 12) (.ref (n + 7))] 4,
   tupO [], recO [], codO x x (t + 2) (t + 5) L 0 0 (n + 3) (n + 4) false [.none, .none, .none], frmO (n + 5) (n + 2), tupO [],
   dicO [en P "__module__" (t + 7) modV, en P "__firstlineno__" (t + 11) (.int L (t + 10)), en P "__static_attributes__" (t + 12) (.ref (n + 7)), en P "__doc__" (t + 13) .none] 2,
   clsO x bas (.ref (n + 9) :: .ref 24 :: veV) (n + 8) [] n t (t + 8),
   { cls := .type "super", data := .fields #[.ref (n + 9), .ref (n + 9), .ref (n + 9)] }, blfO "object.__init_subclass__" (.ref (n + 9))]
def toks (t : Nat) : List Str → List Value
  | [] => []
  | x :: r => .str x t :: toks (t + 1) r
noncomputable def initC (P : Params) (x : Str) (L n t : Nat) (ps : Arguments) (b : List Stmt) (sc : Scope) (st : List Str) (Lf : Nat) : List Obj :=
  let k := ps.args.length - 1
  let m := st.length
  let q : Str := x ++ (".__init__" : Str)
  let fn : FuncData := { name := "__init__", qualname := q, params := ps, body := .stmts b, scope := sc, globals := 0, closure := [], defaults := .none, kwdefaults := .none }
  [tupO bas, blfO "type.__prepare__" (.type "type"),
   dicO [en P "__module__" (t + 7) modV, en P "__qualname__" (t + 9) (.str x (t + 8)), en P "__firstlineno__" (t + 11) (.int L (t + 10)), en P "__init__" (t + 19 + k) (.ref (n + 15)), en P "__static_attributes__" (t + 20 + k + m) (.ref (n + 16)), en P "__classcell__" (t + 21 + k + m) (.ref (n + 3))] 6,
   { cls := .type "cell", data := .cell (some (.ref (n + 18))) }, tupO [], recO [.int Lf 0, .int 4 0, .ref (n + 14)], codO x x (t + 2) (t + 5) L 0 0 (n + 4) (n + 5) false [.none, .none, .none], frmO (n + 6) (n + 2),
   tupO [.ref (n + 3)], tupO [.str "__class__" (t + 15)], recO [], tupO (toks (t + 16) (ps.args.map (·.arg))), tupO [], { cls := .none, data := .func fn },
   codO "__init__" q (t + 12) (t + 17 + k) Lf (k + 1) 3 (n + 9) (n + 10) true [.ref (n + 11), .ref (n + 12), .ref (n + 13)],
   { cls := .type "function", data := .func { fn with globals := 3, closure := [("__class__", n + 3)], pyModule := modV, code := .ref (n + 14), closureTuple := .ref (n + 8) } },
   tupO (toks (t + 20 + k) st),
   dicO [en P "__module__" (t + 7) modV, en P "__firstlineno__" (t + 11) (.int L (t + 10)), en P "__init__" (t + 19 + k) (.ref (n + 15)), en P "__static_attributes__" (t + 20 + k + m) (.ref (n + 16)), en P "__doc__" (t + 22 + k + m) .none] 3,
   clsO x bas (.ref (n + 18) :: .ref 24 :: veV) (n + 17) [] n t (t + 8),
   { cls := .type "super", data := .fields #[.ref (n + 18), .ref (n + 18), .ref (n + 18)] }, blfO "object.__init_subclass__" (.ref (n + 18))]
noncomputable def addC (P : Params) (a : Acc) (s : Stmt) : Acc := match s with
  | .ClassDef x _ _ [.FunctionDef _ ps b _ _ _ sc _ _ fp] _ _ _ _ _ sa pos =>
    let k := ps.args.length - 1 + sa.length
    ⟨a.n + 21, a.t + 25 + k, a.ks ++ [en P x (a.t + 24 + k) (.ref (a.n + 18))], a.ls ++ [.int pos.line 0, .int 0 0, .ref (a.n + 6)], a.sb ++ [.ref (a.n + 18)], a.os ++ initC P x pos.line a.n a.t ps b sc sa fp.line⟩
  | .ClassDef x _ _ _ _ _ _ _ _ _ pos =>
    ⟨a.n + 12, a.t + 16, a.ks ++ [en P x (a.t + 15) (.ref (a.n + 9))], a.ls ++ [.int pos.line 0, .int 0 0, .ref (a.n + 5)], a.sb ++ [.ref (a.n + 9)], a.os ++ plainC P x pos.line a.n a.t⟩
  | _ => a
/-- what stands behind the first class -/
noncomputable def acc0 (P : Params) : Acc := ⟨28, 207, [en P "SheetError" 206 (.ref 24)], [.int 2 0, .int 0 0, .ref 20], [], []⟩
noncomputable def accN (P : Params) (l : List Stmt) : Acc := l.foldl (addC P) (acc0 P)
noncomputable def mainD (P : Params) (nm : Value) (ks : List DictEntry) : Obj :=
  dicO ([en P "__name__" 165 nm, en P "__doc__" 166 .none, en P "__package__" 167 .none, en P "__loader__" 168 (.builtin "__main__.__loader__#opaque"), en P "__spec__" 169 .none, en P "__annotations__" 170 (.ref 6), en P "__builtins__" 171 (.ref 4), en P "__file__" 173 (fileV 172), en P "__cached__" 174 .none] ++ ks) (9 + ks.length)
noncomputable def bootO (P : Params) : List Obj := (boot_heap P).objs.toList
def topO (l : List Value) : List Obj :=
  [tupO [], recO l, codO "<module>" "<module>" 182 185 1 0 0 11 12 false [.none, .none, .none], { cls := .type "frame", slots := #[some (.ref 13), some (.ref 3), some (.ref 3), none, some (.str "__main__" 164), none, some (.ref 0)] }]
/-- the first class -/
noncomputable def firstC (P : Params) (sb : List Value) : List Obj :=
  [tupO [.type "ValueError"], blfO "type.__prepare__" (.type "type"),
   dicO [en P "__module__" 196 modV, en P "__qualname__" 198 (.str "SheetError" 197), en P "__firstlineno__" 200 (.int 2 199), en P "__static_attributes__" 201 (.ref 22)] 4,
   tupO [], recO [], codO "SheetError" "SheetError" 191 194 2 0 0 18 19 false [.none, .none, .none], frmO 20 17, tupO [],
   dicO [en P "__module__" 196 modV, en P "__firstlineno__" 200 (.int 2 199), en P "__static_attributes__" 201 (.ref 22), en P "__weakref__" 203 (.ref 25), en P "__doc__" 204 .none] 3,
   clsO "SheetError" [.type "ValueError"] (.ref 24 :: veV) 23 sb 15 189 197,
   { cls := .type "getset_descriptor", data := .fields #[.str "__weakref__" 202, .ref 24, .builtin "ExceptionGroup.__weakref__", .none] },
   { cls := .type "super", data := .fields #[.ref 24, .ref 24, .ref 24] }, blfO "object.__init_subclass__" (.ref 24)]
noncomputable def objsA (P : Params) (a : Acc) : List Obj := (bootO P).take 3 ++ [mainD P modV a.ks] ++ (bootO P).drop 4 ++ topO a.ls ++ firstC P a.sb ++ a.os
noncomputable def stA (w : World) (os : OsState) (a : Acc) : SharedT := stOf (boot_heap w.params).life os (objsA w.params a) a.t
noncomputable def stP (w : World) (os : OsState) : SharedT := stOf (boot_heap w.params).life os (bootO w.params ++ topO []) 187
noncomputable def st0 (w : World) (os : OsState) : SharedT := stOf (boot_heap w.params).life os (bootO w.params) boot_toks
/-- the top's statements, its frame -/
abbrev body : List Stmt := behindTheImports pw
abbrev envM : PySem.Env := { scope := pw.main.scope, locals := mainNs, globals := mainNs, cells := [], code := .ref 13, frame := some 14 }
abbrev cdM : Code := .body body envM
abbrev ps0 : Pos := ⟨0, 0, 0, 0⟩
abbrev frs0 : List Frame := [topFrame ps0]
end K24

set_option Elab.async false
set_option linter.all false
set_option maxRecDepth 100000
set_option maxHeartbeats 2100000
/-! the top in pieces -/
namespace K24
open PySem PySem.W PySem.Calls PyProof.Rows HandSHeadRun MP
/-- the state behind so many statements -/
noncomputable abbrev stN (w : World) (os : OsState) (j : Nat) : SharedT := stA w os (accN w.params ((body.drop 2).take (j - 2)))
theorem run0Q (w : World) (os : OsState) : (goS (QRun pw w) 11 (some (.ref 6)) 12 (st0 w os) (topStub pw)).map (fun r => (nfS r.1 id, r.2)) = some (nfS (stP w os) id, ⟨denQ tabQ (.body body envM), cdM, ps0, frs0⟩) := by kernel_rfl
theorem run0 (w : World) (os : OsState) : (goS (QRun pw w) 11 (some (.ref 6)) 12 (st0 w os) (topStub pw)).map (fun r => (nfS r.1 id, r.2)) = some (nfS (stP w os) id, ⟨denote treeTable (.body body envM), cdM, ps0, frs0⟩) := by
  rw [denQ_eq, tabQ_eq]
  exact run0Q w os
theorem runB (w : World) (os : OsState) : (goP (QRun pw w) 11 (some (.ref 6)) 1 (stP w os) (blockOf body envM cdM ps0 frs0)).map (fun r => (r.1, nfS r.2.1 id, r.2.2)) = some (Flow.next, nfS (stP w os) id, cdM, ps0) := by kernel_rfl
theorem run1 (w : World) (os : OsState) : (goP (QRun pw w) 11 (some (.ref 6)) 20000 (stP w os) (piecesOf (body.take 23) envM cdM ps0 frs0)).map (fun r => (r.1, nfS r.2.1 id, r.2.2)) = some (Flow.next, nfS (stN w os 23) id, cdM, ⟨53, 0, 54, 8⟩) := by kernel_rfl
theorem run2 (w : World) (os : OsState) : (goP (QRun pw w) 11 (some (.ref 6)) 20000 (stN w os 23) (piecesOf ((body.drop 23).take 23) envM cdM ⟨53, 0, 54, 8⟩ frs0)).map (fun r => (r.1, nfS r.2.1 id, r.2.2)) = some (Flow.next, nfS (stN w os 46) id, cdM, ⟨102, 0, 106, 24⟩) := by kernel_rfl
theorem run3 (w : World) (os : OsState) : (goP (QRun pw w) 11 (some (.ref 6)) 20000 (stN w os 46) (piecesOf ((body.drop 46).take 23) envM cdM ⟨102, 0, 106, 24⟩ frs0)).map (fun r => (r.1, nfS r.2.1 id, r.2.2)) = some (Flow.next, nfS (stN w os 69) id, cdM, ⟨181, 0, 182, 8⟩) := by kernel_rfl
theorem run4 (w : World) (os : OsState) : (goP (QRun pw w) 11 (some (.ref 6)) 20000 (stN w os 69) (piecesOf ((body.drop 69).take 22) envM cdM ⟨181, 0, 182, 8⟩ frs0)).map (fun r => (r.1, nfS r.2.1 id, r.2.2)) = some (Flow.next, nfS (stN w os 91) id, cdM, ⟨240, 0, 245, 24⟩) := by kernel_rfl
end K24

set_option Elab.async false
set_option linter.all false
set_option maxRecDepth 100000
set_option maxHeartbeats 2100000
/-! the written part -/
namespace K24
open PySem PySem.W PySem.Calls PyProof.Rows HandSHeadRun MP
def fnO (s : Stmt) (c : Addr) : Obj := match s with
  | .FunctionDef x a b _ _ _ sc _ _ _ => { cls := .type "function", data := .func { name := x, qualname := x, params := a, body := .stmts b, scope := sc, globals := 3, closure := [], defaults := .none, kwdefaults := .none, pyModule := .str "law_whysheets_k24_errors_made_and_bases" 1854, code := .ref c } }
  | _ => tupO []
noncomputable def acc91 (P : Params) : Acc := accN P ((body.drop 2).take 89)
noncomputable def defK (P : Params) : List DictEntry := [en P "_law_begun" 1861 (.ref 1271), en P "_law_mixed" 1873 (.ref 1278), en P "_law_take" 1882 (.ref 1285), en P "_law_pick" 1890 (.ref 1292), en P "_law_plain_errors" 1897 (.ref 1299), en P "_law_told_errors" 1907 (.ref 1306), en P "_law_classes" 1913 (.ref 1311), en P "law" 1919 (.ref 1316)]
def defF : Fg := [(1270, codO "_law_begun" "_law_begun" 1856 1859 247 1 3 1267 1268 true [.none, .none, .ref 1269]), (1271, fnO (body.getD 92 (.Pass ps0)) 1270),
  (1277, codO "_law_mixed" "_law_mixed" 1862 1871 250 1 3 1272 1273 true [.ref 1274, .ref 1275, .ref 1276]), (1278, fnO (body.getD 93 (.Pass ps0)) 1277),
  (1284, codO "_law_take" "_law_take" 1874 1880 259 2 3 1279 1280 true [.ref 1281, .ref 1282, .ref 1283]), (1285, fnO (body.getD 94 (.Pass ps0)) 1284),
  (1291, codO "_law_pick" "_law_pick" 1883 1888 265 2 3 1286 1287 true [.ref 1288, .ref 1289, .ref 1290]), (1292, fnO (body.getD 95 (.Pass ps0)) 1291),
  (1298, codO "_law_plain_errors" "_law_plain_errors" 1891 1895 267 0 3 1293 1294 true [.ref 1295, .ref 1296, .ref 1297]), (1299, fnO (body.getD 96 (.Pass ps0)) 1298),
  (1305, codO "_law_told_errors" "_law_told_errors" 1898 1905 277 2 3 1300 1301 true [.ref 1302, .ref 1303, .ref 1304]), (1306, fnO (body.getD 97 (.Pass ps0)) 1305),
  (1310, codO "_law_classes" "_law_classes" 1908 1911 318 1 3 1307 1308 true [.none, .none, .ref 1309]), (1311, fnO (body.getD 98 (.Pass ps0)) 1310),
  (1315, codO "law" "law" 1914 1917 338 1 3 1312 1313 true [.none, .none, .ref 1314]), (1316, fnO (body.getD 99 (.Pass ps0)) 1315)]
/-- what is kept of a class -/
structure AcK where
  n : Nat
  t : Nat
  os : Fg
noncomputable def addK (P : Params) (a : AcK) (s : Stmt) : AcK := match s with
  | .ClassDef x _ _ [.FunctionDef _ ps b _ _ _ sc _ _ fp] _ _ _ _ _ sa pos =>
    ⟨a.n + 21, a.t + 25 + (ps.args.length - 1 + sa.length), a.os ++ (let l := initC P x pos.line a.n a.t ps b sc sa fp.line
      [17, 18, 15, 14, 3].map fun i => (a.n + i, l.getD i (tupO [])))⟩
  | .ClassDef x _ _ _ _ _ _ _ _ _ pos => ⟨a.n + 12, a.t + 16, a.os ++ (let l := plainC P x pos.line a.n a.t
      [8, 9].map fun i => (a.n + i, l.getD i (tupO [])))⟩
  | _ => a
noncomputable def clsF (P : Params) : Fg := (((body.drop 2).take 89).foldl (addK P) ⟨28, 207, []⟩).os
noncomputable def KK (P : Params) : Fg :=
  [(3, mainD P (.str "law_whysheets_k24_errors_made_and_bases" 1854) ((acc91 P).ks ++ defK P)), (24, (firstC P (acc91 P).sb).getD 9 (tupO [])), (23, (firstC P []).getD 8 (tupO []))] ++ defF
   ++ [0, 1, 2, 4, 5, 6, 7, 8, 9, 10].map (fun i => (i, (bootO P).getD i (tupO []))) ++ clsF P
end K24

set_option Elab.async false
set_option linter.all false
set_option maxRecDepth 100000
set_option maxHeartbeats 2100000
/-! the last piece, with the looks -/
namespace K24
open PySem PySem.W PySem.Calls PyProof.Rows HandSHeadRun MP
abbrev rowR : OpenRow := OpenLaw.row PySem.Challenge.rw_whysheets_k24_errors_made_and_bases
abbrev qv : Program := view rowR.prog [99]
def asK : List Addr := [3, 24, 23, 1270, 1271, 1277, 1278, 1284, 1285, 1291, 1292, 1298, 1299, 1305, 1306, 1310, 1311, 1315, 1316, 0, 1, 2, 4, 5, 6, 7, 8, 9, 10, 36, 37, 48, 49, 60, 61, 72, 73, 84, 85, 105] ++ [106, 103, 102, 91, 117, 118, 129, 130, 141, 142, 153, 154, 165, 166, 186, 187, 184, 183, 172, 198, 199, 210, 211, 231, 232, 229, 228, 217, 243, 244, 255, 256, 267, 268, 279, 280, 291, 292, 303, 304] ++ [315, 316, 336, 337, 334, 333, 322, 348, 349, 360, 361, 372, 373, 384, 385, 396, 397, 408, 409, 420, 421, 432, 433, 444, 445, 456, 457, 468, 469, 480, 481, 492, 493, 504, 505, 516, 517, 528, 529, 540] ++ [541, 552, 553, 564, 565, 576, 577, 597, 598, 595, 594, 583, 609, 610, 621, 622, 633, 634, 645, 646, 657, 658, 678, 679, 676, 675, 664, 690, 691, 702, 703, 714, 715, 735, 736, 733, 732, 721, 747, 748] ++ [759, 760, 771, 772, 792, 793, 790, 789, 778, 813, 814, 811, 810, 799, 825, 826, 846, 847, 844, 843, 832, 867, 868, 865, 864, 853, 879, 880, 891, 892, 912, 913, 910, 909, 898, 933, 934, 931, 930, 919] ++ [945, 946, 966, 967, 964, 963, 952, 978, 979, 990, 991, 1002, 1003, 1023, 1024, 1021, 1020, 1009, 1035, 1036, 1047, 1048, 1059, 1060, 1071, 1072, 1083, 1084, 1104, 1105, 1102, 1101, 1090, 1116, 1117, 1128, 1129, 1140, 1141, 1152] ++ [1153, 1164, 1165, 1185, 1186, 1183, 1182, 1171, 1197, 1198, 1209, 1210, 1230, 1231, 1228, 1227, 1216, 1242, 1243, 1263, 1264, 1261, 1260, 1249]
theorem asK_eq (P : Params) : asK = (KK P).map (·.1) := by kernel_rfl
noncomputable abbrev hkK : Hook := kHook KK asK asK_eq
noncomputable def obK (s : SharedT) : List (Option Obj) := asK.map (getT s)
theorem obK_eq (s : SharedT) : obK s = hkK.obs s.abs := List.map_congr_left fun a _ => getT_eq s a
def loo0 : List PySem.Str := ["__name__", "SheetError", "AlreadyTold", "BadAnswer", "BadAt", "BadBargains", "BadBit", "BadBits", "BadBook", "BadBox", "BadCell", "BadClaim", "BadCourse", "BadEdits", "BadExpression", "BadFork", "BadForks", "BadGame", "BadGroup", "BadIndexes"]
def loo1 : List PySem.Str := ["BadInner", "BadInputs", "BadLimit", "BadLot", "BadLots", "BadMany", "BadMost", "BadName", "BadNames", "BadNumber", "BadNumbers", "BadOrder", "BadPaper", "BadPart", "BadPath", "BadPlace", "BadPoint", "BadPrice", "BadPrices", "BadPromises"]
def loo2 : List PySem.Str := ["BadQuestion", "BadScheme", "BadSheet", "BadSide", "BadSides", "BadSplit", "BadSpot", "BadSpots", "BadStretch", "BadStretches", "BadTable", "BadText", "BadTree", "BadWeights", "BadWish", "BadWishes", "BadWord", "BadWorth", "BadWorths", "Broken"]
def loo3 : List PySem.Str := ["Collides", "Ended", "Faulty", "IsSure", "MatchOver", "NoDifference", "NoFit", "NoPlace", "NoPlan", "NoRing", "NoTurn", "NoWall", "NotAsked", "NotGood", "NotGuessed", "NotKnown", "NotLeast", "NotMine", "NotOpen", "NotWritten"]
def loo4 : List PySem.Str := ["NothingAsked", "NothingDone", "NothingSet", "NothingUndone", "NowSo", "OpenWorth", "OtherInputs", "OtherOrder", "TooMany", "Unfit", "Wrong", "_law_begun", "_law_mixed", "_law_take", "_law_pick", "_law_plain_errors", "_law_told_errors", "_law_classes"]
def loo : List PySem.Str := loo0 ++ loo1 ++ loo2 ++ loo3 ++ loo4
theorem run5a (w : World) (os : OsState) : (goF (QRun pw w) 11 (some (.ref 6)) 2000 (stN w os 91) (restOf (body.drop 91) envM cdM ⟨240, 0, 245, 24⟩ frs0)).map (fun s => obK s) = some (hkK.val w) := by kernel_rfl
theorem run5b (w : World) (os : OsState) : (goF (QRun pw w) 11 (some (.ref 6)) 2000 (stN w os 91) (restOf (body.drop 91) envM cdM ⟨240, 0, 245, 24⟩ frs0)).map (fun s => looksF rowR.prog (boot_heap w.params) s.abs) = some true := by kernel_rfl
theorem run5c (w : World) (os : OsState) : (goF (QRun pw w) 11 (some (.ref 6)) 2000 (stN w os 91) (restOf (body.drop 91) envM cdM ⟨240, 0, 245, 24⟩ frs0)).map (fun s => seenQ qv loo (importedModules rowR.prog.main.body) (fun s => xlAt qv [] s && recOk rowR.toRowW.records s) s.abs) = some (openGood qv loo) := by kernel_rfl
end K24

set_option Elab.async false
set_option linter.all false
set_option maxRecDepth 100000
set_option maxHeartbeats 4100000
/-! the facts of the written part -/
namespace K24
open PySem PySem.W PySem.Calls PyProof.Rows HandSHeadRun L2 MP
def par (i : Nat) : List Nat := if i = 0 then [] else [0]
noncomputable def okC (P : Params) (l : List Nat) : Bool := l.all fun i => clsB (KK P) clsN par i
theorem okC_0 (P : Params) : okC P [0, 1, 2, 3, 4, 5, 6, 7, 8, 9, 10, 11, 12, 13, 14] = true := by kernel_rfl
theorem okC_1 (P : Params) : okC P [15, 16, 17, 18, 19, 20, 21, 22, 23, 24, 25, 26, 27, 28, 29] = true := by kernel_rfl
theorem okC_2 (P : Params) : okC P [30, 31, 32, 33, 34, 35, 36, 37, 38, 39, 40, 41, 42, 43, 44] = true := by kernel_rfl
theorem okC_3 (P : Params) : okC P [45, 46, 47, 48, 49, 50, 51, 52, 53, 54, 55, 56, 57, 58, 59] = true := by kernel_rfl
theorem okC_4 (P : Params) : okC P [60, 61, 62, 63, 64, 65, 66, 67, 68, 69, 70, 71, 72, 73, 74] = true := by kernel_rfl
theorem okC_5 (P : Params) : okC P [75, 76, 77, 78, 79, 80, 81, 82, 83, 84, 85, 86, 87, 88, 89] = true := by kernel_rfl
theorem cls_all (P : Params) (i : Nat) (h : i < 90) : ClsI (KK P) clsN par i := by
  refine cls_of ?_
  by_cases h0 : i < 15
  · exact List.all_eq_true.mp (okC_0 P) i (by
      have z : ∀ j : Nat, j < 15 → (j < 0 ∨ j ∈ ([0, 1, 2, 3, 4, 5, 6, 7, 8, 9, 10, 11, 12, 13, 14] : List Nat)) := by decide
      rcases z i (by omega) with z | z
      · exact absurd z (by omega)
      · exact z)
  by_cases h1 : i < 30
  · exact List.all_eq_true.mp (okC_1 P) i (by
      have z : ∀ j : Nat, j < 30 → (j < 15 ∨ j ∈ ([15, 16, 17, 18, 19, 20, 21, 22, 23, 24, 25, 26, 27, 28, 29] : List Nat)) := by decide
      rcases z i (by omega) with z | z
      · exact absurd z (by omega)
      · exact z)
  by_cases h2 : i < 45
  · exact List.all_eq_true.mp (okC_2 P) i (by
      have z : ∀ j : Nat, j < 45 → (j < 30 ∨ j ∈ ([30, 31, 32, 33, 34, 35, 36, 37, 38, 39, 40, 41, 42, 43, 44] : List Nat)) := by decide
      rcases z i (by omega) with z | z
      · exact absurd z (by omega)
      · exact z)
  by_cases h3 : i < 60
  · exact List.all_eq_true.mp (okC_3 P) i (by
      have z : ∀ j : Nat, j < 60 → (j < 45 ∨ j ∈ ([45, 46, 47, 48, 49, 50, 51, 52, 53, 54, 55, 56, 57, 58, 59] : List Nat)) := by decide
      rcases z i (by omega) with z | z
      · exact absurd z (by omega)
      · exact z)
  by_cases h4 : i < 75
  · exact List.all_eq_true.mp (okC_4 P) i (by
      have z : ∀ j : Nat, j < 75 → (j < 60 ∨ j ∈ ([60, 61, 62, 63, 64, 65, 66, 67, 68, 69, 70, 71, 72, 73, 74] : List Nat)) := by decide
      rcases z i (by omega) with z | z
      · exact absurd z (by omega)
      · exact z)
  · exact List.all_eq_true.mp (okC_5 P) i (by
      have z : ∀ j : Nat, j < 90 → (j < 75 ∨ j ∈ ([75, 76, 77, 78, 79, 80, 81, 82, 83, 84, 85, 86, 87, 88, 89] : List Nat)) := by decide
      rcases z i (by omega) with z | z
      · exact absurd z (by omega)
      · exact z)
theorem nodupN (P : Params) : (clsN.map (He.ga (KK P))).Nodup := by
  have h : decide (clsN.map (He.ga (KK P))).Nodup = true := by kernel_rfl
  exact of_decide_eq_true h
noncomputable def excO (P : Params) (l : List Nat) : Bool := l.all fun i => PySem.W.excIn (KK P) (gaI (KK P) clsN i) [.type "ValueError", .type "Exception", .type "BaseException", .type "object"] "ValueError.__new__"
theorem exO_0 (P : Params) : excO P [0, 1, 2, 3, 4, 5, 7, 8, 9, 10, 11, 13, 14, 16, 17] = true := by kernel_rfl
theorem exO_1 (P : Params) : excO P [18, 19, 20, 21, 22, 24, 25, 26, 27, 28, 29, 30, 31, 32, 33] = true := by kernel_rfl
theorem exO_2 (P : Params) : excO P [34, 35, 36, 37, 38, 39, 40, 41, 42, 43, 45, 46, 47, 48, 49] = true := by kernel_rfl
theorem exO_3 (P : Params) : excO P [51, 52, 53, 55, 56, 57, 60, 63, 64, 67, 69, 70, 71, 73, 74] = true := by kernel_rfl
theorem exO_4 (P : Params) : excO P [75, 76, 77, 79, 80, 81, 82, 83, 85, 86, 88] = true := by kernel_rfl
theorem exc_all (P : Params) (i : Nat) (h : i < 90) (hn : iniC.contains i = false) : PySem.W.excIn (KK P) (gaI (KK P) clsN i) [.type "ValueError", .type "Exception", .type "BaseException", .type "object"] "ValueError.__new__" = true := by
  have z : ∀ j : Nat, j < 90 → iniC.contains j = false → (j ∈ ([0, 1, 2, 3, 4, 5, 7, 8, 9, 10, 11, 13, 14, 16, 17] : List Nat) ∨ j ∈ ([18, 19, 20, 21, 22, 24, 25, 26, 27, 28, 29, 30, 31, 32, 33] : List Nat) ∨ j ∈ ([34, 35, 36, 37, 38, 39, 40, 41, 42, 43, 45, 46, 47, 48, 49] : List Nat) ∨ j ∈ ([51, 52, 53, 55, 56, 57, 60, 63, 64, 67, 69, 70, 71, 73, 74] : List Nat) ∨ j ∈ ([75, 76, 77, 79, 80, 81, 82, 83, 85, 86, 88] : List Nat)) := by decide
  rcases z i h hn with z | z | z | z | z
  · exact List.all_eq_true.mp (exO_0 P) i z
  · exact List.all_eq_true.mp (exO_1 P) i z
  · exact List.all_eq_true.mp (exO_2 P) i z
  · exact List.all_eq_true.mp (exO_3 P) i z
  · exact List.all_eq_true.mp (exO_4 P) i z
def iniChk (K : Fg) (i : Nat) (x qn : Str) (fs : List Str) : Bool :=
  iniB pw.main.file K x qn && (oexB K (gaI K clsN i) && (He.eqO (PySem.W.findIn K (.ref (gaI K clsN i)) "__setattr__") (some (some (.builtin "object.__setattr__"))) &&
  (He.eqO (PySem.W.findIn K (.ref (gaI K clsN i)) "__init__") (some (some (.ref (He.ma K (He.ga K x) "__init__")))) && (decide (PySem.W.typeIn K (.ref (He.ma K (He.ga K x) "__init__")) = some (.type "function")) &&
  (decide (PySem.W.mroIn K (gaI K clsN i) (.ref (gaI K clsN i)) = some true) && (decide (PySem.W.ks_superIn K (gaI K clsN i) (gaI K clsN i) "__init__" = some (some (.builtin "ValueError.__init__"))) && (decide (gaI K clsN i = He.ga K x) &&
  fs.all fun f => He.eqO (PySem.W.findIn K (.ref (gaI K clsN i)) f) (some none))))))))
structure IniF (K : Fg) (i : Nat) (x qn : Str) (fs : List Str) : Prop where
  b : iniB pw.main.file K x qn = true
  oex : oexB K (gaI K clsN i) = true
  sa : PySem.W.findIn K (.ref (gaI K clsN i)) "__setattr__" = some (some (.builtin "object.__setattr__"))
  iC : PySem.W.findIn K (.ref (gaI K clsN i)) "__init__" = some (some (.ref (He.ma K (He.ga K x) "__init__")))
  tI : PySem.W.typeIn K (.ref (He.ma K (He.ga K x) "__init__")) = some (.type "function")
  own : PySem.W.mroIn K (gaI K clsN i) (.ref (gaI K clsN i)) = some true
  sup : PySem.W.ks_superIn K (gaI K clsN i) (gaI K clsN i) "__init__" = some (some (.builtin "ValueError.__init__"))
  eqA : gaI K clsN i = He.ga K x
  no : ∀ f ∈ fs, PySem.W.findIn K (.ref (gaI K clsN i)) f = some none
theorem ini_f {K : Fg} {i : Nat} {x qn : Str} {fs : List Str} (h : iniChk K i x qn fs = true) : IniF K i x qn fs := by
  obtain ⟨h1, h⟩ := He.ba h
  obtain ⟨h2, h⟩ := He.ba h
  obtain ⟨h3, h⟩ := He.ba h
  obtain ⟨h4, h⟩ := He.ba h
  obtain ⟨h5, h⟩ := He.ba h
  obtain ⟨h6, h⟩ := He.ba h
  obtain ⟨h7, h⟩ := He.ba h
  obtain ⟨h8, h9⟩ := He.ba h
  exact ⟨h1, h2, He.eqO_ok h3, He.eqO_ok h4, of_decide_eq_true h5, of_decide_eq_true h6, of_decide_eq_true h7, of_decide_eq_true h8, fun f hf => He.eqO_ok (List.all_eq_true.mp h9 f hf)⟩
/-- an __init__ without defaults -/
def dfB (K : Fg) (x : Str) : Bool := match K.lookup (He.ma K (He.ga K x) "__init__") with
  | some ⟨_, _, .func fd, _⟩ => (match fd.defaults with
    | .none => true
    | _ => false)
  | _ => false
theorem df_of {K : Fg} {x : Str} {fd : FuncData} {oc : Value} {od : Option Addr} {sl : Array (Option Value)} (h : dfB K x = true) (lk : K.lookup (He.ma K (He.ga K x) "__init__") = some ⟨oc, od, .func fd, sl⟩) : fd.defaults = .none := by
  unfold dfB at h
  rw [lk] at h
  dsimp only at h
  split at h
  · assumption
  · cases h
abbrev in_BadBits : IniD := ⟨"BadBits", "BadBits.__init__", defArgs si_BadBits, defBody si_BadBits, defScope si_BadBits⟩
theorem fi_BadBits (P : Params) : iniChk (KK P) 6 "BadBits" "BadBits.__init__" ["at"] = true := by kernel_rfl
theorem df_BadBits (P : Params) : dfB (KK P) "BadBits" = true := by kernel_rfl
theorem vi_BadBits (P : Params) : iniW (KK P) in_BadBits.cls = in_BadBits.val := by kernel_rfl
abbrev in_BadEdits : IniD := ⟨"BadEdits", "BadEdits.__init__", defArgs si_BadEdits, defBody si_BadEdits, defScope si_BadEdits⟩
theorem fi_BadEdits (P : Params) : iniChk (KK P) 12 "BadEdits" "BadEdits.__init__" ["at"] = true := by kernel_rfl
theorem df_BadEdits (P : Params) : dfB (KK P) "BadEdits" = true := by kernel_rfl
theorem vi_BadEdits (P : Params) : iniW (KK P) in_BadEdits.cls = in_BadEdits.val := by kernel_rfl
abbrev in_BadForks : IniD := ⟨"BadForks", "BadForks.__init__", defArgs si_BadForks, defBody si_BadForks, defScope si_BadForks⟩
theorem fi_BadForks (P : Params) : iniChk (KK P) 15 "BadForks" "BadForks.__init__" ["at"] = true := by kernel_rfl
theorem df_BadForks (P : Params) : dfB (KK P) "BadForks" = true := by kernel_rfl
theorem vi_BadForks (P : Params) : iniW (KK P) in_BadForks.cls = in_BadForks.val := by kernel_rfl
abbrev in_BadLots : IniD := ⟨"BadLots", "BadLots.__init__", defArgs si_BadLots, defBody si_BadLots, defScope si_BadLots⟩
theorem fi_BadLots (P : Params) : iniChk (KK P) 23 "BadLots" "BadLots.__init__" ["word"] = true := by kernel_rfl
theorem df_BadLots (P : Params) : dfB (KK P) "BadLots" = true := by kernel_rfl
theorem vi_BadLots (P : Params) : iniW (KK P) in_BadLots.cls = in_BadLots.val := by kernel_rfl
abbrev in_BadSplit : IniD := ⟨"BadSplit", "BadSplit.__init__", defArgs si_BadSplit, defBody si_BadSplit, defScope si_BadSplit⟩
theorem fi_BadSplit (P : Params) : iniChk (KK P) 44 "BadSplit" "BadSplit.__init__" ["path"] = true := by kernel_rfl
theorem df_BadSplit (P : Params) : dfB (KK P) "BadSplit" = true := by kernel_rfl
theorem vi_BadSplit (P : Params) : iniW (KK P) in_BadSplit.cls = in_BadSplit.val := by kernel_rfl
abbrev in_BadText : IniD := ⟨"BadText", "BadText.__init__", defArgs si_BadText, defBody si_BadText, defScope si_BadText⟩
theorem fi_BadText (P : Params) : iniChk (KK P) 50 "BadText" "BadText.__init__" ["line", "column", "wanted"] = true := by kernel_rfl
theorem df_BadText (P : Params) : dfB (KK P) "BadText" = true := by kernel_rfl
theorem vi_BadText (P : Params) : iniW (KK P) in_BadText.cls = in_BadText.val := by kernel_rfl
abbrev in_BadWishes : IniD := ⟨"BadWishes", "BadWishes.__init__", defArgs si_BadWishes, defBody si_BadWishes, defScope si_BadWishes⟩
theorem fi_BadWishes (P : Params) : iniChk (KK P) 54 "BadWishes" "BadWishes.__init__" ["at"] = true := by kernel_rfl
theorem df_BadWishes (P : Params) : dfB (KK P) "BadWishes" = true := by kernel_rfl
theorem vi_BadWishes (P : Params) : iniW (KK P) in_BadWishes.cls = in_BadWishes.val := by kernel_rfl
abbrev in_Broken : IniD := ⟨"Broken", "Broken.__init__", defArgs si_Broken, defBody si_Broken, defScope si_Broken⟩
theorem fi_Broken (P : Params) : iniChk (KK P) 58 "Broken" "Broken.__init__" ["breach"] = true := by kernel_rfl
theorem df_Broken (P : Params) : dfB (KK P) "Broken" = true := by kernel_rfl
theorem vi_Broken (P : Params) : iniW (KK P) in_Broken.cls = in_Broken.val := by kernel_rfl
abbrev in_Collides : IniD := ⟨"Collides", "Collides.__init__", defArgs si_Collides, defBody si_Collides, defScope si_Collides⟩
theorem fi_Collides (P : Params) : iniChk (KK P) 59 "Collides" "Collides.__init__" ["first", "second"] = true := by kernel_rfl
theorem df_Collides (P : Params) : dfB (KK P) "Collides" = true := by kernel_rfl
theorem vi_Collides (P : Params) : iniW (KK P) in_Collides.cls = in_Collides.val := by kernel_rfl
abbrev in_Faulty : IniD := ⟨"Faulty", "Faulty.__init__", defArgs si_Faulty, defBody si_Faulty, defScope si_Faulty⟩
theorem fi_Faulty (P : Params) : iniChk (KK P) 61 "Faulty" "Faulty.__init__" ["fault"] = true := by kernel_rfl
theorem df_Faulty (P : Params) : dfB (KK P) "Faulty" = true := by kernel_rfl
theorem vi_Faulty (P : Params) : iniW (KK P) in_Faulty.cls = in_Faulty.val := by kernel_rfl
abbrev in_IsSure : IniD := ⟨"IsSure", "IsSure.__init__", defArgs si_IsSure, defBody si_IsSure, defScope si_IsSure⟩
theorem fi_IsSure (P : Params) : iniChk (KK P) 62 "IsSure" "IsSure.__init__" ["price"] = true := by kernel_rfl
theorem df_IsSure (P : Params) : dfB (KK P) "IsSure" = true := by kernel_rfl
theorem vi_IsSure (P : Params) : iniW (KK P) in_IsSure.cls = in_IsSure.val := by kernel_rfl
abbrev in_NoFit : IniD := ⟨"NoFit", "NoFit.__init__", defArgs si_NoFit, defBody si_NoFit, defScope si_NoFit⟩
theorem fi_NoFit (P : Params) : iniChk (KK P) 65 "NoFit" "NoFit.__init__" ["line", "column", "low", "high"] = true := by kernel_rfl
theorem df_NoFit (P : Params) : dfB (KK P) "NoFit" = true := by kernel_rfl
theorem vi_NoFit (P : Params) : iniW (KK P) in_NoFit.cls = in_NoFit.val := by kernel_rfl
abbrev in_NoPlace : IniD := ⟨"NoPlace", "NoPlace.__init__", defArgs si_NoPlace, defBody si_NoPlace, defScope si_NoPlace⟩
theorem fi_NoPlace (P : Params) : iniChk (KK P) 66 "NoPlace" "NoPlace.__init__" ["at"] = true := by kernel_rfl
theorem df_NoPlace (P : Params) : dfB (KK P) "NoPlace" = true := by kernel_rfl
theorem vi_NoPlace (P : Params) : iniW (KK P) in_NoPlace.cls = in_NoPlace.val := by kernel_rfl
abbrev in_NoRing : IniD := ⟨"NoRing", "NoRing.__init__", defArgs si_NoRing, defBody si_NoRing, defScope si_NoRing⟩
theorem fi_NoRing (P : Params) : iniChk (KK P) 68 "NoRing" "NoRing.__init__" ["name"] = true := by kernel_rfl
theorem df_NoRing (P : Params) : dfB (KK P) "NoRing" = true := by kernel_rfl
theorem vi_NoRing (P : Params) : iniW (KK P) in_NoRing.cls = in_NoRing.val := by kernel_rfl
abbrev in_NotGood : IniD := ⟨"NotGood", "NotGood.__init__", defArgs si_NotGood, defBody si_NotGood, defScope si_NotGood⟩
theorem fi_NotGood (P : Params) : iniChk (KK P) 72 "NotGood" "NotGood.__init__" ["number"] = true := by kernel_rfl
theorem df_NotGood (P : Params) : dfB (KK P) "NotGood" = true := by kernel_rfl
theorem vi_NotGood (P : Params) : iniW (KK P) in_NotGood.cls = in_NotGood.val := by kernel_rfl
abbrev in_NotWritten : IniD := ⟨"NotWritten", "NotWritten.__init__", defArgs si_NotWritten, defBody si_NotWritten, defScope si_NotWritten⟩
theorem fi_NotWritten (P : Params) : iniChk (KK P) 78 "NotWritten" "NotWritten.__init__" ["worth"] = true := by kernel_rfl
theorem df_NotWritten (P : Params) : dfB (KK P) "NotWritten" = true := by kernel_rfl
theorem vi_NotWritten (P : Params) : iniW (KK P) in_NotWritten.cls = in_NotWritten.val := by kernel_rfl
abbrev in_OpenWorth : IniD := ⟨"OpenWorth", "OpenWorth.__init__", defArgs si_OpenWorth, defBody si_OpenWorth, defScope si_OpenWorth⟩
theorem fi_OpenWorth (P : Params) : iniChk (KK P) 84 "OpenWorth" "OpenWorth.__init__" ["point"] = true := by kernel_rfl
theorem df_OpenWorth (P : Params) : dfB (KK P) "OpenWorth" = true := by kernel_rfl
theorem vi_OpenWorth (P : Params) : iniW (KK P) in_OpenWorth.cls = in_OpenWorth.val := by kernel_rfl
abbrev in_TooMany : IniD := ⟨"TooMany", "TooMany.__init__", defArgs si_TooMany, defBody si_TooMany, defScope si_TooMany⟩
theorem fi_TooMany (P : Params) : iniChk (KK P) 87 "TooMany" "TooMany.__init__" ["most"] = true := by kernel_rfl
theorem df_TooMany (P : Params) : dfB (KK P) "TooMany" = true := by kernel_rfl
theorem vi_TooMany (P : Params) : iniW (KK P) in_TooMany.cls = in_TooMany.val := by kernel_rfl
abbrev in_Wrong : IniD := ⟨"Wrong", "Wrong.__init__", defArgs si_Wrong, defBody si_Wrong, defScope si_Wrong⟩
theorem fi_Wrong (P : Params) : iniChk (KK P) 89 "Wrong" "Wrong.__init__" ["path", "word"] = true := by kernel_rfl
theorem df_Wrong (P : Params) : dfB (KK P) "Wrong" = true := by kernel_rfl
theorem vi_Wrong (P : Params) : iniW (KK P) in_Wrong.cls = in_Wrong.val := by kernel_rfl
abbrev dd_law_begun : He.DefD := ⟨("_law_begun", none), "_law_begun", "_law_begun", defArgs s_law_begun, defBody s_law_begun, defScope s_law_begun, [], []⟩
theorem fd_law_begun (P : Params) : (dd_law_begun.ok (KK P) && (He.Fa.glo "_law_begun").ok (KK P)) = true := by kernel_rfl
theorem vd_law_begun (P : Params) : He.fnW (KK P) dd_law_begun.at_ = dd_law_begun.val := by kernel_rfl
abbrev dd_law_mixed : He.DefD := ⟨("_law_mixed", none), "_law_mixed", "_law_mixed", defArgs s_law_mixed, defBody s_law_mixed, defScope s_law_mixed, [], []⟩
theorem fd_law_mixed (P : Params) : (dd_law_mixed.ok (KK P) && (He.Fa.glo "_law_mixed").ok (KK P)) = true := by kernel_rfl
theorem vd_law_mixed (P : Params) : He.fnW (KK P) dd_law_mixed.at_ = dd_law_mixed.val := by kernel_rfl
abbrev dd_law_take : He.DefD := ⟨("_law_take", none), "_law_take", "_law_take", defArgs s_law_take, defBody s_law_take, defScope s_law_take, [], []⟩
theorem fd_law_take (P : Params) : (dd_law_take.ok (KK P) && (He.Fa.glo "_law_take").ok (KK P)) = true := by kernel_rfl
theorem vd_law_take (P : Params) : He.fnW (KK P) dd_law_take.at_ = dd_law_take.val := by kernel_rfl
abbrev dd_law_pick : He.DefD := ⟨("_law_pick", none), "_law_pick", "_law_pick", defArgs s_law_pick, defBody s_law_pick, defScope s_law_pick, [], []⟩
theorem fd_law_pick (P : Params) : (dd_law_pick.ok (KK P) && (He.Fa.glo "_law_pick").ok (KK P)) = true := by kernel_rfl
theorem vd_law_pick (P : Params) : He.fnW (KK P) dd_law_pick.at_ = dd_law_pick.val := by kernel_rfl
abbrev dd_law_plain_errors : He.DefD := ⟨("_law_plain_errors", none), "_law_plain_errors", "_law_plain_errors", defArgs s_law_plain_errors, defBody s_law_plain_errors, defScope s_law_plain_errors, [], []⟩
theorem fd_law_plain_errors (P : Params) : (dd_law_plain_errors.ok (KK P) && (He.Fa.glo "_law_plain_errors").ok (KK P)) = true := by kernel_rfl
theorem vd_law_plain_errors (P : Params) : He.fnW (KK P) dd_law_plain_errors.at_ = dd_law_plain_errors.val := by kernel_rfl
abbrev dd_law_told_errors : He.DefD := ⟨("_law_told_errors", none), "_law_told_errors", "_law_told_errors", defArgs s_law_told_errors, defBody s_law_told_errors, defScope s_law_told_errors, [], []⟩
theorem fd_law_told_errors (P : Params) : (dd_law_told_errors.ok (KK P) && (He.Fa.glo "_law_told_errors").ok (KK P)) = true := by kernel_rfl
theorem vd_law_told_errors (P : Params) : He.fnW (KK P) dd_law_told_errors.at_ = dd_law_told_errors.val := by kernel_rfl
abbrev dd_law_classes : He.DefD := ⟨("_law_classes", none), "_law_classes", "_law_classes", defArgs s_law_classes, defBody s_law_classes, defScope s_law_classes, [], []⟩
theorem fd_law_classes (P : Params) : (dd_law_classes.ok (KK P) && (He.Fa.glo "_law_classes").ok (KK P)) = true := by kernel_rfl
theorem vd_law_classes (P : Params) : He.fnW (KK P) dd_law_classes.at_ = dd_law_classes.val := by kernel_rfl
abbrev dd_law : He.DefD := ⟨("law", none), "law", "law", defArgs s_law, defBody s_law, defScope s_law, [], []⟩
theorem fd_law (P : Params) : (dd_law.ok (KK P) && (He.Fa.glo "law").ok (KK P)) = true := by kernel_rfl
theorem vd_law (P : Params) : He.fnW (KK P) dd_law.at_ = dd_law.val := by kernel_rfl
theorem fr_ValueError (P : Params) : PySem.W.nsIn (KK P) mainGlobals "ValueError" = some none := by kernel_rfl
theorem fr_abs (P : Params) : PySem.W.nsIn (KK P) mainGlobals "abs" = some none := by kernel_rfl
theorem fr_enumerate (P : Params) : PySem.W.nsIn (KK P) mainGlobals "enumerate" = some none := by kernel_rfl
theorem fr_int (P : Params) : PySem.W.nsIn (KK P) mainGlobals "int" = some none := by kernel_rfl
theorem fr_isinstance (P : Params) : PySem.W.nsIn (KK P) mainGlobals "isinstance" = some none := by kernel_rfl
theorem fr_len (P : Params) : PySem.W.nsIn (KK P) mainGlobals "len" = some none := by kernel_rfl
theorem fr_repr (P : Params) : PySem.W.nsIn (KK P) mainGlobals "repr" = some none := by kernel_rfl
theorem fr_set (P : Params) : PySem.W.nsIn (KK P) mainGlobals "set" = some none := by kernel_rfl
theorem fr_super (P : Params) : PySem.W.nsIn (KK P) mainGlobals "super" = some none := by kernel_rfl
theorem opqF (P : Params) : PySem.W.nsIn (KK P) cStatics "thirdparty.any" = some none := by kernel_rfl
theorem objC (P : Params) : True := trivial
end K24

set_option Elab.async false
set_option linter.all false
set_option maxRecDepth 100000
set_option maxHeartbeats 4100000
/-! the end -/
namespace K24
open PySem PySem.W PySem.Calls PyProof.Rows HandSHeadRun L2 MP
theorem rels_ints {K : PySem.W.Frag} {H : Hp} : ∀ ns : List Int, Rels K H (ns.map D.int) (ns.map V.int)
  | [] => rfl
  | n :: r => ⟨.int n, r.map V.int, rfl, rfl, rels_ints r⟩
/-- the function object at an address -/
def fdAt (K : Fg) (a : Addr) (fd0 : FuncData) : FuncData := match K.lookup a with
  | some ⟨_, _, .func fd, _⟩ => fd
  | _ => fd0
theorem fdAt_of {K : Fg} {a : Addr} {fd0 fd : FuncData} {oc : Value} {od : Option Addr} {sl : Array (Option Value)} (h : K.lookup a = some ⟨oc, od, .func fd, sl⟩) : fdAt K a fd0 = fd := by
  unfold fdAt
  rw [h]
def fd0 : FuncData := { name := "", qualname := "", params := { posonlyargs := [], args := [], vararg := none, kwonlyargs := [], kw_defaults := [], kwarg := none, defaults := [] }, body := .stmts [], scope := { kind := .function, names := [], isGenerator := false, isCoroutine := false }, globals := 0, closure := [], defaults := .none, kwdefaults := .none }
theorem fun_at {K : Fg} {x qual : Str} {st : Stmt} (c : (He.DefD.ok (K := K) ⟨(x, none), qual, qual, defArgs st, defBody st, defScope st, [], []⟩ && (He.Fa.glo x).ok K) = true)
    (v : He.fnW K (x, none) = He.DefD.val ⟨(x, none), qual, qual, defArgs st, defBody st, defScope st, [], []⟩) : L2.Fun K qual qual st (He.ga K x) (fdAt K (He.ga K x) fd0) := by
  obtain ⟨c1, c2⟩ := He.ba c
  obtain ⟨fd, F⟩ := He.DefD.funD (d := ⟨(x, none), qual, qual, defArgs st, defBody st, defScope st, [], []⟩) v c1
  have G : L2.Fun K qual qual st (He.ga K x) fd := fun_of F
  have e : fdAt K (He.ga K x) fd0 = fd := by
    obtain ⟨oc, od, kV, doc, pm, an, cdv, ct, osl, _, lk, _⟩ := G.ex
    exact fdAt_of lk
  rw [e]
  exact G
theorem glo_at {K : Fg} {h : Heap} {mg : Str → Option Value} {d : He.DefD} {x : Str} (X : K.In h) (G : h.Ns mainGlobals mg) (c : (d.ok K && (He.Fa.glo x).ok K) = true) : mg x = some (.ref (He.ga K x)) := He.glo_ok X G (He.ba c).2
/-- what is said of the written part -/
structure Facts (K : Fg) : Prop where
  cls_all : ∀ i, i < 90 → ClsI K clsN par i
  nodupN : (clsN.map (He.ga K)).Nodup
  exc_all : ∀ i, i < 90 → iniC.contains i = false → PySem.W.excIn K (gaI K clsN i) [.type "ValueError", .type "Exception", .type "BaseException", .type "object"] "ValueError.__new__" = true
  opqF : PySem.W.nsIn K cStatics "thirdparty.any" = some none
  fi_BadBits : IniF K 6 "BadBits" "BadBits.__init__" ["at"]
  vi_BadBits : iniW K in_BadBits.cls = in_BadBits.val
  df_BadBits : dfB K "BadBits" = true
  fi_BadEdits : IniF K 12 "BadEdits" "BadEdits.__init__" ["at"]
  vi_BadEdits : iniW K in_BadEdits.cls = in_BadEdits.val
  df_BadEdits : dfB K "BadEdits" = true
  fi_BadForks : IniF K 15 "BadForks" "BadForks.__init__" ["at"]
  vi_BadForks : iniW K in_BadForks.cls = in_BadForks.val
  df_BadForks : dfB K "BadForks" = true
  fi_BadLots : IniF K 23 "BadLots" "BadLots.__init__" ["word"]
  vi_BadLots : iniW K in_BadLots.cls = in_BadLots.val
  df_BadLots : dfB K "BadLots" = true
  fi_BadSplit : IniF K 44 "BadSplit" "BadSplit.__init__" ["path"]
  vi_BadSplit : iniW K in_BadSplit.cls = in_BadSplit.val
  df_BadSplit : dfB K "BadSplit" = true
  fi_BadText : IniF K 50 "BadText" "BadText.__init__" ["line", "column", "wanted"]
  vi_BadText : iniW K in_BadText.cls = in_BadText.val
  df_BadText : dfB K "BadText" = true
  fi_BadWishes : IniF K 54 "BadWishes" "BadWishes.__init__" ["at"]
  vi_BadWishes : iniW K in_BadWishes.cls = in_BadWishes.val
  df_BadWishes : dfB K "BadWishes" = true
  fi_Broken : IniF K 58 "Broken" "Broken.__init__" ["breach"]
  vi_Broken : iniW K in_Broken.cls = in_Broken.val
  df_Broken : dfB K "Broken" = true
  fi_Collides : IniF K 59 "Collides" "Collides.__init__" ["first", "second"]
  vi_Collides : iniW K in_Collides.cls = in_Collides.val
  df_Collides : dfB K "Collides" = true
  fi_Faulty : IniF K 61 "Faulty" "Faulty.__init__" ["fault"]
  vi_Faulty : iniW K in_Faulty.cls = in_Faulty.val
  df_Faulty : dfB K "Faulty" = true
  fi_IsSure : IniF K 62 "IsSure" "IsSure.__init__" ["price"]
  vi_IsSure : iniW K in_IsSure.cls = in_IsSure.val
  df_IsSure : dfB K "IsSure" = true
  fi_NoFit : IniF K 65 "NoFit" "NoFit.__init__" ["line", "column", "low", "high"]
  vi_NoFit : iniW K in_NoFit.cls = in_NoFit.val
  df_NoFit : dfB K "NoFit" = true
  fi_NoPlace : IniF K 66 "NoPlace" "NoPlace.__init__" ["at"]
  vi_NoPlace : iniW K in_NoPlace.cls = in_NoPlace.val
  df_NoPlace : dfB K "NoPlace" = true
  fi_NoRing : IniF K 68 "NoRing" "NoRing.__init__" ["name"]
  vi_NoRing : iniW K in_NoRing.cls = in_NoRing.val
  df_NoRing : dfB K "NoRing" = true
  fi_NotGood : IniF K 72 "NotGood" "NotGood.__init__" ["number"]
  vi_NotGood : iniW K in_NotGood.cls = in_NotGood.val
  df_NotGood : dfB K "NotGood" = true
  fi_NotWritten : IniF K 78 "NotWritten" "NotWritten.__init__" ["worth"]
  vi_NotWritten : iniW K in_NotWritten.cls = in_NotWritten.val
  df_NotWritten : dfB K "NotWritten" = true
  fi_OpenWorth : IniF K 84 "OpenWorth" "OpenWorth.__init__" ["point"]
  vi_OpenWorth : iniW K in_OpenWorth.cls = in_OpenWorth.val
  df_OpenWorth : dfB K "OpenWorth" = true
  fi_TooMany : IniF K 87 "TooMany" "TooMany.__init__" ["most"]
  vi_TooMany : iniW K in_TooMany.cls = in_TooMany.val
  df_TooMany : dfB K "TooMany" = true
  fi_Wrong : IniF K 89 "Wrong" "Wrong.__init__" ["path", "word"]
  vi_Wrong : iniW K in_Wrong.cls = in_Wrong.val
  df_Wrong : dfB K "Wrong" = true
  fd_law_begun : (dd_law_begun.ok K && (He.Fa.glo "_law_begun").ok K) = true
  vd_law_begun : He.fnW K dd_law_begun.at_ = dd_law_begun.val
  fd_law_mixed : (dd_law_mixed.ok K && (He.Fa.glo "_law_mixed").ok K) = true
  vd_law_mixed : He.fnW K dd_law_mixed.at_ = dd_law_mixed.val
  fd_law_take : (dd_law_take.ok K && (He.Fa.glo "_law_take").ok K) = true
  vd_law_take : He.fnW K dd_law_take.at_ = dd_law_take.val
  fd_law_pick : (dd_law_pick.ok K && (He.Fa.glo "_law_pick").ok K) = true
  vd_law_pick : He.fnW K dd_law_pick.at_ = dd_law_pick.val
  fd_law_plain_errors : (dd_law_plain_errors.ok K && (He.Fa.glo "_law_plain_errors").ok K) = true
  vd_law_plain_errors : He.fnW K dd_law_plain_errors.at_ = dd_law_plain_errors.val
  fd_law_told_errors : (dd_law_told_errors.ok K && (He.Fa.glo "_law_told_errors").ok K) = true
  vd_law_told_errors : He.fnW K dd_law_told_errors.at_ = dd_law_told_errors.val
  fd_law_classes : (dd_law_classes.ok K && (He.Fa.glo "_law_classes").ok K) = true
  vd_law_classes : He.fnW K dd_law_classes.at_ = dd_law_classes.val
  fd_law : (dd_law.ok K && (He.Fa.glo "law").ok K) = true
  vd_law : He.fnW K dd_law.at_ = dd_law.val
  fr_ValueError : PySem.W.nsIn K mainGlobals "ValueError" = some none
  fr_abs : PySem.W.nsIn K mainGlobals "abs" = some none
  fr_enumerate : PySem.W.nsIn K mainGlobals "enumerate" = some none
  fr_int : PySem.W.nsIn K mainGlobals "int" = some none
  fr_isinstance : PySem.W.nsIn K mainGlobals "isinstance" = some none
  fr_len : PySem.W.nsIn K mainGlobals "len" = some none
  fr_repr : PySem.W.nsIn K mainGlobals "repr" = some none
  fr_set : PySem.W.nsIn K mainGlobals "set" = some none
  fr_super : PySem.W.nsIn K mainGlobals "super" = some none
theorem factsK (P : Params) : Facts (KK P) := {
  cls_all := cls_all P
  nodupN := nodupN P
  exc_all := exc_all P
  opqF := opqF P
  fi_BadBits := ini_f (fi_BadBits P)
  vi_BadBits := vi_BadBits P
  df_BadBits := df_BadBits P
  fi_BadEdits := ini_f (fi_BadEdits P)
  vi_BadEdits := vi_BadEdits P
  df_BadEdits := df_BadEdits P
  fi_BadForks := ini_f (fi_BadForks P)
  vi_BadForks := vi_BadForks P
  df_BadForks := df_BadForks P
  fi_BadLots := ini_f (fi_BadLots P)
  vi_BadLots := vi_BadLots P
  df_BadLots := df_BadLots P
  fi_BadSplit := ini_f (fi_BadSplit P)
  vi_BadSplit := vi_BadSplit P
  df_BadSplit := df_BadSplit P
  fi_BadText := ini_f (fi_BadText P)
  vi_BadText := vi_BadText P
  df_BadText := df_BadText P
  fi_BadWishes := ini_f (fi_BadWishes P)
  vi_BadWishes := vi_BadWishes P
  df_BadWishes := df_BadWishes P
  fi_Broken := ini_f (fi_Broken P)
  vi_Broken := vi_Broken P
  df_Broken := df_Broken P
  fi_Collides := ini_f (fi_Collides P)
  vi_Collides := vi_Collides P
  df_Collides := df_Collides P
  fi_Faulty := ini_f (fi_Faulty P)
  vi_Faulty := vi_Faulty P
  df_Faulty := df_Faulty P
  fi_IsSure := ini_f (fi_IsSure P)
  vi_IsSure := vi_IsSure P
  df_IsSure := df_IsSure P
  fi_NoFit := ini_f (fi_NoFit P)
  vi_NoFit := vi_NoFit P
  df_NoFit := df_NoFit P
  fi_NoPlace := ini_f (fi_NoPlace P)
  vi_NoPlace := vi_NoPlace P
  df_NoPlace := df_NoPlace P
  fi_NoRing := ini_f (fi_NoRing P)
  vi_NoRing := vi_NoRing P
  df_NoRing := df_NoRing P
  fi_NotGood := ini_f (fi_NotGood P)
  vi_NotGood := vi_NotGood P
  df_NotGood := df_NotGood P
  fi_NotWritten := ini_f (fi_NotWritten P)
  vi_NotWritten := vi_NotWritten P
  df_NotWritten := df_NotWritten P
  fi_OpenWorth := ini_f (fi_OpenWorth P)
  vi_OpenWorth := vi_OpenWorth P
  df_OpenWorth := df_OpenWorth P
  fi_TooMany := ini_f (fi_TooMany P)
  vi_TooMany := vi_TooMany P
  df_TooMany := df_TooMany P
  fi_Wrong := ini_f (fi_Wrong P)
  vi_Wrong := vi_Wrong P
  df_Wrong := df_Wrong P
  fd_law_begun := fd_law_begun P
  vd_law_begun := vd_law_begun P
  fd_law_mixed := fd_law_mixed P
  vd_law_mixed := vd_law_mixed P
  fd_law_take := fd_law_take P
  vd_law_take := vd_law_take P
  fd_law_pick := fd_law_pick P
  vd_law_pick := vd_law_pick P
  fd_law_plain_errors := fd_law_plain_errors P
  vd_law_plain_errors := vd_law_plain_errors P
  fd_law_told_errors := fd_law_told_errors P
  vd_law_told_errors := vd_law_told_errors P
  fd_law_classes := fd_law_classes P
  vd_law_classes := vd_law_classes P
  fd_law := fd_law P
  vd_law := vd_law P
  fr_ValueError := fr_ValueError P
  fr_abs := fr_abs P
  fr_enumerate := fr_enumerate P
  fr_int := fr_int P
  fr_isinstance := fr_isinstance P
  fr_len := fr_len P
  fr_repr := fr_repr P
  fr_set := fr_set P
  fr_super := fr_super P }
noncomputable def mkA (K : Fg) : Ad := {
  f_law_begun := He.ga K "_law_begun"
  d_law_begun := fdAt K (He.ga K "_law_begun") fd0
  f_law_mixed := He.ga K "_law_mixed"
  d_law_mixed := fdAt K (He.ga K "_law_mixed") fd0
  f_law_take := He.ga K "_law_take"
  d_law_take := fdAt K (He.ga K "_law_take") fd0
  f_law_pick := He.ga K "_law_pick"
  d_law_pick := fdAt K (He.ga K "_law_pick") fd0
  f_law_plain_errors := He.ga K "_law_plain_errors"
  d_law_plain_errors := fdAt K (He.ga K "_law_plain_errors") fd0
  f_law_told_errors := He.ga K "_law_told_errors"
  d_law_told_errors := fdAt K (He.ga K "_law_told_errors") fd0
  f_law_classes := He.ga K "_law_classes"
  d_law_classes := fdAt K (He.ga K "_law_classes") fd0
  f_law := He.ga K "law"
  d_law := fdAt K (He.ga K "law") fd0
  i_BadBits := He.ma K (He.ga K "BadBits") "__init__"
  di_BadBits := fdAt K (He.ma K (He.ga K "BadBits") "__init__") fd0
  i_BadEdits := He.ma K (He.ga K "BadEdits") "__init__"
  di_BadEdits := fdAt K (He.ma K (He.ga K "BadEdits") "__init__") fd0
  i_BadForks := He.ma K (He.ga K "BadForks") "__init__"
  di_BadForks := fdAt K (He.ma K (He.ga K "BadForks") "__init__") fd0
  i_BadLots := He.ma K (He.ga K "BadLots") "__init__"
  di_BadLots := fdAt K (He.ma K (He.ga K "BadLots") "__init__") fd0
  i_BadSplit := He.ma K (He.ga K "BadSplit") "__init__"
  di_BadSplit := fdAt K (He.ma K (He.ga K "BadSplit") "__init__") fd0
  i_BadText := He.ma K (He.ga K "BadText") "__init__"
  di_BadText := fdAt K (He.ma K (He.ga K "BadText") "__init__") fd0
  i_BadWishes := He.ma K (He.ga K "BadWishes") "__init__"
  di_BadWishes := fdAt K (He.ma K (He.ga K "BadWishes") "__init__") fd0
  i_Broken := He.ma K (He.ga K "Broken") "__init__"
  di_Broken := fdAt K (He.ma K (He.ga K "Broken") "__init__") fd0
  i_Collides := He.ma K (He.ga K "Collides") "__init__"
  di_Collides := fdAt K (He.ma K (He.ga K "Collides") "__init__") fd0
  i_Faulty := He.ma K (He.ga K "Faulty") "__init__"
  di_Faulty := fdAt K (He.ma K (He.ga K "Faulty") "__init__") fd0
  i_IsSure := He.ma K (He.ga K "IsSure") "__init__"
  di_IsSure := fdAt K (He.ma K (He.ga K "IsSure") "__init__") fd0
  i_NoFit := He.ma K (He.ga K "NoFit") "__init__"
  di_NoFit := fdAt K (He.ma K (He.ga K "NoFit") "__init__") fd0
  i_NoPlace := He.ma K (He.ga K "NoPlace") "__init__"
  di_NoPlace := fdAt K (He.ma K (He.ga K "NoPlace") "__init__") fd0
  i_NoRing := He.ma K (He.ga K "NoRing") "__init__"
  di_NoRing := fdAt K (He.ma K (He.ga K "NoRing") "__init__") fd0
  i_NotGood := He.ma K (He.ga K "NotGood") "__init__"
  di_NotGood := fdAt K (He.ma K (He.ga K "NotGood") "__init__") fd0
  i_NotWritten := He.ma K (He.ga K "NotWritten") "__init__"
  di_NotWritten := fdAt K (He.ma K (He.ga K "NotWritten") "__init__") fd0
  i_OpenWorth := He.ma K (He.ga K "OpenWorth") "__init__"
  di_OpenWorth := fdAt K (He.ma K (He.ga K "OpenWorth") "__init__") fd0
  i_TooMany := He.ma K (He.ga K "TooMany") "__init__"
  di_TooMany := fdAt K (He.ma K (He.ga K "TooMany") "__init__") fd0
  i_Wrong := He.ma K (He.ga K "Wrong") "__init__"
  di_Wrong := fdAt K (He.ma K (He.ga K "Wrong") "__init__") fd0
  cls := gaI K clsN
  nm := nmI K clsN }
theorem nm_at {K : Fg} (Φ : Facts K) (i : Nat) (h : i < 90) : (mkA K).nm ((mkA K).cls i) = some i := nmI_get (Φ.nodupN) h
theorem inv_at {K : Fg} (Φ : Facts K) {a : Addr} {i : Nat} (h : (mkA K).nm a = some i) : i < 90 ∧ a = gaI K clsN i := nmI_inv h
theorem bel_ok : ∀ i, i < clsN.length → (below i).all (fun j => decide (j = i) || (par i).contains j) = true ∧ (below i).contains i = true ∧ (par i).all (fun j => decide (j < clsN.length) && (below i).contains j) = true := by
  have h : (List.range 90).all (fun i => ((below i).all (fun j => decide (j = i) || (par i).contains j)) && ((below i).contains i && (par i).all (fun j => decide (j < clsN.length) && (below i).contains j))) = true := by decide +kernel
  intro i hi
  have z := List.all_eq_true.mp h i (List.mem_range.mpr hi)
  obtain ⟨z1, z⟩ := He.ba z
  obtain ⟨z2, z3⟩ := He.ba z
  exact ⟨z1, z2, z3⟩
theorem kit_at {K : Fg} (Φ : Facts K) {i j : Nat} (hi : i < 90) (hj : j < 90) : PySem.W.kitOne K (.ref (gaI K clsN i)) (.ref (gaI K clsN j)) = some ((below i).contains j) ∧ PySem.W.exmOne K (.ref (gaI K clsN i)) (.ref (gaI K clsN j)) = some ((below i).contains j) := cls_kit (K := K) (N := clsN) (par := par) (bel := below) (Φ.nodupN) (fun i h => Φ.cls_all i h) bel_ok (i := i) (j := j) hi hj
theorem se_at {K : Fg} (Φ : Facts K) {i : Nat} (hi : i < 90) : PySem.W.subIn K (.ref (gaI K clsN i)) (.type "BaseException") = some true := (mro_type (Φ.cls_all i hi).mro).trans (congrArg some (by decide))
theorem oex_at {K : Fg} (Φ : Facts K) {i : Nat} {x qn : Str} {fs : List Str} (hi : i < 90) (F : IniF K i x qn fs) : OexC K (gaI K clsN i) := ⟨oex_of F.oex, F.sa, se_at Φ hi, (Φ.cls_all i hi).ty, (Φ.cls_all i hi).kp⟩
theorem init_at {l : OpenLaw} (hl : l.prog = pw) {K : Fg} (Φ : Facts K) {i : Nat} {x qn : Str} {fs : List Str} {d : IniD} (hi : i < 90) (F : IniF K i x qn fs) (ex : d.cls = x) (eq : d.qual = qn) (v : iniW K d.cls = d.val) :
    ∃ dV kV doc pm an cda ct cc oc od osl, fdAt K (He.ma K (He.ga K x) "__init__") fd0 = PySem.W.ksFn "__init__" qn d.params d.body d.scope dV kV doc pm an (.ref cda) ct cc ∧ K.lookup (He.ma K (He.ga K x) "__init__") = some ⟨oc, od, .func (fdAt K (He.ma K (He.ga K x) "__init__") fd0), osl⟩ ∧ PySem.W.codeIn K (.ref cda) qn = true ∧ SupF l.prog K cda cc (gaI K clsN i) := by
  subst ex eq
  rw [hl]
  obtain ⟨dV, kV, doc, pm, an, cda, ct, cc, oc, od, osl, lk, hc, hco, hce⟩ := ini_of v F.b
  have e := fdAt_of (fd0 := fd0) lk
  refine ⟨dV, kV, doc, pm, an, cda, ct, cc, oc, od, osl, e, by rw [e]; exact lk, hc, ?_⟩
  obtain ⟨cl, dd, vs, sl, f, tf, h1, h2, h3⟩ := hco
  obtain ⟨cl2, dd2, sl2, h4⟩ := hce
  exact ⟨⟨cl, dd, vs, sl, f, tf, h1, h2, h3⟩, ⟨cl2, dd2, sl2, by rw [F.eqA]; exact h4⟩, F.own, by rfl, Φ.opqF, F.sup, (mro_type (Φ.cls_all i hi).mro).trans (congrArg some (by decide))⟩
theorem fx_one {K : Fg} (Φ : Facts K) {i : Nat} {x qn : Str} {fs : List Str} {C : Addr} {n : Str} (hi : i < 90) (F : IniF K i x qn fs) (e : (decide (C = (mkA K).cls i) && fs.any (fun f => decide (n = f))) = true) : ExcC K C ∧ PySem.W.findIn K (.ref C) n = some none := by
  obtain ⟨e1, e2⟩ := He.ba e
  have h1 : C = gaI K clsN i := of_decide_eq_true e1
  obtain ⟨f, hf, e3⟩ := List.any_eq_true.mp e2
  have h2 : n = f := of_decide_eq_true e3
  rw [h1, h2]
  exact ⟨(Φ.cls_all i hi).xc, F.no f hf⟩
theorem txt_at {l : OpenLaw} (hl : l.prog = pw) {K : Fg} (Φ : Facts K) {h base : Heap} {mg : Str → Option Value} (X : K.In h) (G : h.Ns mainGlobals mg) : Txt l.prog K base mg (mkA K) := {
  F_law_begun := (fun_at (x := "_law_begun") (qual := "_law_begun") (st := s_law_begun) (Φ.fd_law_begun) (Φ.vd_law_begun))
  g_law_begun := glo_at X G (Φ.fd_law_begun)
  b_law_begun := L2.Fun.binds (fun_at (x := "_law_begun") (qual := "_law_begun") (st := s_law_begun) (Φ.fd_law_begun) (Φ.vd_law_begun)) (ps := ["script"]) fun _ _ _ _ _ _ us hl => match us, hl with | [_], _ => rfl
  F_law_mixed := (fun_at (x := "_law_mixed") (qual := "_law_mixed") (st := s_law_mixed) (Φ.fd_law_mixed) (Φ.vd_law_mixed))
  g_law_mixed := glo_at X G (Φ.fd_law_mixed)
  b_law_mixed := L2.Fun.binds (fun_at (x := "_law_mixed") (qual := "_law_mixed") (st := s_law_mixed) (Φ.fd_law_mixed) (Φ.vd_law_mixed)) (ps := ["draw"]) fun _ _ _ _ _ _ us hl => match us, hl with | [_], _ => rfl
  F_law_take := (fun_at (x := "_law_take") (qual := "_law_take") (st := s_law_take) (Φ.fd_law_take) (Φ.vd_law_take))
  g_law_take := glo_at X G (Φ.fd_law_take)
  b_law_take := L2.Fun.binds (fun_at (x := "_law_take") (qual := "_law_take") (st := s_law_take) (Φ.fd_law_take) (Φ.vd_law_take)) (ps := ["draw", "many"]) fun _ _ _ _ _ _ us hl => match us, hl with | [_, _], _ => rfl
  F_law_pick := (fun_at (x := "_law_pick") (qual := "_law_pick") (st := s_law_pick) (Φ.fd_law_pick) (Φ.vd_law_pick))
  g_law_pick := glo_at X G (Φ.fd_law_pick)
  b_law_pick := L2.Fun.binds (fun_at (x := "_law_pick") (qual := "_law_pick") (st := s_law_pick) (Φ.fd_law_pick) (Φ.vd_law_pick)) (ps := ["draw", "some"]) fun _ _ _ _ _ _ us hl => match us, hl with | [_, _], _ => rfl
  F_law_plain_errors := (fun_at (x := "_law_plain_errors") (qual := "_law_plain_errors") (st := s_law_plain_errors) (Φ.fd_law_plain_errors) (Φ.vd_law_plain_errors))
  g_law_plain_errors := glo_at X G (Φ.fd_law_plain_errors)
  b_law_plain_errors := L2.Fun.binds (fun_at (x := "_law_plain_errors") (qual := "_law_plain_errors") (st := s_law_plain_errors) (Φ.fd_law_plain_errors) (Φ.vd_law_plain_errors)) (ps := []) fun _ _ _ _ _ _ us hl => match us, hl with | [], _ => rfl
  F_law_told_errors := (fun_at (x := "_law_told_errors") (qual := "_law_told_errors") (st := s_law_told_errors) (Φ.fd_law_told_errors) (Φ.vd_law_told_errors))
  g_law_told_errors := glo_at X G (Φ.fd_law_told_errors)
  b_law_told_errors := L2.Fun.binds (fun_at (x := "_law_told_errors") (qual := "_law_told_errors") (st := s_law_told_errors) (Φ.fd_law_told_errors) (Φ.vd_law_told_errors)) (ps := ["one", "other"]) fun _ _ _ _ _ _ us hl => match us, hl with | [_, _], _ => rfl
  F_law_classes := (fun_at (x := "_law_classes") (qual := "_law_classes") (st := s_law_classes) (Φ.fd_law_classes) (Φ.vd_law_classes))
  g_law_classes := glo_at X G (Φ.fd_law_classes)
  b_law_classes := L2.Fun.binds (fun_at (x := "_law_classes") (qual := "_law_classes") (st := s_law_classes) (Φ.fd_law_classes) (Φ.vd_law_classes)) (ps := ["error"]) fun _ _ _ _ _ _ us hl => match us, hl with | [_], _ => rfl
  F_law := (fun_at (x := "law") (qual := "law") (st := s_law) (Φ.fd_law) (Φ.vd_law))
  g_law := glo_at X G (Φ.fd_law)
  b_law := L2.Fun.binds (fun_at (x := "law") (qual := "law") (st := s_law) (Φ.fd_law) (Φ.vd_law)) (ps := ["script"]) fun _ _ _ _ _ _ us hl => match us, hl with | [_], _ => rfl
  g_cls := fun i hi => He.glo_ok X G (Φ.cls_all i hi).glo
  x_ := fun i hi hn => Φ.exc_all i hi hn
  k_ := fun i hi => (Φ.cls_all i hi).kp
  e_ := fun i hi => se_at Φ hi
  t_ := fun i hi => (Φ.cls_all i hi).ty
  O_BadBits := oex_at Φ (by decide) (Φ.fi_BadBits)
  iC_BadBits := (Φ.fi_BadBits).iC
  tI_BadBits := (Φ.fi_BadBits).tI
  bI_BadBits := by
    obtain ⟨dV, kV, doc, pm, an, cda, ct, cc, oc, od, osl, e, lk, _⟩ := init_at (l := l) hl Φ (d := in_BadBits) (by decide) (Φ.fi_BadBits) rfl rfl (Φ.vi_BadBits)
    show Binds _ (fdAt K (He.ma K (He.ga K "BadBits") "__init__") fd0) _ _
    have ed := df_of Φ.df_BadBits lk
    rw [e] at ed ⊢
    have ed2 : dV = .none := ed
    subst ed2
    exact .all fun us hl => match us, hl with | [_, _], _ => rfl
  F_init_BadBits := init_at hl Φ (d := in_BadBits) (by decide) (Φ.fi_BadBits) rfl rfl (Φ.vi_BadBits)
  fn_BadBits := (Φ.fi_BadBits).no
  O_BadEdits := oex_at Φ (by decide) (Φ.fi_BadEdits)
  iC_BadEdits := (Φ.fi_BadEdits).iC
  tI_BadEdits := (Φ.fi_BadEdits).tI
  bI_BadEdits := by
    obtain ⟨dV, kV, doc, pm, an, cda, ct, cc, oc, od, osl, e, lk, _⟩ := init_at (l := l) hl Φ (d := in_BadEdits) (by decide) (Φ.fi_BadEdits) rfl rfl (Φ.vi_BadEdits)
    show Binds _ (fdAt K (He.ma K (He.ga K "BadEdits") "__init__") fd0) _ _
    have ed := df_of Φ.df_BadEdits lk
    rw [e] at ed ⊢
    have ed2 : dV = .none := ed
    subst ed2
    exact .all fun us hl => match us, hl with | [_, _], _ => rfl
  F_init_BadEdits := init_at hl Φ (d := in_BadEdits) (by decide) (Φ.fi_BadEdits) rfl rfl (Φ.vi_BadEdits)
  fn_BadEdits := (Φ.fi_BadEdits).no
  O_BadForks := oex_at Φ (by decide) (Φ.fi_BadForks)
  iC_BadForks := (Φ.fi_BadForks).iC
  tI_BadForks := (Φ.fi_BadForks).tI
  bI_BadForks := by
    obtain ⟨dV, kV, doc, pm, an, cda, ct, cc, oc, od, osl, e, lk, _⟩ := init_at (l := l) hl Φ (d := in_BadForks) (by decide) (Φ.fi_BadForks) rfl rfl (Φ.vi_BadForks)
    show Binds _ (fdAt K (He.ma K (He.ga K "BadForks") "__init__") fd0) _ _
    have ed := df_of Φ.df_BadForks lk
    rw [e] at ed ⊢
    have ed2 : dV = .none := ed
    subst ed2
    exact .all fun us hl => match us, hl with | [_, _], _ => rfl
  F_init_BadForks := init_at hl Φ (d := in_BadForks) (by decide) (Φ.fi_BadForks) rfl rfl (Φ.vi_BadForks)
  fn_BadForks := (Φ.fi_BadForks).no
  O_BadLots := oex_at Φ (by decide) (Φ.fi_BadLots)
  iC_BadLots := (Φ.fi_BadLots).iC
  tI_BadLots := (Φ.fi_BadLots).tI
  bI_BadLots := by
    obtain ⟨dV, kV, doc, pm, an, cda, ct, cc, oc, od, osl, e, lk, _⟩ := init_at (l := l) hl Φ (d := in_BadLots) (by decide) (Φ.fi_BadLots) rfl rfl (Φ.vi_BadLots)
    show Binds _ (fdAt K (He.ma K (He.ga K "BadLots") "__init__") fd0) _ _
    have ed := df_of Φ.df_BadLots lk
    rw [e] at ed ⊢
    have ed2 : dV = .none := ed
    subst ed2
    exact .all fun us hl => match us, hl with | [_, _], _ => rfl
  F_init_BadLots := init_at hl Φ (d := in_BadLots) (by decide) (Φ.fi_BadLots) rfl rfl (Φ.vi_BadLots)
  fn_BadLots := (Φ.fi_BadLots).no
  O_BadSplit := oex_at Φ (by decide) (Φ.fi_BadSplit)
  iC_BadSplit := (Φ.fi_BadSplit).iC
  tI_BadSplit := (Φ.fi_BadSplit).tI
  bI_BadSplit := by
    obtain ⟨dV, kV, doc, pm, an, cda, ct, cc, oc, od, osl, e, lk, _⟩ := init_at (l := l) hl Φ (d := in_BadSplit) (by decide) (Φ.fi_BadSplit) rfl rfl (Φ.vi_BadSplit)
    show Binds _ (fdAt K (He.ma K (He.ga K "BadSplit") "__init__") fd0) _ _
    have ed := df_of Φ.df_BadSplit lk
    rw [e] at ed ⊢
    have ed2 : dV = .none := ed
    subst ed2
    exact .all fun us hl => match us, hl with | [_, _], _ => rfl
  F_init_BadSplit := init_at hl Φ (d := in_BadSplit) (by decide) (Φ.fi_BadSplit) rfl rfl (Φ.vi_BadSplit)
  fn_BadSplit := (Φ.fi_BadSplit).no
  O_BadText := oex_at Φ (by decide) (Φ.fi_BadText)
  iC_BadText := (Φ.fi_BadText).iC
  tI_BadText := (Φ.fi_BadText).tI
  bI_BadText := by
    obtain ⟨dV, kV, doc, pm, an, cda, ct, cc, oc, od, osl, e, lk, _⟩ := init_at (l := l) hl Φ (d := in_BadText) (by decide) (Φ.fi_BadText) rfl rfl (Φ.vi_BadText)
    show Binds _ (fdAt K (He.ma K (He.ga K "BadText") "__init__") fd0) _ _
    have ed := df_of Φ.df_BadText lk
    rw [e] at ed ⊢
    have ed2 : dV = .none := ed
    subst ed2
    exact .all fun us hl => match us, hl with | [_, _, _, _], _ => rfl
  F_init_BadText := init_at hl Φ (d := in_BadText) (by decide) (Φ.fi_BadText) rfl rfl (Φ.vi_BadText)
  fn_BadText := (Φ.fi_BadText).no
  O_BadWishes := oex_at Φ (by decide) (Φ.fi_BadWishes)
  iC_BadWishes := (Φ.fi_BadWishes).iC
  tI_BadWishes := (Φ.fi_BadWishes).tI
  bI_BadWishes := by
    obtain ⟨dV, kV, doc, pm, an, cda, ct, cc, oc, od, osl, e, lk, _⟩ := init_at (l := l) hl Φ (d := in_BadWishes) (by decide) (Φ.fi_BadWishes) rfl rfl (Φ.vi_BadWishes)
    show Binds _ (fdAt K (He.ma K (He.ga K "BadWishes") "__init__") fd0) _ _
    have ed := df_of Φ.df_BadWishes lk
    rw [e] at ed ⊢
    have ed2 : dV = .none := ed
    subst ed2
    exact .all fun us hl => match us, hl with | [_, _], _ => rfl
  F_init_BadWishes := init_at hl Φ (d := in_BadWishes) (by decide) (Φ.fi_BadWishes) rfl rfl (Φ.vi_BadWishes)
  fn_BadWishes := (Φ.fi_BadWishes).no
  O_Broken := oex_at Φ (by decide) (Φ.fi_Broken)
  iC_Broken := (Φ.fi_Broken).iC
  tI_Broken := (Φ.fi_Broken).tI
  bI_Broken := by
    obtain ⟨dV, kV, doc, pm, an, cda, ct, cc, oc, od, osl, e, lk, _⟩ := init_at (l := l) hl Φ (d := in_Broken) (by decide) (Φ.fi_Broken) rfl rfl (Φ.vi_Broken)
    show Binds _ (fdAt K (He.ma K (He.ga K "Broken") "__init__") fd0) _ _
    have ed := df_of Φ.df_Broken lk
    rw [e] at ed ⊢
    have ed2 : dV = .none := ed
    subst ed2
    exact .all fun us hl => match us, hl with | [_, _], _ => rfl
  F_init_Broken := init_at hl Φ (d := in_Broken) (by decide) (Φ.fi_Broken) rfl rfl (Φ.vi_Broken)
  fn_Broken := (Φ.fi_Broken).no
  O_Collides := oex_at Φ (by decide) (Φ.fi_Collides)
  iC_Collides := (Φ.fi_Collides).iC
  tI_Collides := (Φ.fi_Collides).tI
  bI_Collides := by
    obtain ⟨dV, kV, doc, pm, an, cda, ct, cc, oc, od, osl, e, lk, _⟩ := init_at (l := l) hl Φ (d := in_Collides) (by decide) (Φ.fi_Collides) rfl rfl (Φ.vi_Collides)
    show Binds _ (fdAt K (He.ma K (He.ga K "Collides") "__init__") fd0) _ _
    have ed := df_of Φ.df_Collides lk
    rw [e] at ed ⊢
    have ed2 : dV = .none := ed
    subst ed2
    exact .all fun us hl => match us, hl with | [_, _, _], _ => rfl
  F_init_Collides := init_at hl Φ (d := in_Collides) (by decide) (Φ.fi_Collides) rfl rfl (Φ.vi_Collides)
  fn_Collides := (Φ.fi_Collides).no
  O_Faulty := oex_at Φ (by decide) (Φ.fi_Faulty)
  iC_Faulty := (Φ.fi_Faulty).iC
  tI_Faulty := (Φ.fi_Faulty).tI
  bI_Faulty := by
    obtain ⟨dV, kV, doc, pm, an, cda, ct, cc, oc, od, osl, e, lk, _⟩ := init_at (l := l) hl Φ (d := in_Faulty) (by decide) (Φ.fi_Faulty) rfl rfl (Φ.vi_Faulty)
    show Binds _ (fdAt K (He.ma K (He.ga K "Faulty") "__init__") fd0) _ _
    have ed := df_of Φ.df_Faulty lk
    rw [e] at ed ⊢
    have ed2 : dV = .none := ed
    subst ed2
    exact .all fun us hl => match us, hl with | [_, _], _ => rfl
  F_init_Faulty := init_at hl Φ (d := in_Faulty) (by decide) (Φ.fi_Faulty) rfl rfl (Φ.vi_Faulty)
  fn_Faulty := (Φ.fi_Faulty).no
  O_IsSure := oex_at Φ (by decide) (Φ.fi_IsSure)
  iC_IsSure := (Φ.fi_IsSure).iC
  tI_IsSure := (Φ.fi_IsSure).tI
  bI_IsSure := by
    obtain ⟨dV, kV, doc, pm, an, cda, ct, cc, oc, od, osl, e, lk, _⟩ := init_at (l := l) hl Φ (d := in_IsSure) (by decide) (Φ.fi_IsSure) rfl rfl (Φ.vi_IsSure)
    show Binds _ (fdAt K (He.ma K (He.ga K "IsSure") "__init__") fd0) _ _
    have ed := df_of Φ.df_IsSure lk
    rw [e] at ed ⊢
    have ed2 : dV = .none := ed
    subst ed2
    exact .all fun us hl => match us, hl with | [_, _], _ => rfl
  F_init_IsSure := init_at hl Φ (d := in_IsSure) (by decide) (Φ.fi_IsSure) rfl rfl (Φ.vi_IsSure)
  fn_IsSure := (Φ.fi_IsSure).no
  O_NoFit := oex_at Φ (by decide) (Φ.fi_NoFit)
  iC_NoFit := (Φ.fi_NoFit).iC
  tI_NoFit := (Φ.fi_NoFit).tI
  bI_NoFit := by
    obtain ⟨dV, kV, doc, pm, an, cda, ct, cc, oc, od, osl, e, lk, _⟩ := init_at (l := l) hl Φ (d := in_NoFit) (by decide) (Φ.fi_NoFit) rfl rfl (Φ.vi_NoFit)
    show Binds _ (fdAt K (He.ma K (He.ga K "NoFit") "__init__") fd0) _ _
    have ed := df_of Φ.df_NoFit lk
    rw [e] at ed ⊢
    have ed2 : dV = .none := ed
    subst ed2
    exact .all fun us hl => match us, hl with | [_, _, _, _, _], _ => rfl
  F_init_NoFit := init_at hl Φ (d := in_NoFit) (by decide) (Φ.fi_NoFit) rfl rfl (Φ.vi_NoFit)
  fn_NoFit := (Φ.fi_NoFit).no
  O_NoPlace := oex_at Φ (by decide) (Φ.fi_NoPlace)
  iC_NoPlace := (Φ.fi_NoPlace).iC
  tI_NoPlace := (Φ.fi_NoPlace).tI
  bI_NoPlace := by
    obtain ⟨dV, kV, doc, pm, an, cda, ct, cc, oc, od, osl, e, lk, _⟩ := init_at (l := l) hl Φ (d := in_NoPlace) (by decide) (Φ.fi_NoPlace) rfl rfl (Φ.vi_NoPlace)
    show Binds _ (fdAt K (He.ma K (He.ga K "NoPlace") "__init__") fd0) _ _
    have ed := df_of Φ.df_NoPlace lk
    rw [e] at ed ⊢
    have ed2 : dV = .none := ed
    subst ed2
    exact .all fun us hl => match us, hl with | [_, _], _ => rfl
  F_init_NoPlace := init_at hl Φ (d := in_NoPlace) (by decide) (Φ.fi_NoPlace) rfl rfl (Φ.vi_NoPlace)
  fn_NoPlace := (Φ.fi_NoPlace).no
  O_NoRing := oex_at Φ (by decide) (Φ.fi_NoRing)
  iC_NoRing := (Φ.fi_NoRing).iC
  tI_NoRing := (Φ.fi_NoRing).tI
  bI_NoRing := by
    obtain ⟨dV, kV, doc, pm, an, cda, ct, cc, oc, od, osl, e, lk, _⟩ := init_at (l := l) hl Φ (d := in_NoRing) (by decide) (Φ.fi_NoRing) rfl rfl (Φ.vi_NoRing)
    show Binds _ (fdAt K (He.ma K (He.ga K "NoRing") "__init__") fd0) _ _
    have ed := df_of Φ.df_NoRing lk
    rw [e] at ed ⊢
    have ed2 : dV = .none := ed
    subst ed2
    exact .all fun us hl => match us, hl with | [_, _], _ => rfl
  F_init_NoRing := init_at hl Φ (d := in_NoRing) (by decide) (Φ.fi_NoRing) rfl rfl (Φ.vi_NoRing)
  fn_NoRing := (Φ.fi_NoRing).no
  O_NotGood := oex_at Φ (by decide) (Φ.fi_NotGood)
  iC_NotGood := (Φ.fi_NotGood).iC
  tI_NotGood := (Φ.fi_NotGood).tI
  bI_NotGood := by
    obtain ⟨dV, kV, doc, pm, an, cda, ct, cc, oc, od, osl, e, lk, _⟩ := init_at (l := l) hl Φ (d := in_NotGood) (by decide) (Φ.fi_NotGood) rfl rfl (Φ.vi_NotGood)
    show Binds _ (fdAt K (He.ma K (He.ga K "NotGood") "__init__") fd0) _ _
    have ed := df_of Φ.df_NotGood lk
    rw [e] at ed ⊢
    have ed2 : dV = .none := ed
    subst ed2
    exact .all fun us hl => match us, hl with | [_, _], _ => rfl
  F_init_NotGood := init_at hl Φ (d := in_NotGood) (by decide) (Φ.fi_NotGood) rfl rfl (Φ.vi_NotGood)
  fn_NotGood := (Φ.fi_NotGood).no
  O_NotWritten := oex_at Φ (by decide) (Φ.fi_NotWritten)
  iC_NotWritten := (Φ.fi_NotWritten).iC
  tI_NotWritten := (Φ.fi_NotWritten).tI
  bI_NotWritten := by
    obtain ⟨dV, kV, doc, pm, an, cda, ct, cc, oc, od, osl, e, lk, _⟩ := init_at (l := l) hl Φ (d := in_NotWritten) (by decide) (Φ.fi_NotWritten) rfl rfl (Φ.vi_NotWritten)
    show Binds _ (fdAt K (He.ma K (He.ga K "NotWritten") "__init__") fd0) _ _
    have ed := df_of Φ.df_NotWritten lk
    rw [e] at ed ⊢
    have ed2 : dV = .none := ed
    subst ed2
    exact .all fun us hl => match us, hl with | [_, _], _ => rfl
  F_init_NotWritten := init_at hl Φ (d := in_NotWritten) (by decide) (Φ.fi_NotWritten) rfl rfl (Φ.vi_NotWritten)
  fn_NotWritten := (Φ.fi_NotWritten).no
  O_OpenWorth := oex_at Φ (by decide) (Φ.fi_OpenWorth)
  iC_OpenWorth := (Φ.fi_OpenWorth).iC
  tI_OpenWorth := (Φ.fi_OpenWorth).tI
  bI_OpenWorth := by
    obtain ⟨dV, kV, doc, pm, an, cda, ct, cc, oc, od, osl, e, lk, _⟩ := init_at (l := l) hl Φ (d := in_OpenWorth) (by decide) (Φ.fi_OpenWorth) rfl rfl (Φ.vi_OpenWorth)
    show Binds _ (fdAt K (He.ma K (He.ga K "OpenWorth") "__init__") fd0) _ _
    have ed := df_of Φ.df_OpenWorth lk
    rw [e] at ed ⊢
    have ed2 : dV = .none := ed
    subst ed2
    exact .all fun us hl => match us, hl with | [_, _], _ => rfl
  F_init_OpenWorth := init_at hl Φ (d := in_OpenWorth) (by decide) (Φ.fi_OpenWorth) rfl rfl (Φ.vi_OpenWorth)
  fn_OpenWorth := (Φ.fi_OpenWorth).no
  O_TooMany := oex_at Φ (by decide) (Φ.fi_TooMany)
  iC_TooMany := (Φ.fi_TooMany).iC
  tI_TooMany := (Φ.fi_TooMany).tI
  bI_TooMany := by
    obtain ⟨dV, kV, doc, pm, an, cda, ct, cc, oc, od, osl, e, lk, _⟩ := init_at (l := l) hl Φ (d := in_TooMany) (by decide) (Φ.fi_TooMany) rfl rfl (Φ.vi_TooMany)
    show Binds _ (fdAt K (He.ma K (He.ga K "TooMany") "__init__") fd0) _ _
    have ed := df_of Φ.df_TooMany lk
    rw [e] at ed ⊢
    have ed2 : dV = .none := ed
    subst ed2
    exact .all fun us hl => match us, hl with | [_, _], _ => rfl
  F_init_TooMany := init_at hl Φ (d := in_TooMany) (by decide) (Φ.fi_TooMany) rfl rfl (Φ.vi_TooMany)
  fn_TooMany := (Φ.fi_TooMany).no
  O_Wrong := oex_at Φ (by decide) (Φ.fi_Wrong)
  iC_Wrong := (Φ.fi_Wrong).iC
  tI_Wrong := (Φ.fi_Wrong).tI
  bI_Wrong := by
    obtain ⟨dV, kV, doc, pm, an, cda, ct, cc, oc, od, osl, e, lk, _⟩ := init_at (l := l) hl Φ (d := in_Wrong) (by decide) (Φ.fi_Wrong) rfl rfl (Φ.vi_Wrong)
    show Binds _ (fdAt K (He.ma K (He.ga K "Wrong") "__init__") fd0) _ _
    have ed := df_of Φ.df_Wrong lk
    rw [e] at ed ⊢
    have ed2 : dV = .none := ed
    subst ed2
    exact .all fun us hl => match us, hl with | [_, _, _], _ => rfl
  F_init_Wrong := init_at hl Φ (d := in_Wrong) (by decide) (Φ.fi_Wrong) rfl rfl (Φ.vi_Wrong)
  fn_Wrong := (Φ.fi_Wrong).no
  m_ValueError := PySem.W.mg_none_of X G (Φ.fr_ValueError)
  m_abs := PySem.W.mg_none_of X G (Φ.fr_abs)
  m_enumerate := PySem.W.mg_none_of X G (Φ.fr_enumerate)
  m_int := PySem.W.mg_none_of X G (Φ.fr_int)
  m_isinstance := PySem.W.mg_none_of X G (Φ.fr_isinstance)
  m_len := PySem.W.mg_none_of X G (Φ.fr_len)
  m_repr := PySem.W.mg_none_of X G (Φ.fr_repr)
  m_set := PySem.W.mg_none_of X G (Φ.fr_set)
  m_super := PySem.W.mg_none_of X G (Φ.fr_super)
  ok := ⟨nm_at Φ⟩
  fx_ok := fun C n e => by
    unfold fxT at e
    simp only [Bool.or_eq_true] at e
    rcases e with (((((((((((((((((e | e) | e) | e) | e) | e) | e) | e) | e) | e) | e) | e) | e) | e) | e) | e) | e) | e) | e
    · exact fx_one Φ (by decide) (Φ.fi_BadBits) e
    · exact fx_one Φ (by decide) (Φ.fi_BadEdits) e
    · exact fx_one Φ (by decide) (Φ.fi_BadForks) e
    · exact fx_one Φ (by decide) (Φ.fi_BadLots) e
    · exact fx_one Φ (by decide) (Φ.fi_BadSplit) e
    · exact fx_one Φ (by decide) (Φ.fi_BadText) e
    · exact fx_one Φ (by decide) (Φ.fi_BadWishes) e
    · exact fx_one Φ (by decide) (Φ.fi_Broken) e
    · exact fx_one Φ (by decide) (Φ.fi_Collides) e
    · exact fx_one Φ (by decide) (Φ.fi_Faulty) e
    · exact fx_one Φ (by decide) (Φ.fi_IsSure) e
    · exact fx_one Φ (by decide) (Φ.fi_NoFit) e
    · exact fx_one Φ (by decide) (Φ.fi_NoPlace) e
    · exact fx_one Φ (by decide) (Φ.fi_NoRing) e
    · exact fx_one Φ (by decide) (Φ.fi_NotGood) e
    · exact fx_one Φ (by decide) (Φ.fi_NotWritten) e
    · exact fx_one Φ (by decide) (Φ.fi_OpenWorth) e
    · exact fx_one Φ (by decide) (Φ.fi_TooMany) e
    · exact fx_one Φ (by decide) (Φ.fi_Wrong) e
  sub_ok := fun t c b e => by
    match t, c, e with
    | .ref x, .ref y, e =>
      have e' : (match (mkA K).nm x, (mkA K).nm y with
        | some i, some j => some ((below i).contains j)
        | _, _ => none) = some b := e
      cases e1 : (mkA K).nm x with
      | none => rw [e1] at e'; cases e'
      | some i =>
        cases e2 : (mkA K).nm y with
        | none => rw [e1, e2] at e'; cases e'
        | some j =>
          rw [e1, e2] at e'
          cases e'
          obtain ⟨hi, rfl⟩ := inv_at Φ e1
          obtain ⟨hj, rfl⟩ := inv_at Φ e2
          exact (kit_at Φ hi hj).1
    | .ref x, .type n, e =>
      have e' : (if n = "ValueError" then ((mkA K).nm x).map fun _ => true else none) = some b := e
      by_cases hne : n = "ValueError"
      · subst hne
        rw [if_pos rfl] at e'
        obtain ⟨i, ei, eb⟩ := Option.map_eq_some_iff.mp e'
        cases eb
        obtain ⟨hi, rfl⟩ := inv_at Φ ei
        exact cls_ve (Φ.cls_all i hi)
      · rw [if_neg hne] at e'
        cases e'
  ex_ok := fun C e => by
    have e' : ((mkA K).nm C).isSome = true := e
    obtain ⟨i, ei⟩ := Option.isSome_iff_exists.mp e'
    obtain ⟨hi, rfl⟩ := inv_at Φ ei
    exact (Φ.cls_all i hi).xc
  catch_ok := fun j cls b hj e => by
    match cls, e with
    | .ref x, e =>
      have e' : ((mkA K).nm x).map (fun i => (below i).contains j) = some b := e
      obtain ⟨i, ei, eb⟩ := Option.map_eq_some_iff.mp e'
      cases eb
      obtain ⟨hi, rfl⟩ := inv_at Φ ei
      exact (kit_at Φ hi hj).2 }
theorem lawQ_at {l : OpenLaw} (hl : l.prog = pw) {w : World} {mg : Str → Option Value} {fa : Addr} {h : Heap} {K : Fg} (Φ : Facts K) (X : K.In h) (G : h.Ns mainGlobals mg) (hfa : mg "law" = some (.ref fa)) : LawQ l w K 4 63 "script" mg fa h := by
  have T : ∀ base : Heap, Txt l.prog K base mg (mkA K) := fun base => txt_at hl Φ X G
  have e := hfa.symm.trans (T h).g_law
  cases e
  refine ⟨(mkA K).d_law, [], spM K 1 (r_law (mkA K)), fun p hp => (by cases hp), fun p hp => (by cases hp), fun s u => (by
    obtain ⟨oc, od, kV, doc, pm, an, cdv, ct, osl, e, _⟩ := (T h).F_law.ex
    rw [e]
    exact .of_eq rfl), fun H a ns hl2 hb hO hP hS => ?_, fun base _ _ TB => ok_law (T base)⟩
  have ks : KsL K H a (ns.map V.int) := by
    rcases hS with (hS | hS) | hS
    · rcases hO a (fun z => by cases z) with z | ⟨o, xs, z⟩
      · rw [z] at hS; cases hS
      · rw [z] at hS; cases hS
    · exact .inl hS
    · exact .inr hS
  refine ⟨[.kls (ns.map D.int)], tabS [], fun d _ => d = .bl true, fun _ _ => False, ⟨.ref a, [], rfl, ⟨a, ns.map V.int, rfl, ks, rels_ints ns⟩, rfl⟩, tabS_rel fun p hp => (by cases hp), rfl, law_ok (A := mkA K) ⟨nm_at Φ⟩ hl2 fun _ => rfl, ?_, ?_⟩
  · rintro d S' v H' _ _ r rfl
    exact r
  · rintro x S' c dd H' _ _ _ h
    exact h.elim
theorem boot_n (w : World) : (boot_heap w.params).objs.size = 11 := by kernel_rfl
theorem boot_ann (w : World) : bootAnn w = some (.ref 6) := by kernel_rfl
theorem body_1 : body = body.take 23 ++ ((body.drop 23).take 23 ++ ((body.drop 46).take 23 ++ ((body.drop 69).take 22 ++ body.drop 91))) := by kernel_rfl
theorem put_boot (w : World) : ∃ t n, HandSHeadRun.putAll (boot_heap w.params).objs.toList .nil 0 = some (t, n) := by
  have h : (HandSHeadRun.putAll (boot_heap w.params).objs.toList .nil 0).isSome = true := by kernel_rfl
  obtain ⟨⟨t, n⟩, e⟩ := Option.isSome_iff_exists.mp h
  exact ⟨t, n, e⟩
theorem last5 (w : World) (os : OsState) : (goF (QRun pw w) 11 (some (.ref 6)) 2000 (stN w os 91) (restOf (body.drop 91) envM cdM ⟨240, 0, 245, 24⟩ frs0)).map (fun s => (seesE rowR qv loo w s, obK s)) = some ((true, openGood qv loo), hkK.val w) := by
  cases h : goF (QRun pw w) 11 (some (.ref 6)) 2000 (stN w os 91) (restOf (body.drop 91) envM cdM ⟨240, 0, 245, 24⟩ frs0) with
  | none =>
    have z := run5a w os
    rw [h] at z
    cases z
  | some s =>
    have za := run5a w os
    have zb := run5b w os
    have zc := run5c w os
    rw [h, Option.map_some] at za zb zc
    have ea := Option.some.inj za
    have eb := Option.some.inj zb
    have ec := Option.some.inj zc
    rw [Option.map_some]
    unfold seesE
    rw [eb, ec, ea]
    rfl
theorem ends_at (w : World) : TopEnds rowR qv hkK obK (12 + (1 + (20000 + (20000 + (20000 + (20000 + 2000)))))) loo w := fun os => by
  obtain ⟨s, h5, hs⟩ := last_of (last5 w os)
  refine ⟨s, ?_, hs⟩
  rw [boot_n, boot_ann]
  obtain ⟨t, n, hp⟩ := put_boot w
  rw [← boot_abs (os := os) hp]
  refine go_top (start_of (run0 w os)) (piece_block (piece_of (runB w os)) ?_)
  have h1 := piece_of (run1 w os)
  have h2 := piece_of (run2 w os)
  have h3 := piece_of (run3 w os)
  have h4 := piece_of (run4 w os)
  have z := piece_app h1 (piece_app h2 (piece_app h3 (piece_app h4 h5)))
  rw [← body_1] at z
  exact z
end K24
open PySem PySem.W PyProof.Rows HandSHeadRun MP
theorem PySem.Challenge.cw_whysheets_k24_errors_made_and_bases_holds : PySem.Challenge.rw_whysheets_k24_errors_made_and_bases.Holds := by
  w_on; o_law
  refine MP.head_ends (r := OpenLaw.row PySem.Challenge.rw_whysheets_k24_errors_made_and_bases) (q := K24.qv) (H := K24.hkK) (ob := K24.obK) (loose := K24.loo) (d := HandSHeadRun.topDef K24.rowR.prog 99) (kws := []) K24.obK_eq
    (by kernel_rfl) (fun s => by kernel_rfl) K24.ends_at (by kernel_rfl) (by kernel_rfl) (by kernel_rfl) (by rfl) (by first | assumption | decide +kernel) (by decide +kernel) ⟨rfl, rfl, rfl, rfl, rfl, by decide +kernel⟩ ?hw ?hc
  case hw => w_witness2
  case hc =>
    refine MP.walk_quietT (l := PySem.Challenge.rw_whysheets_k24_errors_made_and_bases) (n := 63) (k := 4) (x := "script") (K := K24.KK) rfl (by decide) (by kernel_rfl) ⟨rfl, by decide, by decide⟩ (fun w h Y => PySem.W.kIn_of Y) ?F
    intro w mg fa h KX G TT hmg0
    have en : (HandSHeadRun.topDef K24.rowR.prog 99).name = ("law" : PySem.Str) := by kernel_rfl
    exact K24.lawQ_at rfl (K24.factsK w.params) KX G (by rw [← en]; exact hmg0)

